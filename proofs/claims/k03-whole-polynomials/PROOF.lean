import PyProof.Rows.All
import Wide.All
import OpenK.AllK
import Wide.FinOn
import HandS.ForMost
import HandS.ForExc
import HandS.IsInst
import HandS.ExcIs
import HandS.Wide
import HandS.WideBits
import HandS.TupAny
import HandS.TupMul
import HandS.Zip
import HandS.NoneIn
import HandS.Deep
import HandS.Flow
import HandS.Style
import HandS.Head2
import HandS.HeadHook2
import HandS.HeadEnd
import KE.GoesEnum
import PyProof.EnumMake
import PySem.Challenge.RW_whicheverend_k03_whole_polynomials_judge
set_option Elab.async false
set_option linter.all false
set_option maxRecDepth 100000
set_option maxHeartbeats 4000000

/-! The third layer: immutable tuples are values; lists, dicts and instances stand in a store of their own. -/
namespace L3
open PySem PySem.Spec L2
abbrev St2 := List (Option V)

/-- a value with its tuples written out; ref: what stands in the store (a list, a dict, an instance) or is opaque; rol: a list that is never written -/
inductive D where
  | non | bl (b : Bool) | int (i : Int) | str (x : Str) | ty (n : String) | ref (a : Addr) | tup (ds : List D) | rol (ds : List D)

/-- what stands in the store -/
inductive MO where
  | lst (ds : List D)
  | dK (kvs : List (Key × D))
  | ins (C : Addr) (fs : List (Str × D))

abbrev Mm := Addr → Option MO
abbrev St3 := List (Option D)
def mupd (M : Mm) (a : Addr) (o : MO) : Mm := fun b => if b = a then some o else M b
theorem mupd_same {M : Mm} {a : Addr} {o : MO} : mupd M a o a = some o := by unfold mupd; rw [if_pos rfl]
theorem mupd_ne {M : Mm} {a b : Addr} {o : MO} (h : b ≠ a) : mupd M a o b = M b := by unfold mupd; rw [if_neg h]

/-- a list that is never written: frozen, or of the written part -/
def SqF (K : PySem.W.Frag) (H : Hp) (a : Addr) (xs : List V) : Prop :=
  (∃ o, H a = some (.frz o (.lst xs))) ∨
    ∃ (o : Obj) (its : Array Value) (n : Nat), K.lookup a = some o ∧ o.cls = .type "list" ∧ o.dict = none ∧ o.data = .seq its n ∧ its.size ≤ sizeLine ∧ Vals xs its.toList
theorem SqF.sq {K : PySem.W.Frag} {H : Hp} {a : Addr} {xs : List V} (h : SqF K H a xs) : SqL K H a xs := by
  rcases h with ⟨o, h⟩ | h
  · exact .inl (.inr ⟨o, h⟩)
  · exact .inr h

mutual
def Rep (K : PySem.W.Frag) (H : Hp) : D → V → Prop
  | .non, v => v = .non
  | .bl b, v => v = .bl b
  | .int i, v => v = .int i
  | .str x, v => v = .str x
  | .ty n, v => v = .ty n
  | .ref a, v => v = .ref a
  | .tup ds, v => ∃ a vs, v = .ref a ∧ SqT K H a vs ∧ RepL K H ds vs
  | .rol ds, v => ∃ a vs, v = .ref a ∧ SqF K H a vs ∧ RepL K H ds vs
def RepL (K : PySem.W.Frag) (H : Hp) : List D → List V → Prop
  | [], vs => vs = []
  | d :: ds, vs => ∃ v r, vs = v :: r ∧ Rep K H d v ∧ RepL K H ds r
end

/-- what never changes has stayed -/
structure Kp (H H' : Hp) : Prop where
  tup : ∀ a xs, Rd H a (.tup xs) → Rd H' a (.tup xs)
  frz : ∀ a o xs, H a = some (.frz o (.lst xs)) → H' a = some (.frz o (.lst xs))
theorem Kp.sqt {K : PySem.W.Frag} {H H' : Hp} {a : Addr} {xs : List V} (k : Kp H H') (h : SqT K H a xs) : SqT K H' a xs := by
  rcases h with h | h
  · exact .inl (k.tup a xs h)
  · exact .inr h
theorem Kp.sqf {K : PySem.W.Frag} {H H' : Hp} {a : Addr} {xs : List V} (k : Kp H H') (h : SqF K H a xs) : SqF K H' a xs := by
  rcases h with ⟨o, h⟩ | h
  · exact .inl ⟨o, k.frz a o xs h⟩
  · exact .inr h
mutual
theorem Rep.keep {K : PySem.W.Frag} {H H' : Hp} (k : Kp H H') : ∀ (d : D) (v : V), Rep K H d v → Rep K H' d v
  | .non, v, h => h
  | .bl b, v, h => h
  | .int i, v, h => h
  | .str x, v, h => h
  | .ty n, v, h => h
  | .ref a, v, h => h
  | .tup ds, v, h => by
    unfold Rep at h ⊢
    obtain ⟨a, vs, e, q, r⟩ := h
    exact ⟨a, vs, e, k.sqt q, RepL.keep k ds vs r⟩
  | .rol ds, v, h => by
    unfold Rep at h ⊢
    obtain ⟨a, vs, e, q, r⟩ := h
    exact ⟨a, vs, e, k.sqf q, RepL.keep k ds vs r⟩
theorem RepL.keep {K : PySem.W.Frag} {H H' : Hp} (k : Kp H H') : ∀ (ds : List D) (vs : List V), RepL K H ds vs → RepL K H' ds vs
  | [], vs, h => h
  | d :: ds, vs, h => by
    unfold RepL at h ⊢
    obtain ⟨v, r, e, q, t⟩ := h
    exact ⟨v, r, e, Rep.keep k d v q, RepL.keep k ds r t⟩
end
theorem RepL.len {K : PySem.W.Frag} {H : Hp} : ∀ {ds : List D} {vs : List V}, RepL K H ds vs → vs.length = ds.length
  | [], vs, h => by
    unfold RepL at h
    rw [h] <;> rfl
  | d :: ds, vs, h => by
    unfold RepL at h
    obtain ⟨v, r, e, _, t⟩ := h
    rw [e, List.length_cons, List.length_cons, RepL.len t]
theorem RepL.get {K : PySem.W.Frag} {H : Hp} : ∀ {ds : List D} {vs : List V} {i : Nat} {d : D}, RepL K H ds vs → ds[i]? = some d → ∃ v, vs[i]? = some v ∧ Rep K H d v
  | [], vs, i, d, h, e => by simp at e
  | d' :: ds, vs, i, d, h, e => by
    unfold RepL at h
    obtain ⟨v, r, ev, q, t⟩ := h
    subst ev
    cases i with
    | zero => simp at e; subst e; exact ⟨v, rfl, q⟩
    | succ i =>
      obtain ⟨v', e', q'⟩ := RepL.get (i := i) (d := d) t (by simpa using e)
      exact ⟨v', by simpa using e', q'⟩
theorem RepL.get' {K : PySem.W.Frag} {H : Hp} {ds : List D} {vs : List V} {i : Nat} {v : V} (r : RepL K H ds vs) (e : vs[i]? = some v) : ∃ d, ds[i]? = some d ∧ Rep K H d v := by
  have hl := r.len
  have hi : i < vs.length := (List.getElem?_eq_some_iff.mp e).1
  have hd : ds[i]? = some (ds[i]'(by omega)) := List.getElem?_eq_getElem (by omega)
  obtain ⟨v', e', q⟩ := r.get hd
  rw [e] at e'
  cases e'
  exact ⟨_, hd, q⟩
theorem RepL.append {K : PySem.W.Frag} {H : Hp} : ∀ {ds es : List D} {vs us : List V}, RepL K H ds vs → RepL K H es us → RepL K H (ds ++ es) (vs ++ us)
  | [], es, vs, us, h, g => by
    unfold RepL at h
    rw [h]
    exact g
  | d :: ds, es, vs, us, h, g => by
    unfold RepL at h
    obtain ⟨v, r, e, q, t⟩ := h
    subst e
    show RepL K H (d :: (ds ++ es)) (v :: (r ++ us))
    unfold RepL
    exact ⟨v, r ++ us, rfl, q, RepL.append t g⟩
theorem RepL.nil {K : PySem.W.Frag} {H : Hp} : RepL K H [] [] := by unfold RepL; rfl
theorem RepL.cons {K : PySem.W.Frag} {H : Hp} {d : D} {ds : List D} {v : V} {vs : List V} (h : Rep K H d v) (t : RepL K H ds vs) : RepL K H (d :: ds) (v :: vs) := by
  unfold RepL
  exact ⟨v, vs, rfl, h, t⟩
theorem RepL.set {K : PySem.W.Frag} {H : Hp} {d : D} {v : V} (r : Rep K H d v) : ∀ {ds : List D} {vs : List V} (i : Nat), RepL K H ds vs → RepL K H (ds.set i d) (vs.set i v)
  | [], vs, i, h => by
    unfold RepL at h
    rw [h]
    exact .nil
  | d' :: ds, vs, i, h => by
    unfold RepL at h
    obtain ⟨v', r', e, q, t⟩ := h
    subst e
    cases i with
    | zero => exact .cons r t
    | succ i => exact .cons q (RepL.set r i t)
theorem RepL.take {K : PySem.W.Frag} {H : Hp} : ∀ {ds : List D} {vs : List V} (n : Nat), RepL K H ds vs → RepL K H (ds.take n) (vs.take n)
  | _, _, 0, _ => by simpa using RepL.nil
  | [], vs, n + 1, h => by
    unfold RepL at h
    rw [h]
    exact .nil
  | d :: ds, vs, n + 1, h => by
    unfold RepL at h
    obtain ⟨v, r, e, q, t⟩ := h
    subst e
    exact .cons q (RepL.take n t)
theorem RepL.drop {K : PySem.W.Frag} {H : Hp} : ∀ {ds : List D} {vs : List V} (n : Nat), RepL K H ds vs → RepL K H (ds.drop n) (vs.drop n)
  | _, _, 0, h => by simpa using h
  | [], vs, n + 1, h => by
    unfold RepL at h
    rw [h]
    exact .nil
  | d :: ds, vs, n + 1, h => by
    unfold RepL at h
    obtain ⟨v, r, e, q, t⟩ := h
    subst e
    exact RepL.drop n t

/-- what the store says of an address -/
def RepO (K : PySem.W.Frag) (H : Hp) (a : Addr) : MO → Prop
  | .lst ds => ∃ vs, H a = some (.lst vs) ∧ RepL K H ds vs
  | .dK kvs => ∃ kws : List (Key × V), H a = some (.dK kws) ∧ kvs.map (·.1) = kws.map (·.1) ∧ RepL K H (kvs.map (·.2)) (kws.map (·.2))
  | .ins C fs => ∃ dx fvs, H a = some (.ins C dx fvs) ∧ fs.map (·.1) = fvs.map (·.1) ∧ RepL K H (fs.map (·.2)) (fvs.map (·.2))
theorem RepO.keep {K : PySem.W.Frag} {H H' : Hp} {a : Addr} {m : MO} (k : Kp H H') (e : H' a = H a) (h : RepO K H a m) : RepO K H' a m := by
  cases m with
  | lst ds => obtain ⟨vs, q, r⟩ := h; exact ⟨vs, e.trans q, r.keep k⟩
  | dK kvs => obtain ⟨vs, q, z, r⟩ := h; exact ⟨vs, e.trans q, z, r.keep k⟩
  | ins C fs => obtain ⟨dx, vs, q, z, r⟩ := h; exact ⟨dx, vs, e.trans q, z, r.keep k⟩
theorem RepO.notTup {K : PySem.W.Frag} {H : Hp} {a : Addr} {m : MO} {xs : List V} (h : RepO K H a m) : ¬ Rd H a (.tup xs) := by
  rintro (z | ⟨o, z⟩) <;> cases m <;> (first | (obtain ⟨vs, q, _⟩ := h; rw [q] at z; cases z) | (obtain ⟨dx, vs, q, _⟩ := h; rw [q] at z; cases z))
theorem RepO.notFrz {K : PySem.W.Frag} {H : Hp} {a : Addr} {m : MO} {o : Obj} {u : HO} (h : RepO K H a m) : ¬ H a = some (.frz o u) := by
  intro z
  cases m <;> (first | (obtain ⟨vs, q, _⟩ := h; rw [q] at z; cases z) | (obtain ⟨dx, vs, q, _⟩ := h; rw [q] at z; cases z))
theorem RepO.some_ {K : PySem.W.Frag} {H : Hp} {a : Addr} {m : MO} (h : RepO K H a m) : ∃ o, H a = some o := by
  cases m <;> (first | (obtain ⟨vs, q, _⟩ := h; exact ⟨_, q⟩) | (obtain ⟨dx, vs, q, _⟩ := h; exact ⟨_, q⟩))
def MOk (K : PySem.W.Frag) (M : Mm) (H : Hp) : Prop := ∀ a m, M a = some m → RepO K H a m
theorem MOk.none_of {K : PySem.W.Frag} {M : Mm} {H : Hp} {a : Addr} (h : MOk K M H) (e : H a = none) : M a = none := by
  cases q : M a with
  | none => rfl
  | some m =>
    obtain ⟨o, z⟩ := (h a m q).some_
    rw [e] at z
    cases z

/-- what stands outside of the store has stayed; the store has lost no place -/
structure Fr (M : Mm) (H : Hp) (M' : Mm) (H' : Hp) : Prop where
  out : ∀ a o, H a = some o → M a = none → H' a = some o ∧ M' a = none
  dom : ∀ a, M a ≠ none → M' a ≠ none
theorem Fr.refl {M : Mm} {H : Hp} : Fr M H M H := ⟨fun _ _ e n => ⟨e, n⟩, fun _ h => h⟩
theorem Fr.trans {M M1 M2 : Mm} {H H1 H2 : Hp} (a : Fr M H M1 H1) (b : Fr M1 H1 M2 H2) : Fr M H M2 H2 :=
  ⟨fun x o e n => let ⟨e1, n1⟩ := a.out x o e n; b.out x o e1 n1, fun x h => b.dom x (a.dom x h)⟩
theorem Fr.kp {K : PySem.W.Frag} {M M' : Mm} {H H' : Hp} (f : Fr M H M' H') (k : MOk K M H) : Kp H H' where
  tup := fun a xs h => by
    have n : M a = none := by
      cases q : M a with
      | none => rfl
      | some m => exact absurd h (k a m q).notTup
    rcases h with h | ⟨o, h⟩
    · exact .inl (f.out a _ h n).1
    · exact .inr ⟨o, (f.out a _ h n).1⟩
  frz := fun a o xs h => by
    have n : M a = none := by
      cases q : M a with
      | none => rfl
      | some m => exact absurd h (k a m q).notFrz
    exact (f.out a _ h n).1
/-- the store is made smaller, but not below M -/
structure Fgt (M M' M1 : Mm) : Prop where
  sub : ∀ a m, M1 a = some m → M' a = some m
  dom : ∀ a, M a ≠ none → M1 a ≠ none
theorem Fgt.refl {M M' : Mm} (h : ∀ a, M a ≠ none → M' a ≠ none) : Fgt M M' M' := ⟨fun _ _ e => e, h⟩
theorem Fgt.mok {K : PySem.W.Frag} {M M' M1 : Mm} {H : Hp} (g : Fgt M M' M1) (k : MOk K M' H) : MOk K M1 H := fun a m e => k a m (g.sub a m e)
theorem Fgt.fr {M M' M1 : Mm} {H H' : Hp} (g : Fgt M M' M1) (f : Fr M H M' H') : Fr M H M1 H' where
  out := fun a o e n => by
    obtain ⟨h1, h2⟩ := f.out a o e n
    refine ⟨h1, ?_⟩
    cases q : M1 a with
    | none => rfl
    | some m =>
      have z := g.sub a m q
      rw [h2] at z
      cases z
  dom := g.dom

/-- slots and store are held -/
structure RepS (K : PySem.W.Frag) (σ3 : St3) (M : Mm) (σ : St2) (H : Hp) : Prop where
  len : σ3.length = σ.length
  get : ∀ (i : Nat) d, σ3[i]? = some (some d) → ∃ v, σ[i]? = some (some v) ∧ Rep K H d v
  mok : MOk K M H
theorem RepS.step {K : PySem.W.Frag} {σ3 : St3} {M M' : Mm} {σ : St2} {H H' : Hp} (r : RepS K σ3 M σ H) (k : MOk K M' H') (f : Fr M H M' H') : RepS K σ3 M' σ H' :=
  ⟨r.len, fun i d e => let ⟨v, e1, q⟩ := r.get i d e; ⟨v, e1, q.keep (f.kp r.mok)⟩, k⟩
theorem RepS.set_ {K : PySem.W.Frag} {σ3 : St3} {M : Mm} {σ : St2} {H : Hp} {d : D} {v : V} (r : RepS K σ3 M σ H) (q : Rep K H d v) (i : Nat) : RepS K (σ3.set i (some d)) M (σ.set i (some v)) H := by
  refine ⟨by simpa using r.len, fun j e h => ?_, r.mok⟩
  by_cases hj : j = i
  · subst hj
    have hlt : j < σ3.length := by
      have := (List.getElem?_eq_some_iff.mp h).1
      simpa using this
    rw [List.getElem?_set_self hlt] at h
    cases h
    exact ⟨v, by rw [List.getElem?_set_self (by rw [← r.len]; exact hlt)], q⟩
  · rw [List.getElem?_set_ne (Ne.symm hj)] at h
    obtain ⟨u, e1, z⟩ := r.get j e h
    exact ⟨u, by rw [List.getElem?_set_ne (Ne.symm hj)]; exact e1, z⟩
/-- slots are forgotten -/
def Wks (σ σ' : St3) : Prop := σ.length = σ'.length ∧ ∀ (i : Nat) d, σ'[i]? = some (some d) → σ[i]? = some (some d)
theorem Wks.refl (σ : St3) : Wks σ σ := ⟨rfl, fun _ _ h => h⟩
theorem RepS.weak {K : PySem.W.Frag} {σ3 σ3' : St3} {M : Mm} {σ : St2} {H : Hp} (r : RepS K σ3 M σ H) (w : Wks σ3 σ3') : RepS K σ3' M σ H :=
  ⟨w.1.symm.trans r.len, fun i d e => r.get i d (w.2 i d e), r.mok⟩

/-! ### readings -/
/-- an exception: its class, its fields -/
abbrev XK3 := Value → List (Str × D) → Mm → Prop
abbrev VK3 := D → Mm → Prop
abbrev TE3 := St3 → Mm → VK3 → XK3 → Prop
abbrev TT3 := St3 → Mm → (Bool → Mm → Prop) → XK3 → Prop
abbrev TA3 := St3 → Mm → (List D → Mm → Prop) → XK3 → Prop
structure Ends3 where
  nx : St3 → Mm → Prop
  rt : VK3
  xx : St3 → XK3 := fun _ _ _ _ => False
  bk : St3 → Mm → Prop := fun _ _ => False
  ct : St3 → Mm → Prop := fun _ _ => False
abbrev TS3 := Ends3 → St3 → Mm → Prop
def RepX (K : PySem.W.Frag) (H : Hp) (fs : List (Str × D)) (dd : Option Addr) : Prop :=
  (fs = [] ∧ dd = none) ∨ ∃ d fvs, fs ≠ [] ∧ dd = some d ∧ H d = some (.xd fvs) ∧ fs.map (·.1) = fvs.map (·.1) ∧ RepL K H (fs.map (·.2)) (fvs.map (·.2))
section
variable (K : PySem.W.Frag) (W : WX)
def qE (M : Mm) (H : Hp) (Q3 : VK3) (Q : VK) : Prop := ∀ d M' v H', MOk K M' H' → Fr M H M' H' → Rep K H' d v → Q3 d M' → Q v H'
def qB (M : Mm) (H : Hp) (Q3 : Bool → Mm → Prop) (Q : Bool → Hp → Prop) : Prop := ∀ b M' H', MOk K M' H' → Fr M H M' H' → Q3 b M' → Q b H'
def qA (M : Mm) (H : Hp) (Q3 : List D → Mm → Prop) (Q : List V → Hp → Prop) : Prop := ∀ ds M' vs H', MOk K M' H' → Fr M H M' H' → RepL K H' ds vs → Q3 ds M' → Q vs H'
def qX (M : Mm) (H : Hp) (X3 : XK3) (Q : XK) : Prop := ∀ c fs M' dd H', MOk K M' H' → Fr M H M' H' → RepX K H' fs dd → X3 c fs M' → Q c dd H'
def qS (M : Mm) (H : Hp) (Q3 : St3 → Mm → Prop) (Q : St2 → Hp → Prop) : Prop := ∀ σ3 M' σ H', RepS K σ3 M' σ H' → Fr M H M' H' → Q3 σ3 M' → Q σ H'
def lift (t : TE3) : TE := fun σ H Q => ∃ σ3 M Q3 X3, RepS K σ3 M σ H ∧ t σ3 M Q3 X3 ∧ qE K M H Q3 Q ∧ qX K M H X3 fun c dd H' => W c dd σ H'
def liftT (t : TT3) : TT := fun σ H Q => ∃ σ3 M Q3 X3, RepS K σ3 M σ H ∧ t σ3 M Q3 X3 ∧ qB K M H Q3 Q ∧ qX K M H X3 fun c dd H' => W c dd σ H'
def liftA (t : TA3) : TA := fun σ H Q => ∃ σ3 M Q3 X3, RepS K σ3 M σ H ∧ t σ3 M Q3 X3 ∧ qA K M H Q3 Q ∧ qX K M H X3 fun c dd H' => W c dd σ H'
structure EndL (M : Mm) (H : Hp) (D3 : Ends3) (D : Ends) : Prop where
  nx : qS K M H D3.nx D.nx
  rt : qE K M H D3.rt D.rt
  bk : qS K M H D3.bk D.bk
  ct : qS K M H D3.ct D.ct
  xx : ∀ c fs σ3 M' dd σ H', RepS K σ3 M' σ H' → Fr M H M' H' → RepX K H' fs dd → D3.xx σ3 c fs M' → W c dd σ H'
def liftS (t : TS3) : TS := fun D σ H => ∃ σ3 M D3, RepS K σ3 M σ H ∧ t D3 σ3 M ∧ EndL K W M H D3 D
end
section
variable {K : PySem.W.Frag} {W : WX} {M M' : Mm} {H H' : Hp}
theorem qE.step {Q3 : VK3} {Q : VK} (q : qE K M H Q3 Q) (f : Fr M H M' H') : qE K M' H' Q3 Q := fun d N v h k g r z => q d N v h k (f.trans g) r z
theorem qB.step {Q3 : Bool → Mm → Prop} {Q : Bool → Hp → Prop} (q : qB K M H Q3 Q) (f : Fr M H M' H') : qB K M' H' Q3 Q := fun d N h k g z => q d N h k (f.trans g) z
theorem qA.step {Q3 : List D → Mm → Prop} {Q : List V → Hp → Prop} (q : qA K M H Q3 Q) (f : Fr M H M' H') : qA K M' H' Q3 Q := fun d N v h k g r z => q d N v h k (f.trans g) r z
theorem qX.step {X3 : XK3} {Q : XK} (q : qX K M H X3 Q) (f : Fr M H M' H') : qX K M' H' X3 Q := fun c fs N dd h k g r z => q c fs N dd h k (f.trans g) r z
theorem qS.step {Q3 : St3 → Mm → Prop} {Q : St2 → Hp → Prop} (q : qS K M H Q3 Q) (f : Fr M H M' H') : qS K M' H' Q3 Q := fun σ3 N σ h r g z => q σ3 N σ h r (f.trans g) z
theorem EndL.step {D3 : Ends3} {D : Ends} (e : EndL K W M H D3 D) (f : Fr M H M' H') : EndL K W M' H' D3 D :=
  ⟨e.nx.step f, e.rt.step f, e.bk.step f, e.ct.step f, fun c fs σ3 N dd σ h r g x z => e.xx c fs σ3 N dd σ h r (f.trans g) x z⟩
theorem EndL.qx {D3 : Ends3} {D : Ends} (e : EndL K W M H D3 D) {σ3 : St3} {σ : St2} (r : RepS K σ3 M σ H) : qX K M H (D3.xx σ3) fun c dd H' => W c dd σ H' :=
  fun c fs N dd h k f x z => e.xx c fs σ3 N dd σ h (r.step k f) f x z
end
abbrev PE3 (X : Cx) (W : WX) (e : Expr) (t : TE3) : Prop := PE X e (lift X.K W t)
abbrev PT3 (X : Cx) (W : WX) (e : Expr) (t : TT3) : Prop := PT X e (liftT X.K W t)
abbrev PW3 (X : Cx) (W : WX) (e : Expr) (t : TT3) : Prop := PW X e (liftT X.K W t)
abbrev PA3 (X : Cx) (W : WX) (es : List Expr) (t : TA3) : Prop := PA X es (liftA X.K W t)
abbrev PS3 (X : Cx) (W : WX) (st : Stmt) (t : TS3) : Prop := PS X st (liftS X.K W t)
abbrev PSs3 (X : Cx) (W : WX) (st : List Stmt) (t : TS3) : Prop := PSs X st (liftS X.K W t)
theorem _root_.L2.PE.imp {X : Cx} {e : Expr} {t t' : TE} (h : PE X e t) (i : ∀ σ H Q, t' σ H Q → t σ H Q) : PE X e t' := ⟨fun pins s σ H Q I q => h.run pins s σ H Q I (i σ H Q q)⟩
theorem _root_.L2.PT.imp {X : Cx} {e : Expr} {t t' : TT} (h : PT X e t) (i : ∀ σ H Q, t' σ H Q → t σ H Q) : PT X e t' := ⟨fun pins s σ H Q I q => h.run pins s σ H Q I (i σ H Q q)⟩
theorem _root_.L2.PW.imp {X : Cx} {e : Expr} {t t' : TT} (h : PW X e t) (i : ∀ σ H Q, t' σ H Q → t σ H Q) : PW X e t' := ⟨fun wh pins s σ H Q I q => h.run wh pins s σ H Q I (i σ H Q q)⟩
theorem _root_.L2.PA.imp {X : Cx} {es : List Expr} {t t' : TA} (h : PA X es t) (i : ∀ σ H Q, t' σ H Q → t σ H Q) : PA X es t' := ⟨fun pos pins s σ H Q I q => h.run pos pins s σ H Q I (i σ H Q q)⟩
theorem _root_.L2.PS.imp {X : Cx} {st : Stmt} {t t' : TS} (h : PS X st t) (i : ∀ D σ H, t' D σ H → t D σ H) : PS X st t' := ⟨fun pins s σ H D I q => h.run pins s σ H D I (i D σ H q)⟩
theorem _root_.L2.PSs.imp {X : Cx} {st : List Stmt} {t t' : TS} (h : PSs X st t) (i : ∀ D σ H, t' D σ H → t D σ H) : PSs X st t' := ⟨fun pins s σ H D I q => h.run pins s σ H D I (i D σ H q)⟩
end L3

namespace L3
open PySem PySem.Spec L2

theorem rep_non {K : PySem.W.Frag} {H : Hp} : Rep K H .non .non := by unfold Rep; rfl
theorem rep_bl {K : PySem.W.Frag} {H : Hp} {b : Bool} : Rep K H (.bl b) (.bl b) := by unfold Rep; rfl
theorem rep_int {K : PySem.W.Frag} {H : Hp} {i : Int} : Rep K H (.int i) (.int i) := by unfold Rep; rfl
theorem rep_str {K : PySem.W.Frag} {H : Hp} {x : Str} : Rep K H (.str x) (.str x) := by unfold Rep; rfl
theorem rep_ty {K : PySem.W.Frag} {H : Hp} {n : String} : Rep K H (.ty n) (.ty n) := by unfold Rep; rfl
theorem rep_ref {K : PySem.W.Frag} {H : Hp} {a : Addr} : Rep K H (.ref a) (.ref a) := by unfold Rep; rfl
theorem rep_tup {K : PySem.W.Frag} {H : Hp} {a : Addr} {ds : List D} {vs : List V} (q : SqT K H a vs) (r : RepL K H ds vs) : Rep K H (.tup ds) (.ref a) := by unfold Rep; exact ⟨a, vs, rfl, q, r⟩
theorem rep_rol {K : PySem.W.Frag} {H : Hp} {a : Addr} {ds : List D} {vs : List V} (q : SqF K H a vs) (r : RepL K H ds vs) : Rep K H (.rol ds) (.ref a) := by unfold Rep; exact ⟨a, vs, rfl, q, r⟩
section
variable {K : PySem.W.Frag} {H : Hp} {v : V}
theorem Rep.non_ (h : Rep K H .non v) : v = .non := by unfold Rep at h; exact h
theorem Rep.bl_ {b : Bool} (h : Rep K H (.bl b) v) : v = .bl b := by unfold Rep at h; exact h
theorem Rep.int_ {i : Int} (h : Rep K H (.int i) v) : v = .int i := by unfold Rep at h; exact h
theorem Rep.str_ {x : Str} (h : Rep K H (.str x) v) : v = .str x := by unfold Rep at h; exact h
theorem Rep.ty_ {n : String} (h : Rep K H (.ty n) v) : v = .ty n := by unfold Rep at h; exact h
theorem Rep.ref_ {a : Addr} (h : Rep K H (.ref a) v) : v = .ref a := by unfold Rep at h; exact h
theorem Rep.tup_ {ds : List D} (h : Rep K H (.tup ds) v) : ∃ a vs, v = .ref a ∧ SqT K H a vs ∧ RepL K H ds vs := by unfold Rep at h; exact h
theorem Rep.rol_ {ds : List D} (h : Rep K H (.rol ds) v) : ∃ a vs, v = .ref a ∧ SqF K H a vs ∧ RepL K H ds vs := by unfold Rep at h; exact h
end
theorem RepL.nil_ {K : PySem.W.Frag} {H : Hp} {vs : List V} (h : RepL K H [] vs) : vs = [] := by unfold RepL at h; exact h
theorem RepL.cons_ {K : PySem.W.Frag} {H : Hp} {d : D} {ds : List D} {vs : List V} (h : RepL K H (d :: ds) vs) : ∃ v r, vs = v :: r ∧ Rep K H d v ∧ RepL K H ds r := by unfold RepL at h; exact h
theorem RepL.one_ {K : PySem.W.Frag} {H : Hp} {d : D} {vs : List V} (h : RepL K H [d] vs) : ∃ v, vs = [v] ∧ Rep K H d v := by
  obtain ⟨v, r, e, q, t⟩ := h.cons_
  have := t.nil_
  subst this
  exact ⟨v, e, q⟩
theorem RepL.two_ {K : PySem.W.Frag} {H : Hp} {d e : D} {vs : List V} (h : RepL K H [d, e] vs) : ∃ v u, vs = [v, u] ∧ Rep K H d v ∧ Rep K H e u := by
  obtain ⟨v, r, e1, q, t⟩ := h.cons_
  obtain ⟨u, e2, q2⟩ := t.one_
  subst e2
  exact ⟨v, u, e1, q, q2⟩

/-! ### a new tuple, a new list, a changed list -/
section
variable {K : PySem.W.Frag} {M : Mm} {H : Hp}
theorem mok_tup (k : MOk K M H) {p : Addr} {xs : List V} (hp : H p = none) : MOk K M (upd H p (.tup xs)) ∧ Fr M H M (upd H p (.tup xs)) := by
  have n := k.none_of hp
  have f : Fr M H M (upd H p (.tup xs)) := ⟨fun a o e q => ⟨by rw [upd_ne (ne_of_none e hp)]; exact e, q⟩, fun _ h => h⟩
  refine ⟨fun a m e => ?_, f⟩
  have ne : a ≠ p := fun z => by rw [z, n] at e; cases e
  exact (k a m e).keep (f.kp k) (upd_ne ne)
theorem rep_newtup (k : MOk K M H) {p : Addr} {ds : List D} {vs : List V} (hp : H p = none) (r : RepL K H ds vs) : Rep K (upd H p (.tup vs)) (.tup ds) (.ref p) :=
  rep_tup (SqT.of upd_same) (r.keep ((mok_tup k hp).2.kp k))
theorem mok_new (k : MOk K M H) {p : Addr} {o : HO} {m : MO} (hp : H p = none) (hm : M p = none) (r : Kp H (upd H p o) → RepO K (upd H p o) p m) : MOk K (mupd M p m) (upd H p o) ∧ Fr M H (mupd M p m) (upd H p o) := by
  have kp : Kp H (upd H p o) := ⟨fun a xs h => by
    rcases h with h | ⟨u, h⟩
    · exact .inl (by rw [upd_ne (ne_of_none h hp)]; exact h)
    · exact .inr ⟨u, by rw [upd_ne (ne_of_none h hp)]; exact h⟩, fun a u xs h => by rw [upd_ne (ne_of_none h hp)]; exact h⟩
  have f : Fr M H (mupd M p m) (upd H p o) := ⟨fun a u e q => by
    have ne := ne_of_none e hp
    exact ⟨by rw [upd_ne ne]; exact e, by rw [mupd_ne ne]; exact q⟩, fun a h => by
    by_cases z : a = p
    · subst z; rw [mupd_same]; intro q; cases q
    · rw [mupd_ne z]; exact h⟩
  refine ⟨fun a m' e => ?_, f⟩
  by_cases z : a = p
  · subst z
    rw [mupd_same] at e
    cases e
    exact r kp
  · rw [mupd_ne z] at e
    exact (k a m' e).keep kp (upd_ne z)
theorem mok_newlst (k : MOk K M H) {p : Addr} {ds : List D} {vs : List V} (hp : H p = none) (r : RepL K H ds vs) : MOk K (mupd M p (.lst ds)) (upd H p (.lst vs)) ∧ Fr M H (mupd M p (.lst ds)) (upd H p (.lst vs)) :=
  mok_new k hp (k.none_of hp) fun kp => ⟨vs, upd_same, r.keep kp⟩
/-- an object of the store is changed -/
theorem mok_set (k : MOk K M H) {p : Addr} {o : HO} {m m0 : MO} (hm : M p = some m0) (r : Kp H (upd H p o) → RepO K (upd H p o) p m) : MOk K (mupd M p m) (upd H p o) ∧ Fr M H (mupd M p m) (upd H p o) := by
  have r0 := k p m0 hm
  have kp : Kp H (upd H p o) := ⟨fun a xs h => by
    have ne : a ≠ p := fun z => by rw [z] at h; exact r0.notTup h
    rcases h with h | ⟨u, h⟩
    · exact .inl (by rw [upd_ne ne]; exact h)
    · exact .inr ⟨u, by rw [upd_ne ne]; exact h⟩, fun a u xs h => by
    have ne : a ≠ p := fun z => by rw [z] at h; exact r0.notFrz h
    rw [upd_ne ne]; exact h⟩
  have f : Fr M H (mupd M p m) (upd H p o) := ⟨fun a u e q => by
    have ne : a ≠ p := fun z => by rw [z, hm] at q; cases q
    exact ⟨by rw [upd_ne ne]; exact e, by rw [mupd_ne ne]; exact q⟩, fun a h => by
    by_cases z : a = p
    · subst z; rw [mupd_same]; intro q; cases q
    · rw [mupd_ne z]; exact h⟩
  refine ⟨fun a m' e => ?_, f⟩
  by_cases z : a = p
  · subst z
    rw [mupd_same] at e
    cases e
    exact r kp
  · rw [mupd_ne z] at e
    exact (k a m' e).keep kp (upd_ne z)
theorem mok_setlst (k : MOk K M H) {p : Addr} {ds : List D} {vs : List V} {m0 : MO} (hm : M p = some m0) (r : RepL K H ds vs) : MOk K (mupd M p (.lst ds)) (upd H p (.lst vs)) ∧ Fr M H (mupd M p (.lst ds)) (upd H p (.lst vs)) :=
  mok_set k hm fun kp => ⟨vs, upd_same, r.keep kp⟩
end

/-! ### names, constants -/
section
variable {X : Cx} {W : WX} {pos : Pos}
def tVar3 (i : Nat) : TE3 := fun σ M Q _ => ∃ d, σ[i]? = some (some d) ∧ Q d M
def tC3 (d : D) : TE3 := fun _ M Q _ => Q d M
theorem pe3_of {e : Expr} {t : TE} {t3 : TE3} (h : PE X e t) (i : ∀ σ3 M Q3 X3 σ H Q, RepS X.K σ3 M σ H → t3 σ3 M Q3 X3 → qE X.K M H Q3 Q → (qX X.K M H X3 fun c dd H' => W c dd σ H') → t σ H Q) : PE3 X W e t3 :=
  h.imp fun σ H Q ⟨σ3, M, Q3, X3, r, q, hq, hx⟩ => i σ3 M Q3 X3 σ H Q r q hq hx
theorem pv3 (i : Nat) {x : Str} (hN : X.N[i]? = some x := by rfl) (hv : Vis X.env.scope x := by first | exact Or.inl rfl | exact Or.inr (Or.inl rfl) | exact Or.inr (Or.inr rfl)) (hd : (x == ("__debug__" : Str)) = false := by decide)
    (hcd : (x == ("__classdict__" : Str)) = false := by decide) : PE3 X W (.Name x pos) (tVar3 i) :=
  pe3_of (pe_var hN hv hd hcd) fun σ3 M Q3 X3 σ H Q r ⟨d, e, q⟩ hq _ => by
    obtain ⟨v, e1, z⟩ := r.get i d e
    exact ⟨v, e1, hq d M v H r.mok .refl z q⟩
theorem pe3_c {e : Expr} {v : V} {d : D} (h : PE X e (tC v)) (z : ∀ H, Rep X.K H d v) : PE3 X W e (tC3 d) :=
  pe3_of h fun σ3 M Q3 X3 σ H Q r q hq _ => hq d M v H r.mok .refl (z H) q
theorem pe3_int {i : Int} {j} : PE3 X W (.Constant (.int i) j pos) (tC3 (.int i)) := pe3_c pe_int fun _ => rep_int
theorem pe3_bl {b : Bool} {j} : PE3 X W (.Constant (.bool b) j pos) (tC3 (.bl b)) := pe3_c pe_bl fun _ => rep_bl
theorem pe3_non {j} : PE3 X W (.Constant .none j pos) (tC3 .non) := pe3_c pe_non fun _ => rep_non
theorem pe3_str {x : Str} {j} : PE3 X W (.Constant (.str x) j pos) (tC3 (.str x)) := pe3_c pe_str fun _ => rep_str
theorem pe3_glob {x : Str} {d : D} {v : V} {u : Value} (hg : Gl X x) (hm : X.mg x = some u) (r : RelV v u) (z : ∀ H, Rep X.K H d v) (hd : (x == ("__debug__" : Str)) = false := by decide) : PE3 X W (.Name x pos) (tC3 d) := pe3_c (pe_glob hg hm r hd) z
theorem pe3_ty {x : Str} {n : String} (hg : Gl X x) (hm : X.mg x = none) (hv : bootBuiltins x = some (.type n)) (hn : x ≠ "__name__" := by decide) (hd : (x == ("__debug__" : Str)) = false := by decide) : PE3 X W (.Name x pos) (tC3 (.ty n)) :=
  pe3_c (pe_bltn (v := .ty n) hg hm hv rfl hn hd) fun _ => rep_ty
end

/-! ### operators by values -/
abbrev R3 := D → D → Mm → VK3 → Prop
abbrev U3 := D → Mm → VK3 → Prop
abbrev C3 := List D → Mm → VK3 → Prop
def OpL (K : PySem.W.Frag) (r : R2) (r3 : R3) : Prop := ∀ d e x y M H Q3 Q, MOk K M H → Rep K H d x → Rep K H e y → r3 d e M Q3 → qE K M H Q3 Q → r x y H Q
def UnL (K : PySem.W.Frag) (r : V → Hp → VK → Prop) (r3 : U3) : Prop := ∀ d x M H Q3 Q, MOk K M H → Rep K H d x → r3 d M Q3 → qE K M H Q3 Q → r x H Q
def CallL (K : PySem.W.Frag) (r : List V → Hp → VK → Prop) (r3 : C3) : Prop := ∀ ds xs M H Q3 Q, MOk K M H → RepL K H ds xs → r3 ds M Q3 → qE K M H Q3 Q → r xs H Q
def tOp3 (r : R3) (ta tb : TE3) : TE3 := fun σ M Q X => ta σ M (fun d M1 => tb σ M1 (fun e M2 => r d e M2 Q) X) X
def tUn3 (r : U3) (ta : TE3) : TE3 := fun σ M Q X => ta σ M (fun d M1 => r d M1 Q) X
def tTest3 (t : TE3) : TT3 := fun σ M Q X => t σ M (fun d M1 => ∃ b, d = .bl b ∧ Q b M1) X
section
variable {X : Cx} {W : WX} {pos : Pos} {a b c : Expr} {ta tb tc : TE3}
theorem lift_op {r : R2} {r3 : R3} (hl : OpL X.K r r3) (σ : St2) (H : Hp) (Q : VK) (h : lift X.K W (tOp3 r3 ta tb) σ H Q) : tOp r (lift X.K W ta) (lift X.K W tb) σ H Q := by
  obtain ⟨σ3, M, Q3, X3, rs, q, hq, hx⟩ := h
  refine ⟨σ3, M, _, X3, rs, q, fun d M1 x H1 k1 f1 r1 h1 => ?_, hx⟩
  refine ⟨σ3, M1, _, X3, rs.step k1 f1, h1, fun e M2 y H2 k2 f2 r2 h2 => ?_, hx.step f1⟩
  exact hl d e x y M2 H2 Q3 Q k2 (r1.keep (f2.kp k1)) r2 h2 (hq.step (f1.trans f2))
theorem pe3_op {op : Operator} {r : R2} {r3 : R3} (ho : OpR X (binaryOp op) r) (hl : OpL X.K r r3) (ha : PE3 X W a ta) (hb : PE3 X W b tb) : PE3 X W (.BinOp a op b pos) (tOp3 r3 ta tb) := (pe_op ho ha hb).imp (lift_op hl)
theorem pe3_cmp {op : CmpOp} {r : R2} {r3 : R3} (ho : OpR X (compareOp op) r) (hl : OpL X.K r r3) (ha : PE3 X W a ta) (hb : PE3 X W b tb) (hm : behindInMarks op b = false) : PE3 X W (.Compare a [op] [b] pos) (tOp3 r3 ta tb) :=
  (pe_cmpR ho ha hb hm).imp (lift_op hl)
theorem lift_test {t : TE3} {t2 : TE} (i : ∀ σ H Q, lift X.K W t σ H Q → t2 σ H Q) (σ : St2) (H : Hp) (Q : Bool → Hp → Prop) (h : liftT X.K W (tTest3 t) σ H Q) : tTest t2 σ H Q := by
  obtain ⟨σ3, M, Q3, X3, rs, q, hq, hx⟩ := h
  refine i σ H _ ⟨σ3, M, _, X3, rs, q, fun d M1 x H1 k1 f1 r1 ⟨b, e, z⟩ => ?_, hx⟩
  subst e
  exact ⟨b, r1.bl_, hq b M1 H1 k1 f1 z⟩
theorem pt3_cmp {op : CmpOp} {r : R2} {r3 : R3} (ho : OpR X (compareOp op) r) (hl : OpL X.K r r3) (ha : PE3 X W a ta) (hb : PE3 X W b tb) (hm : behindInMarks op b = false) : PT3 X W (.Compare a [op] [b] pos) (tTest3 (tOp3 r3 ta tb)) :=
  (pt_cmpR ho ha hb hm).imp (lift_test (lift_op hl))
/-- a < b < c -/
def tChain3 (r r' : R3) (ta tb tc : TE3) : TE3 := fun σ M Q X => ta σ M (fun d M1 => tb σ M1 (fun e M2 => r d e M2 fun z M3 => ∃ k, z = .bl k ∧ if k = true then tc σ M3 (fun f M4 => r' e f M4 Q) X else Q (.bl false) M3) X) X
theorem lift_chain {r r' : R2} {r3 r3' : R3} (hl : OpL X.K r r3) (hl' : OpL X.K r' r3') (σ : St2) (H : Hp) (Q : VK) (h : lift X.K W (tChain3 r3 r3' ta tb tc) σ H Q) : tChain r r' (lift X.K W ta) (lift X.K W tb) (lift X.K W tc) σ H Q := by
  obtain ⟨σ3, M, Q3, X3, rs, q, hq, hx⟩ := h
  refine ⟨σ3, M, _, X3, rs, q, fun d M1 x H1 k1 f1 r1 h1 => ?_, hx⟩
  refine ⟨σ3, M1, _, X3, rs.step k1 f1, h1, fun e M2 y H2 k2 f2 r2 h2 => ?_, hx.step f1⟩
  refine hl d e x y M2 H2 _ _ k2 (r1.keep (f2.kp k1)) r2 h2 fun z M3 v H3 k3 f3 r3 ⟨k, ez, h3⟩ => ?_
  subst ez
  refine ⟨k, r3.bl_, ?_⟩
  have f13 := (f1.trans f2).trans f3
  cases k with
  | false =>
    rw [if_neg Bool.false_ne_true] at h3 ⊢
    exact hq _ M3 _ H3 k3 f13 rep_bl h3
  | true =>
    rw [if_pos rfl] at h3 ⊢
    refine ⟨σ3, M3, _, X3, rs.step k3 f13, h3, fun f M4 w H4 k4 f4 r4 h4 => ?_, hx.step f13⟩
    exact hl' e f y w M4 H4 Q3 Q k4 (r2.keep ((f3.trans f4).kp k2)) r4 h4 (hq.step (f13.trans f4))
theorem pe3_chain {op op' : CmpOp} {r r' : R2} {r3 r3' : R3} (ho : OpR X (compareOp op) r) (hl : OpL X.K r r3) (ho' : OpR X (compareOp op') r') (hl' : OpL X.K r' r3') (ha : PE3 X W a ta) (hb : PE3 X W b tb) (hc : PE3 X W c tc)
    (hm : lastMarks [op, op'] [b, c] = false := by with_unfolding_all rfl) : PE3 X W (.Compare a [op, op'] [b, c] pos) (tChain3 r3 r3' ta tb tc) := (pe_chain ho ho' ha hb hc hm).imp (lift_chain hl hl')
theorem pt3_chain {op op' : CmpOp} {r r' : R2} {r3 r3' : R3} (ho : OpR X (compareOp op) r) (hl : OpL X.K r r3) (ho' : OpR X (compareOp op') r') (hl' : OpL X.K r' r3') (ha : PE3 X W a ta) (hb : PE3 X W b tb) (hc : PE3 X W c tc)
    (hm : lastMarks [op, op'] [b, c] = false := by with_unfolding_all rfl) : PT3 X W (.Compare a [op, op'] [b, c] pos) (tTest3 (tChain3 r3 r3' ta tb tc)) := (pt_chain ho ho' ha hb hc hm).imp (lift_test (lift_chain hl hl'))
theorem pe3_un {op : UnaryOp} {r : V → Hp → VK → Prop} {r3 : U3} (ho : UnR X (unaryOp op) r) (hl : UnL X.K r r3) (ha : PE3 X W a ta) : PE3 X W (.UnaryOp op a pos) (tUn3 r3 ta) :=
  (pe_un ho ha).imp fun σ H Q ⟨σ3, M, Q3, X3, rs, q, hq, hx⟩ => ⟨σ3, M, _, X3, rs, q, fun d M1 x H1 k1 f1 r1 h1 => hl d x M1 H1 Q3 Q k1 r1 h1 (hq.step f1), hx⟩
end

/-! ### tests, and, or, not, if-else -/
section
variable {X : Cx} {W : WX} {pos : Pos} {a b c : Expr} {rest : List Expr} {ta tb : TE3} {tA tB : TT3}
def truD (M : Mm) : D → Option Bool
  | .non => some false
  | .bl b => some b
  | .int i => some (i != 0)
  | .tup ds => some (!ds.isEmpty)
  | .rol ds => some (!ds.isEmpty)
  | .ref a => match M a with
    | some (.lst ds) => some (!ds.isEmpty)
    | some (.dK kvs) => some (!kvs.isEmpty)
    | _ => none
  | _ => none
def tTruth3 (t : TE3) : TT3 := fun σ M Q X => t σ M (fun d M1 => ∃ b, truD M1 d = some b ∧ Q b M1) X
theorem RepL.empty {K : PySem.W.Frag} {H : Hp} {ds : List D} {vs : List V} (r : RepL K H ds vs) : vs.isEmpty = ds.isEmpty := by
  have := r.len
  cases ds <;> cases vs <;> simp_all
theorem truD_ok {K : PySem.W.Frag} {M : Mm} {H : Hp} {d : D} {x : V} {b : Bool} (k : MOk K M H) (r : Rep K H d x) (h : truD M d = some b) : TruV K x H b := by
  cases d with
  | non => rw [r.non_]; cases h; rfl
  | bl c => rw [r.bl_]; cases h; rfl
  | int i => rw [r.int_]; cases h; rfl
  | str z => cases h
  | ty n => cases h
  | tup ds =>
    obtain ⟨p, vs, e, q, t⟩ := r.tup_
    subst e
    cases h
    exact .inr (.inl ⟨vs, q, by rw [t.empty]⟩)
  | rol ds =>
    obtain ⟨p, vs, e, q, t⟩ := r.rol_
    subst e
    cases h
    exact .inl ⟨vs, q.sq, by rw [t.empty]⟩
  | ref p =>
    rw [r.ref_]
    cases e : M p with
    | none => simp [truD, e] at h
    | some m =>
      simp only [truD, e] at h
      cases m with
      | lst ds =>
        obtain ⟨vs, q, t⟩ := k p _ e
        cases h
        exact .inl ⟨vs, SqL.of q, by rw [t.empty]⟩
      | dK kvs =>
        obtain ⟨vs, q, z, t⟩ := k p _ e
        cases h
        refine .inr (.inr ⟨vs, q, ?_⟩)
        have := congrArg List.length z
        cases kvs <;> cases vs <;> simp_all
      | ins C fs => cases h
theorem pt3_truth (ha : PE3 X W a ta) (he : ∀ whole, isTrue a X.env whole = (do let v ← whole; standAt a.pos; holding [v] (truthy v)) := by intro _; rfl) : PT3 X W a (tTruth3 ta) :=
  (pt_truth ha he).imp fun σ H Q ⟨σ3, M, Q3, X3, rs, q, hq, hx⟩ => ⟨σ3, M, _, X3, rs, q, fun d M1 x H1 k1 f1 r1 ⟨b, e, z⟩ => ⟨b, truD_ok k1 r1 e, hq b M1 H1 k1 f1 z⟩, hx⟩
def tAnd3 (t u : TT3) : TT3 := fun σ M Q X => t σ M (fun c M1 => if c = true then u σ M1 Q X else Q false M1) X
def tOr3 (t u : TT3) : TT3 := fun σ M Q X => t σ M (fun c M1 => if c = true then Q true M1 else u σ M1 Q X) X
def tNot3 (t : TT3) : TT3 := fun σ M Q X => t σ M (fun c M1 => Q (!c) M1) X
theorem pw3_and1 (ha : PT3 X W a tA) : PW3 X W (.BoolOp .And [a] pos) tA := pw_and1 ha
theorem pw3_or1 (ha : PT3 X W a tA) : PW3 X W (.BoolOp .Or [a] pos) tA := pw_or1 ha
theorem pw3_and (ha : PT3 X W a tA) (hb : PW3 X W (.BoolOp .And (b :: rest) pos) tB) : PW3 X W (.BoolOp .And (a :: b :: rest) pos) (tAnd3 tA tB) :=
  (pw_and ha hb).imp fun σ H Q ⟨σ3, M, Q3, X3, rs, q, hq, hx⟩ => ⟨σ3, M, _, X3, rs, q, fun c M1 H1 k1 f1 h1 => by
    cases c with
    | true =>
      rw [if_pos rfl] at h1 ⊢
      exact ⟨σ3, M1, Q3, X3, rs.step k1 f1, h1, hq.step f1, hx.step f1⟩
    | false =>
      rw [if_neg Bool.false_ne_true] at h1 ⊢
      exact hq _ M1 H1 k1 f1 h1, hx⟩
theorem pw3_or (ha : PT3 X W a tA) (hb : PW3 X W (.BoolOp .Or (b :: rest) pos) tB) : PW3 X W (.BoolOp .Or (a :: b :: rest) pos) (tOr3 tA tB) :=
  (pw_or ha hb).imp fun σ H Q ⟨σ3, M, Q3, X3, rs, q, hq, hx⟩ => ⟨σ3, M, _, X3, rs, q, fun c M1 H1 k1 f1 h1 => by
    cases c with
    | false =>
      rw [if_neg Bool.false_ne_true] at h1 ⊢
      exact ⟨σ3, M1, Q3, X3, rs.step k1 f1, h1, hq.step f1, hx.step f1⟩
    | true =>
      rw [if_pos rfl] at h1 ⊢
      exact hq _ M1 H1 k1 f1 h1, hx⟩
theorem pt3_pw {e : Expr} (h : PW3 X W e tA) : PT3 X W e tA := PW.pt h
theorem pt3_not (ha : PT3 X W a tA) : PT3 X W (.UnaryOp .Not a pos) (tNot3 tA) :=
  (pt_not ha).imp fun σ H Q ⟨σ3, M, Q3, X3, rs, q, hq, hx⟩ => ⟨σ3, M, _, X3, rs, q, fun c M1 H1 k1 f1 h1 => hq _ M1 H1 k1 f1 h1, hx⟩
def tAndV3 (ta tb : TE3) : TE3 := fun σ M Q X => ta σ M (fun d M1 => ∃ c, d = .bl c ∧ if c = true then tb σ M1 Q X else Q (.bl false) M1) X
def tOrV3 (ta tb : TE3) : TE3 := fun σ M Q X => ta σ M (fun d M1 => ∃ c, d = .bl c ∧ if c = true then Q (.bl true) M1 else tb σ M1 Q X) X
def tNotV3 (ta : TE3) : TE3 := fun σ M Q X => ta σ M (fun d M1 => ∃ c, d = .bl c ∧ Q (.bl (!c)) M1) X
theorem pe3_one {op} (h : PE3 X W a ta) : PE3 X W (.BoolOp op [a] pos) ta := pe_one h
theorem pe3_and (ha : PE3 X W a ta) (hb : PE3 X W (.BoolOp .And (b :: rest) pos) tb) : PE3 X W (.BoolOp .And (a :: b :: rest) pos) (tAndV3 ta tb) :=
  (pe_and ha hb).imp fun σ H Q ⟨σ3, M, Q3, X3, rs, q, hq, hx⟩ => ⟨σ3, M, _, X3, rs, q, fun d M1 x H1 k1 f1 r1 ⟨c, e, h1⟩ => by
    subst e
    refine ⟨c, r1.bl_, ?_⟩
    cases c with
    | true =>
      rw [if_pos rfl] at h1 ⊢
      exact ⟨σ3, M1, Q3, X3, rs.step k1 f1, h1, hq.step f1, hx.step f1⟩
    | false =>
      rw [if_neg Bool.false_ne_true] at h1 ⊢
      exact hq _ M1 _ H1 k1 f1 rep_bl h1, hx⟩
theorem pe3_or (ha : PE3 X W a ta) (hb : PE3 X W (.BoolOp .Or (b :: rest) pos) tb) : PE3 X W (.BoolOp .Or (a :: b :: rest) pos) (tOrV3 ta tb) :=
  (pe_or ha hb).imp fun σ H Q ⟨σ3, M, Q3, X3, rs, q, hq, hx⟩ => ⟨σ3, M, _, X3, rs, q, fun d M1 x H1 k1 f1 r1 ⟨c, e, h1⟩ => by
    subst e
    refine ⟨c, r1.bl_, ?_⟩
    cases c with
    | false =>
      rw [if_neg Bool.false_ne_true] at h1 ⊢
      exact ⟨σ3, M1, Q3, X3, rs.step k1 f1, h1, hq.step f1, hx.step f1⟩
    | true =>
      rw [if_pos rfl] at h1 ⊢
      exact hq _ M1 _ H1 k1 f1 rep_bl h1, hx⟩
theorem pe3_not (ha : PE3 X W a ta) : PE3 X W (.UnaryOp .Not a pos) (tNotV3 ta) :=
  (pe_not ha).imp fun σ H Q ⟨σ3, M, Q3, X3, rs, q, hq, hx⟩ => ⟨σ3, M, _, X3, rs, q, fun d M1 x H1 k1 f1 r1 ⟨c, e, h1⟩ => by
    subst e
    exact ⟨c, r1.bl_, hq _ M1 _ H1 k1 f1 rep_bl h1⟩, hx⟩
def tIf3 (t : TT3) (ta tb : TE3) : TE3 := fun σ M Q X => t σ M (fun c M1 => if c = true then ta σ M1 Q X else tb σ M1 Q X) X
theorem pe3_if {c : Expr} (hc : PT3 X W c tA) (ha : PE3 X W a ta) (hb : PE3 X W b tb) : PE3 X W (.IfExp c a b pos) (tIf3 tA ta tb) :=
  (pe_ifExp hc ha hb).imp fun σ H Q ⟨σ3, M, Q3, X3, rs, q, hq, hx⟩ => ⟨σ3, M, _, X3, rs, q, fun c M1 H1 k1 f1 h1 => by
    cases c with
    | true =>
      rw [if_pos rfl] at h1 ⊢
      exact ⟨σ3, M1, Q3, X3, rs.step k1 f1, h1, hq.step f1, hx.step f1⟩
    | false =>
      rw [if_neg Bool.false_ne_true] at h1 ⊢
      exact ⟨σ3, M1, Q3, X3, rs.step k1 f1, h1, hq.step f1, hx.step f1⟩, hx⟩
end

/-! ### arguments, displays -/
def tNil3 : TA3 := fun _ M Q _ => Q [] M
def tCons3 (te : TE3) (tr : TA3) : TA3 := fun σ M Q X => te σ M (fun d M1 => tr σ M1 (fun ds M2 => Q (d :: ds) M2) X) X
def tTup3 (t : TA3) : TE3 := fun σ M Q X => t σ M (fun ds M1 => ds.length ≤ sizeLine ∧ Q (.tup ds) M1) X
def tLst3 (t : TA3) : TE3 := fun σ M Q X => t σ M (fun ds M1 => ds.length ≤ sizeLine ∧ ∀ l, M1 l = none → Q (.ref l) (mupd M1 l (.lst ds))) X
section
variable {X : Cx} {W : WX} {pos : Pos} {e : Expr} {es : List Expr} {te : TE3} {t : TA3}
theorem pa3_nil : PA3 X W [] tNil3 := pa_nil.imp fun σ H Q ⟨σ3, M, Q3, X3, rs, q, hq, hx⟩ => hq [] M [] H rs.mok .refl .nil q
theorem pa3_cons (ha : PE3 X W e te) (hr : PA3 X W es t) (hs : starEach (e :: es) X.env = (false, eval e X.env) :: starEach es X.env := by rfl) : PA3 X W (e :: es) (tCons3 te t) :=
  (pa_cons ha hr hs).imp fun σ H Q ⟨σ3, M, Q3, X3, rs, q, hq, hx⟩ => ⟨σ3, M, _, X3, rs, q, fun d M1 x H1 k1 f1 r1 h1 =>
    ⟨σ3, M1, _, X3, rs.step k1 f1, h1, fun ds M2 xs H2 k2 f2 r2 h2 => hq _ M2 _ H2 k2 (f1.trans f2) (.cons (r1.keep (f2.kp k1)) r2) h2, hx.step f1⟩, hx⟩
theorem pe3_tup {x1} (h : PA3 X W es t) : PE3 X W (.Tuple es x1 pos) (tTup3 t) :=
  (pe_tup h).imp fun σ H Q ⟨σ3, M, Q3, X3, rs, q, hq, hx⟩ => ⟨σ3, M, _, X3, rs, q, fun ds M1 xs H1 k1 f1 r1 ⟨hl, h1⟩ =>
    ⟨by rw [r1.len]; exact hl, fun p hp => let ⟨k2, f2⟩ := mok_tup (xs := xs) k1 hp; hq _ M1 _ _ k2 (f1.trans f2) (rep_newtup k1 hp r1) h1⟩, hx⟩
theorem pe3_lst (h : PA3 X W es t) : PE3 X W (.List es pos) (tLst3 t) :=
  (pe_lst h).imp fun σ H Q ⟨σ3, M, Q3, X3, rs, q, hq, hx⟩ => ⟨σ3, M, _, X3, rs, q, fun ds M1 xs H1 k1 f1 r1 ⟨hl, h1⟩ =>
    ⟨by rw [r1.len]; exact hl, fun p hp => let ⟨k2, f2⟩ := mok_newlst k1 hp r1; hq _ _ _ _ k2 (f1.trans f2) rep_ref (h1 p (k1.none_of hp))⟩, hx⟩
end
end L3

namespace L3
section
open PySem PySem.Spec PyProof.Rows L2
/-- what // asks: a divisor that is not 0, below 2 ^ 9000 -/
def CDivF (_ j : Int) : Prop := j ≠ 0 ∧ j.natAbs.log2 < 9000
theorem op_fdivF {X : Cx} : OpR X (binaryOp .FloorDiv) (rI CDivF fun i j => .int (i.fdiv j)) := opI fun i j _ _ _ _ _ hc q => floordiv_int hc.1 q (.inl (PyProof.noPylong_of_log2 hc.2))
end
open PySem PySem.Spec L2

/-! ### values: + - * // % ** -/
section
variable {K : PySem.W.Frag}
def r3I (C : Int → Int → Prop) (g : Int → Int → D) : R3
  | .int i, .int j, M, Q => C i j ∧ Q (g i j) M
  | _, _, _, _ => False
def r3I0 (g : Int → Int → D) : R3
  | .int i, .int j, M, Q => Q (g i j) M
  | _, _, _, _ => False
theorem r3I_inv {C : Int → Int → Prop} {g : Int → Int → D} {d e : D} {M : Mm} {Q : VK3} (h : r3I C g d e M Q) : ∃ i j, d = .int i ∧ e = .int j ∧ C i j ∧ Q (g i j) M := by
  cases d <;> cases e <;> first | exact h.elim | exact ⟨_, _, rfl, rfl, h.1, h.2⟩
theorem r3I0_inv {g : Int → Int → D} {d e : D} {M : Mm} {Q : VK3} (h : r3I0 g d e M Q) : ∃ i j, d = .int i ∧ e = .int j ∧ Q (g i j) M := by
  cases d <;> cases e <;> first | exact h.elim | exact ⟨_, _, rfl, rfl, h⟩
theorem opl_I {C : Int → Int → Prop} {g : Int → Int → V} {g3 : Int → Int → D} (z : ∀ i j H, Rep K H (g3 i j) (g i j)) : OpL K (rI C g) (r3I C g3) := fun d e x y M H Q3 Q k rd re h hq => by
  obtain ⟨i, j, rfl, rfl, c, q⟩ := r3I_inv h
  exact ⟨i, j, rd.int_, re.int_, c, hq _ M _ H k .refl (z i j H) q⟩
theorem opl_I0 {g : Int → Int → V} {g3 : Int → Int → D} (z : ∀ i j H, Rep K H (g3 i j) (g i j)) : OpL K (rI0 g) (r3I0 g3) := fun d e x y M H Q3 Q k rd re h hq => by
  obtain ⟨i, j, rfl, rfl, q⟩ := r3I0_inv h
  exact ⟨i, j, rd.int_, re.int_, hq _ M _ H k .refl (z i j H) q⟩
abbrev r3Sub : R3 := r3I0 fun i j => .int (i - j)
abbrev r3Lt : R3 := r3I0 fun i j => .bl (decide (i < j))
abbrev r3Le : R3 := r3I0 fun i j => .bl (decide (i ≤ j))
abbrev r3Gt : R3 := r3I0 fun i j => .bl (decide (j < i))
abbrev r3Ge : R3 := r3I0 fun i j => .bl (decide (j ≤ i))
abbrev r3Mod : R3 := r3I (fun _ j => 0 < j) fun i j => .int (i % j)
abbrev r3Div : R3 := r3I CDivF fun i j => .int (i.fdiv j)
abbrev r3Pow : R3 := r3I CPow fun i j => .int (i ^ j.toNat)
theorem opl_sub : OpL K (rI0 fun i j => .int (i - j)) r3Sub := opl_I0 fun _ _ _ => rep_int
theorem opl_lt : OpL K (rI0 fun i j => .bl (decide (i < j))) r3Lt := opl_I0 fun _ _ _ => rep_bl
theorem opl_le : OpL K (rI0 fun i j => .bl (decide (i ≤ j))) r3Le := opl_I0 fun _ _ _ => rep_bl
theorem opl_gt : OpL K (rI0 fun i j => .bl (decide (j < i))) r3Gt := opl_I0 fun _ _ _ => rep_bl
theorem opl_ge : OpL K (rI0 fun i j => .bl (decide (j ≤ i))) r3Ge := opl_I0 fun _ _ _ => rep_bl
theorem opl_mod : OpL K (rI (fun _ j => 0 < j) fun i j => .int (i % j)) r3Mod := opl_I fun _ _ _ => rep_int
theorem opl_div : OpL K (rI CDivF fun i j => .int (i.fdiv j)) r3Div := opl_I fun _ _ _ => rep_int
theorem opl_pow : OpL K (rI CPow fun i j => .int (i ^ j.toNat)) r3Pow := opl_I fun _ _ _ => rep_int
theorem OpL.or {r r' : R2} {s s' t : R3} (h : OpL K r s) (h' : OpL K r' s') (i : ∀ d e M Q, t d e M Q → s d e M Q ∨ s' d e M Q) : OpL K (fun x y H Q => r x y H Q ∨ r' x y H Q) t :=
  fun d e x y M H Q3 Q k rd re q hq => (i d e M Q3 q).elim (fun z => .inl (h d e x y M H Q3 Q k rd re z hq)) fun z => .inr (h' d e x y M H Q3 Q k rd re z hq)

/-- a + b: ints, tuples, texts, lists -/
def r3Add : R3
  | .int i, .int j, M, Q => Q (.int (i + j)) M
  | .tup xs, .tup ys, M, Q => xs.length + ys.length ≤ sizeLine ∧ Q (.tup (xs ++ ys)) M
  | .str x, .str y, M, Q => x.length + y.length ≤ sizeLine ∧ Q (.str (x ++ y)) M
  | .ref a, .ref b, M, Q => ∃ xs ys, M a = some (.lst xs) ∧ M b = some (.lst ys) ∧ xs.length + ys.length ≤ sizeLine ∧ ∀ l, M l = none → Q (.ref l) (mupd M l (.lst (xs ++ ys)))
  | _, _, _, _ => False
def rAddAll (K : PySem.W.Frag) : R2 := fun x y H Q => (rI0 (fun i j => .int (i + j)) x y H Q ∨ rCatA K x y H Q) ∨ ((∃ i j, x = .str i ∧ y = .str j ∧ i.length + j.length ≤ sizeLine ∧ Q (.str (i ++ j)) H) ∨ rCat x y H Q)
theorem or_add {X : Cx} : OpR X (binaryOp .Add) (rAddAll X.K) := (op_add.or op_catA).or (op_add_str.or op_cat)
theorem opl_add : OpL K (rAddAll K) r3Add := fun d e x y M H Q3 Q k rd re h hq => by
  cases d with
  | int i =>
    cases e with
    | int j => exact .inl (.inl ⟨i, j, rd.int_, re.int_, hq _ M _ H k .refl rep_int h⟩)
    | _ => exact h.elim
  | str i =>
    cases e with
    | str j => exact .inr (.inl ⟨i, j, rd.str_, re.str_, h.1, hq _ M _ H k .refl rep_str h.2⟩)
    | _ => exact h.elim
  | tup xs =>
    cases e with
    | tup ys =>
      obtain ⟨a, vs, ea, qa, ta⟩ := rd.tup_
      obtain ⟨b, us, eb, qb, tb⟩ := re.tup_
      subst ea eb
      obtain ⟨hl, q⟩ := h
      refine .inl (.inr ⟨a, b, vs, us, rfl, rfl, qa, qb, by rw [ta.len, tb.len]; exact hl, fun z => ?_, fun _ z => ?_, fun _ _ p hp => ?_⟩)
      · have e0 : xs = [] := by
          have := ta.len
          rw [z] at this
          exact List.length_eq_zero_iff.mp this.symm
        subst e0
        exact hq _ M _ H k .refl (rep_tup qb tb) q
      · have e0 : ys = [] := by
          have := tb.len
          rw [z] at this
          exact List.length_eq_zero_iff.mp this.symm
        subst e0
        rw [List.append_nil] at q
        exact hq _ M _ H k .refl (rep_tup qa ta) q
      · obtain ⟨k2, f2⟩ := mok_tup (xs := vs ++ us) k hp
        exact hq _ M _ _ k2 f2 (rep_newtup k hp (ta.append tb)) q
    | _ => exact h.elim
  | ref a =>
    cases e with
    | ref b =>
      obtain ⟨xs, ys, ea, eb, hl, q⟩ := h
      obtain ⟨vs, qa, ta⟩ := k a _ ea
      obtain ⟨us, qb, tb⟩ := k b _ eb
      rw [rd.ref_, re.ref_]
      refine .inr (.inr ⟨a, b, vs, us, rfl, rfl, qa, qb, by rw [ta.len, tb.len]; exact hl, fun p hp => ?_⟩)
      obtain ⟨k2, f2⟩ := mok_newlst k hp (ta.append tb)
      exact hq _ _ _ _ k2 f2 rep_ref (q p (k.none_of hp))
    | _ => exact h.elim
  | _ => exact h.elim

/-- a * b: ints (one of them below 2 ^ 64, or together below 2 ^ 27 bits), a list times an int -/
def MulOk (i j : Int) : Prop := CMul i j ∨ CMulX i j
def r3Mul : R3
  | .int i, .int j, M, Q => MulOk i j ∧ Q (.int (i * j)) M
  | .ref a, .int j, M, Q => ∃ xs, M a = some (.lst xs) ∧ -(2 ^ 63) ≤ j ∧ j < 2 ^ 63 ∧ xs.length * j.toNat ≤ sizeLine ∧ ∀ l, M l = none → Q (.ref l) (mupd M l (.lst (List.replicate j.toNat xs).flatten))
  | _, _, _, _ => False
def rMulAll : R2 := fun x y H Q => (rI CMul (fun i j => .int (i * j)) x y H Q ∨ rI CMulX (fun i j => .int (i * j)) x y H Q) ∨ rRep x y H Q
theorem or_mul {X : Cx} : OpR X (binaryOp .Mult) rMulAll := (op_mul.or op_mulX).or op_rep
theorem RepL.rep {K : PySem.W.Frag} {H : Hp} {ds : List D} {vs : List V} (r : RepL K H ds vs) : ∀ n : Nat, RepL K H (List.replicate n ds).flatten (List.replicate n vs).flatten
  | 0 => .nil
  | n + 1 => by
    rw [List.replicate_succ, List.replicate_succ, List.flatten_cons, List.flatten_cons]
    exact r.append (RepL.rep r n)
theorem opl_mul : OpL K rMulAll r3Mul := fun d e x y M H Q3 Q k rd re h hq => by
  cases d with
  | int i =>
    cases e with
    | int j =>
      obtain ⟨c | c, q⟩ := h
      · exact .inl (.inl ⟨i, j, rd.int_, re.int_, c, hq _ M _ H k .refl rep_int q⟩)
      · exact .inl (.inr ⟨i, j, rd.int_, re.int_, c, hq _ M _ H k .refl rep_int q⟩)
    | _ => exact h.elim
  | ref a =>
    cases e with
    | int j =>
      obtain ⟨xs, ea, h1, h2, hl, q⟩ := h
      obtain ⟨vs, qa, ta⟩ := k a _ ea
      refine .inr ⟨a, j, vs, rd.ref_, re.int_, qa, h1, h2, by rw [ta.len]; exact hl, fun p hp => ?_⟩
      obtain ⟨k2, f2⟩ := mok_newlst k hp (ta.rep j.toNat)
      exact hq _ _ _ _ k2 f2 rep_ref (q p (k.none_of hp))
    | _ => exact h.elim
  | _ => exact h.elim

/-! ### == and !=, in -/
mutual
def toP : D → PyData
  | .non => .none
  | .bl b => .bool b
  | .int i => .int i
  | .str x => .str x
  | .tup ds => .tuple (toPs ds)
  | .rol ds => .list (toPs ds)
  | _ => .none
def toPs : List D → List PyData
  | [] => []
  | d :: ds => toP d :: toPs ds
end
mutual
/-- no objects within -/
def okD : D → Bool
  | .non | .bl _ | .int _ => true
  | .str x => PyData.strOk x
  | .tup ds => okDs ds
  | .rol ds => okDs ds
  | _ => false
def okDs : List D → Bool
  | [] => true
  | d :: ds => okD d && okDs ds
end
mutual
def dpD : D → Nat
  | .tup ds => dpDs ds + 1
  | .rol ds => dpDs ds + 1
  | _ => 0
def dpDs : List D → Nat
  | [] => 0
  | d :: ds => max (dpD d) (dpDs ds)
end
mutual
theorem toP_lay : ∀ d : D, okD d = true → (toP d).canLay0 = true
  | .non, _ => by simp [toP, PyData.canLay0]
  | .bl _, _ => by simp [toP, PyData.canLay0]
  | .int _, _ => by simp [toP, PyData.canLay0]
  | .str x, h => by simpa [toP, PyData.canLay0, okD] using h
  | .ty _, h => by simp [okD] at h
  | .ref _, h => by simp [okD] at h
  | .tup ds, h => by
    simp only [toP, PyData.canLay0]
    exact toPs_lay ds (by simpa [okD] using h)
  | .rol ds, h => by
    simp only [toP, PyData.canLay0]
    exact toPs_lay ds (by simpa [okD] using h)
theorem toPs_lay : ∀ ds : List D, okDs ds = true → PyData.canLayAll0 (toPs ds) = true
  | [], _ => by simp [toPs, PyData.canLayAll0]
  | d :: ds, h => by
    have h' : okD d = true ∧ okDs ds = true := by simpa [okDs] using h
    simp only [toPs, PyData.canLayAll0, toP_lay d h'.1, toPs_lay ds h'.2, Bool.and_self]
end
mutual
theorem toP_dp : ∀ d : D, (toP d).depth = dpD d
  | .non => by simp [toP, PyData.depth, dpD]
  | .bl _ => by simp [toP, PyData.depth, dpD]
  | .int _ => by simp [toP, PyData.depth, dpD]
  | .str x => by simp [toP, PyData.depth, dpD]
  | .ty _ => by simp [toP, PyData.depth, dpD]
  | .ref _ => by simp [toP, PyData.depth, dpD]
  | .tup ds => by simp [toP, PyData.depth, dpD, toPs_dp ds]
  | .rol ds => by simp [toP, PyData.depth, dpD, toPs_dp ds]
theorem toPs_dp : ∀ ds : List D, PyData.depthAll (toPs ds) = dpDs ds
  | [] => by simp [toPs, PyData.depthAll, dpDs]
  | d :: ds => by simp [toPs, PyData.depthAll, dpDs, toP_dp d, toPs_dp ds]
end
mutual
theorem toP_dp_of {H : Hp} : ∀ (d : D) (v : V), okD d = true → Rep K H d v → Dp K H v (toP d)
  | .non, v, _, r => by rw [r.non_]; simp only [toP]; exact .non
  | .bl b, v, _, r => by rw [r.bl_]; simp only [toP]; exact .bl b
  | .int i, v, _, r => by rw [r.int_]; simp only [toP]; exact .int i
  | .str x, v, _, r => by rw [r.str_]; simp only [toP]; exact .str x
  | .ty _, _, h, _ => by simp [okD] at h
  | .ref _, _, h, _ => by simp [okD] at h
  | .tup ds, v, h, r => by
    obtain ⟨a, vs, e, q, t⟩ := r.tup_
    subst e
    simp only [toP]
    exact .tup q (toPs_dp_of ds vs (by simpa [okD] using h) t)
  | .rol ds, v, h, r => by
    obtain ⟨a, vs, e, q, t⟩ := r.rol_
    subst e
    simp only [toP]
    exact .lst q.sq (toPs_dp_of ds vs (by simpa [okD] using h) t)
theorem toPs_dp_of {H : Hp} : ∀ (ds : List D) (vs : List V), okDs ds = true → RepL K H ds vs → DpAll K H vs (toPs ds)
  | [], vs, _, r => by rw [r.nil_]; simp only [toPs]; exact .nil
  | d :: ds, vs, h, r => by
    have h' : okD d = true ∧ okDs ds = true := by simpa [okDs] using h
    obtain ⟨v, u, e, q, t⟩ := r.cons_
    subst e
    simp only [toPs]
    exact .cons (toP_dp_of d v h'.1 q) (toPs_dp_of ds u h'.2 t)
end
/-- a value as plain data, lists of the store (of data without objects) written out one deep -/
def datP (d : D) : Option PyData := if okD d = true ∧ dpD d ≤ 60 then some (toP d) else none
def datD (M : Mm) : D → Option PyData
  | .ref a => match M a with
    | some (.lst ds) => if okDs ds = true ∧ dpDs ds ≤ 60 then some (.list (toPs ds)) else none
    | _ => none
  | .non => datP .non
  | .bl b => datP (.bl b)
  | .int i => datP (.int i)
  | .str x => datP (.str x)
  | .ty n => datP (.ty n)
  | .tup ds => datP (.tup ds)
  | .rol ds => datP (.rol ds)
theorem datD_ok {M : Mm} {H : Hp} {d : D} {x : V} {p : PyData} (k : MOk K M H) (r : Rep K H d x) (h : datD M d = some p) : Dp K H x p ∧ SeqAt.shaped p = true := by
  have plain : ∀ d : D, datP d = some p → Rep K H d x → Dp K H x p ∧ SeqAt.shaped p = true := fun d h r => by
    unfold datP at h
    by_cases z : okD d = true ∧ dpD d ≤ 60
    · rw [if_pos z] at h
      cases h
      refine ⟨toP_dp_of d x z.1 r, ?_⟩
      unfold SeqAt.shaped
      rw [toP_lay d z.1, toP_dp]
      simpa using (by omega : dpD d ≤ 64)
    · rw [if_neg z] at h
      cases h
  cases d with
  | ref a =>
    unfold datD at h
    cases e : M a with
    | none => simp only [e] at h; cases h
    | some m =>
      simp only [e] at h
      cases m with
      | lst ds =>
        simp only at h
        by_cases z : okDs ds = true ∧ dpDs ds ≤ 60
        · rw [if_pos z] at h
          cases h
          obtain ⟨vs, q, t⟩ := k a _ e
          rw [r.ref_]
          refine ⟨.lst (SqL.of q) (toPs_dp_of ds vs z.1 t), ?_⟩
          unfold SeqAt.shaped
          simp only [PyData.canLay0, PyData.depth, toPs_lay ds z.1, toPs_dp, Bool.true_and]
          simpa using (by omega : dpDs ds + 1 ≤ 64)
        · rw [if_neg z] at h
          cases h
      | _ => cases h
  | _ => exact plain _ h r
def r3Eq : R3 := fun d e M Q => ∃ p q, datD M d = some p ∧ datD M e = some q ∧ Q (.bl (PyData.eqv p q)) M
def r3Ne : R3 := fun d e M Q => ∃ p q, datD M d = some p ∧ datD M e = some q ∧ Q (.bl (!PyData.eqv p q)) M
theorem opl_eq : OpL K (rEqD K) r3Eq := fun d e x y M H Q3 Q k rd re ⟨p, q, h1, h2, z⟩ hq =>
  ⟨p, q, (datD_ok k rd h1).1, (datD_ok k re h2).1, (datD_ok k rd h1).2, (datD_ok k re h2).2, hq _ M _ H k .refl rep_bl z⟩
theorem opl_ne : OpL K (rNeD K) r3Ne := fun d e x y M H Q3 Q k rd re ⟨p, q, h1, h2, z⟩ hq =>
  ⟨p, q, (datD_ok k rd h1).1, (datD_ok k re h2).1, (datD_ok k rd h1).2, (datD_ok k re h2).2, hq _ M _ H k .refl rep_bl z⟩

/-- is None, is True, is False -/
def isNon : D → Bool
  | .non => true
  | _ => false
def r3Is : R3
  | d, .non, M, Q => Q (.bl (isNon d)) M
  | .bl a, .bl b, M, Q => Q (.bl (decide (a = b))) M
  | _, _, _, _ => False
def r3IsNot : R3
  | d, .non, M, Q => Q (.bl (!isNon d)) M
  | .bl a, .bl b, M, Q => Q (.bl (!decide (a = b))) M
  | _, _, _, _ => False
theorem Rep.isNon {H : Hp} {d : D} {x : V} (r : Rep K H d x) : decide (x = .non) = isNon d := by
  cases d with
  | non => rw [r.non_]; rfl
  | bl b => rw [r.bl_]; rfl
  | int b => rw [r.int_]; rfl
  | str b => rw [r.str_]; rfl
  | ty b => rw [r.ty_]; rfl
  | ref b => rw [r.ref_]; rfl
  | tup b => obtain ⟨a, vs, e, _⟩ := r.tup_; rw [e]; rfl
  | rol b => obtain ⟨a, vs, e, _⟩ := r.rol_; rw [e]; rfl
theorem opl_is : OpL K (fun x y H Q => (y = .non ∧ Q (.bl (decide (x = .non))) H) ∨ (∃ a b : Bool, x = .bl a ∧ y = .bl b ∧ Q (.bl (decide (a = b))) H)) r3Is := fun d e x y M H Q3 Q k rd re h hq => by
  cases e with
  | non => exact .inl ⟨re.non_, by rw [rd.isNon]; exact hq _ M _ H k .refl rep_bl (by cases d <;> exact h)⟩
  | bl b =>
    cases d with
    | bl a => exact .inr ⟨a, b, rd.bl_, re.bl_, hq _ M _ H k .refl rep_bl h⟩
    | _ => exact h.elim
  | _ => cases d <;> exact h.elim
theorem or_is {X : Cx} : OpR X (compareOp .Is) (fun x y H Q => (y = .non ∧ Q (.bl (decide (x = .non))) H) ∨ (∃ a b : Bool, x = .bl a ∧ y = .bl b ∧ Q (.bl (decide (a = b))) H)) := op_isN.or op_isBl
theorem opl_isnot : OpL K (fun x y H Q => (y = .non ∧ Q (.bl (!decide (x = .non))) H) ∨ (∃ a b : Bool, x = .bl a ∧ y = .bl b ∧ Q (.bl (!decide (a = b))) H)) r3IsNot := fun d e x y M H Q3 Q k rd re h hq => by
  cases e with
  | non => exact .inl ⟨re.non_, by rw [rd.isNon]; exact hq _ M _ H k .refl rep_bl (by cases d <;> exact h)⟩
  | bl b =>
    cases d with
    | bl a => exact .inr ⟨a, b, rd.bl_, re.bl_, hq _ M _ H k .refl rep_bl h⟩
    | _ => exact h.elim
  | _ => cases d <;> exact h.elim
theorem or_isnot {X : Cx} : OpR X (compareOp .IsNot) (fun x y H Q => (y = .non ∧ Q (.bl (!decide (x = .non))) H) ∨ (∃ a b : Bool, x = .bl a ∧ y = .bl b ∧ Q (.bl (!decide (a = b))) H)) := op_notN.or op_notBl

/-- x in a tuple, a list of flat things -/
def flD : D → Bool
  | .non | .bl _ | .int _ | .str _ => true
  | _ => false
def eqF : D → D → Bool
  | .non, .non => true
  | .bl a, .bl b => a == b
  | .bl a, .int b => (if a then 1 else 0) == b
  | .int a, .bl b => a == (if b then 1 else 0)
  | .int a, .int b => a == b
  | .str a, .str b => a == b
  | _, _ => false
def itemsD (M : Mm) : D → Option (List D)
  | .tup ds => some ds
  | .rol ds => some ds
  | .ref a => match M a with
    | some (.lst ds) => some ds
    | _ => none
  | _ => none
theorem itemsD_ok {M : Mm} {H : Hp} {d : D} {x : V} {ds : List D} (k : MOk K M H) (r : Rep K H d x) (h : itemsD M d = some ds) : ∃ a vs, x = .ref a ∧ (SqL K H a vs ∨ SqT K H a vs) ∧ RepL K H ds vs := by
  cases d with
  | tup es =>
    obtain ⟨a, vs, e, q, t⟩ := r.tup_
    cases h
    exact ⟨a, vs, e, .inr q, t⟩
  | rol es =>
    obtain ⟨a, vs, e, q, t⟩ := r.rol_
    cases h
    exact ⟨a, vs, e, .inl q.sq, t⟩
  | ref a =>
    unfold itemsD at h
    cases e : M a with
    | none => simp only [e] at h; cases h
    | some m =>
      simp only [e] at h
      cases m with
      | lst es =>
        cases h
        obtain ⟨vs, q, t⟩ := k a _ e
        exact ⟨a, vs, r.ref_, .inl (SqL.of q), t⟩
      | _ => cases h
  | _ => cases h
theorem Rep.flat {H : Hp} {d : D} {x : V} (r : Rep K H d x) (h : flD d = true) : flatV x = true := by
  cases d with
  | non => rw [r.non_]; rfl
  | bl b => rw [r.bl_]; rfl
  | int b => rw [r.int_]; rfl
  | str b => rw [r.str_]; rfl
  | _ => cases h
theorem Rep.eqF {H : Hp} {d e : D} {x y : V} (r : Rep K H d x) (r' : Rep K H e y) (h : flD d = true) (h' : flD e = true) : eqV x y = eqF d e := by
  cases d <;> first | (cases h; done) | (cases e <;> first | (cases h'; done) | (first | rw [r.non_] | rw [r.bl_] | rw [r.int_] | rw [r.str_]) <;> (first | rw [r'.non_] | rw [r'.bl_] | rw [r'.int_] | rw [r'.str_]) <;> rfl)
theorem RepL.flat {H : Hp} : ∀ {ds : List D} {vs : List V}, RepL K H ds vs → ds.all flD = true → vs.all flatV = true
  | [], vs, r, _ => by rw [r.nil_]; rfl
  | d :: ds, vs, r, h => by
    obtain ⟨v, u, e, q, t⟩ := r.cons_
    subst e
    rw [List.all_cons, Bool.and_eq_true] at h ⊢
    exact ⟨q.flat h.1, RepL.flat t h.2⟩
theorem RepL.inF {H : Hp} {d : D} {x : V} (r : Rep K H d x) (h : flD d = true) : ∀ {ds : List D} {vs : List V}, RepL K H ds vs → ds.all flD = true → inV x vs = ds.any fun e => L3.eqF e d
  | [], vs, t, _ => by rw [t.nil_]; rfl
  | e :: ds, vs, t0, hd => by
    obtain ⟨v, u, ev, q, t⟩ := t0.cons_
    subst ev
    rw [List.all_cons, Bool.and_eq_true] at hd
    have ih := RepL.inF r h t hd.2
    unfold inV at ih ⊢
    rw [List.any_cons, List.any_cons, ih, q.eqF r hd.1 h]
def r3In (neg : Bool) : R3 := fun d e M Q => ∃ ds, itemsD M e = some ds ∧ flD d = true ∧ ds.all flD = true ∧ Q (.bl (if neg then !(ds.any fun x => eqF x d) else ds.any fun x => eqF x d)) M
theorem opl_in (neg : Bool) : OpL K (rIn K neg) (r3In neg) := fun d e x y M H Q3 Q k rd re ⟨ds, h1, h2, h3, z⟩ hq => by
  obtain ⟨a, vs, ea, q, t⟩ := itemsD_ok k re h1
  refine ⟨a, vs, ea, q, rd.flat h2, t.flat h3, ?_⟩
  rw [t.inF rd h2 h3]
  exact hq _ M _ H k .refl rep_bl z
end

/-! ### subscripts, slices, stores -/
section
variable {X : Cx} {W : WX} {pos : Pos} {a b : Expr} {ta tb : TE3}
def r3Ix : R3 := fun d e M Q => ∃ ds i x, itemsD M d = some ds ∧ e = .int i ∧ atI ds i = some x ∧ Q x M
theorem atI_rep {K : PySem.W.Frag} {H : Hp} {ds : List D} {vs : List V} {i : Int} {x : D} (t : RepL K H ds vs) (h : atI ds i = some x) : ∃ v, atI vs i = some v ∧ Rep K H x v := by
  unfold atI at h ⊢
  rw [t.len]
  cases e : ixN ds.length i with
  | none => rw [e] at h; cases h
  | some j =>
    rw [e] at h
    exact t.get h
theorem opl_ix {K : PySem.W.Frag} : OpL K (fun x y H Q => rIxL K x y H Q ∨ rIxT K x y H Q) r3Ix := fun d e x y M H Q3 Q k rd re ⟨ds, i, z, h1, h2, h3, q⟩ hq => by
  obtain ⟨p, vs, ea, s | s, t⟩ := itemsD_ok k rd h1
  all_goals
    subst h2
    obtain ⟨v, e1, r1⟩ := atI_rep t h3
  · exact .inl ⟨p, vs, i, v, ea, re.int_, s, e1, hq _ M _ H k .refl r1 q⟩
  · exact .inr ⟨p, vs, i, v, ea, re.int_, s, e1, hq _ M _ H k .refl r1 q⟩
theorem pe3_ix (ha : PE3 X W a ta) (hb : PE3 X W b tb) (hs : PlainIx b) : PE3 X W (.Subscript a b pos) (tOp3 r3Ix ta tb) := (pe_ix (ix_list.or ix_tup) ha hb hs).imp (lift_op opl_ix)
end
end L3

namespace L3
open PySem PySem.Spec L2

/-! ### slices -/
abbrev TO3 := St3 → Mm → (Option Int → Mm → Prop) → XK3 → Prop
def liftO (K : PySem.W.Frag) (W : WX) (t : TO3) : TO := fun σ H Q => ∃ σ3 M Q3 X3, RepS K σ3 M σ H ∧ t σ3 M Q3 X3 ∧ (∀ o M' H', MOk K M' H' → Fr M H M' H' → Q3 o M' → Q o H') ∧ qX K M H X3 fun c dd H' => W c dd σ H'
abbrev PO3 (X : Cx) (W : WX) (e : Option Expr) (t : TO3) : Prop := PO X e (liftO X.K W t)
theorem _root_.L2.PO.imp {X : Cx} {e : Option Expr} {t t' : TO} (h : PO X e t) (i : ∀ σ H Q, t' σ H Q → t σ H Q) : PO X e t' := ⟨fun pins s σ H Q I q => h.run pins s σ H Q I (i σ H Q q)⟩
def tNoPart3 : TO3 := fun _ M Q _ => Q none M
def tPart3 (t : TE3) : TO3 := fun σ M Q X => t σ M (fun d M1 => ∃ i, d = .int i ∧ Q (some i) M1) X
def cutD (xs : List D) (lo hi : Option Int) : List D := (xs.drop (HT.sIx xs.length 0 lo)).take (HT.sIx xs.length xs.length hi - HT.sIx xs.length 0 lo)
abbrev S3 := D → Option Int → Option Int → Mm → VK3 → Prop
def tSl3 (r : S3) (te : TE3) (tl th : TO3) : TE3 := fun σ M Q X => te σ M (fun d M1 => tl σ M1 (fun lo M2 => th σ M2 (fun hi M3 => r d lo hi M3 Q) X) X) X
def SlL (K : PySem.W.Frag) (r : V → Option Int → Option Int → Hp → VK → Prop) (r3 : S3) : Prop := ∀ d x lo hi M H Q3 Q, MOk K M H → Rep K H d x → r3 d lo hi M Q3 → qE K M H Q3 Q → r x lo hi H Q
def r3Sl : S3
  | .tup ds, lo, hi, M, Q => Q (.tup (cutD ds lo hi)) M
  | d, lo, hi, M, Q => ∃ ds, itemsD M d = some ds ∧ ∀ l, M l = none → Q (.ref l) (mupd M l (.lst (cutD ds lo hi)))
theorem RepL.cut {K : PySem.W.Frag} {H : Hp} {ds : List D} {vs : List V} (r : RepL K H ds vs) (lo hi : Option Int) : RepL K H (cutD ds lo hi) (cutV vs lo hi) := by
  unfold cutD cutV
  rw [r.len]
  exact (r.drop _).take _
theorem sll {K : PySem.W.Frag} : SlL K (fun x lo hi H Q => rSlA K x lo hi H Q ∨ rSlL K x lo hi H Q) r3Sl := fun d x lo hi M H Q3 Q k rd h hq => by
  have lists : (∃ ds, itemsD M d = some ds ∧ ∀ l, M l = none → Q3 (.ref l) (mupd M l (.lst (cutD ds lo hi)))) → (∀ ds, d ≠ .tup ds) → rSlL K x lo hi H Q := fun ⟨ds, e, q⟩ hn => by
    obtain ⟨a, vs, ea, s | s, t⟩ := itemsD_ok k rd e
    · refine ⟨a, vs, ea, s, fun p hp => ?_⟩
      obtain ⟨k2, f2⟩ := mok_newlst k hp (t.cut lo hi)
      exact hq _ _ _ _ k2 f2 rep_ref (q p (k.none_of hp))
    · cases d with
      | tup es => exact absurd rfl (hn es)
      | rol es =>
        obtain ⟨b, us, eb, q2, t2⟩ := rd.rol_
        cases e
        refine ⟨b, us, eb, q2.sq, fun p hp => ?_⟩
        obtain ⟨k2, f2⟩ := mok_newlst k hp (t2.cut lo hi)
        exact hq _ _ _ _ k2 f2 rep_ref (q p (k.none_of hp))
      | ref b =>
        unfold itemsD at e
        cases eb : M b with
        | none => simp only [eb] at e; cases e
        | some m =>
          simp only [eb] at e
          cases m with
          | lst es =>
            cases e
            obtain ⟨us, q2, t2⟩ := k b _ eb
            refine ⟨b, us, rd.ref_, SqL.of q2, fun p hp => ?_⟩
            obtain ⟨k2, f2⟩ := mok_newlst k hp (t2.cut lo hi)
            exact hq _ _ _ _ k2 f2 rep_ref (q p (k.none_of hp))
          | _ => cases e
      | _ => cases e
  cases d with
  | tup ds =>
    obtain ⟨a, vs, ea, s, t⟩ := rd.tup_
    refine .inl ⟨a, vs, ea, s, fun z => ?_, fun _ p hp => ?_⟩
    · have e0 : cutD ds lo hi = ds := by
        unfold cutD
        rw [← t.len, z.1, z.2]
        simp [t.len]
      have h' : Q3 (.tup (cutD ds lo hi)) M := h
      rw [e0] at h'
      rw [← ea]
      exact hq _ M _ H k .refl rd h'
    · obtain ⟨k2, f2⟩ := mok_tup (xs := cutV vs lo hi) k hp
      exact hq _ M _ _ k2 f2 (rep_newtup k hp (t.cut lo hi)) h
  | _ => exact .inr (lists h fun _ z => nomatch z)
section
variable {X : Cx} {W : WX} {pos p2 : Pos} {e : Expr} {lo hi : Option Expr} {te : TE3} {tl th : TO3}
theorem po3_none : PO3 X W none tNoPart3 := po_none.imp fun σ H Q ⟨σ3, M, Q3, X3, rs, q, hq, hx⟩ => hq none M H rs.mok .refl q
theorem po3_some (h : PE3 X W e te) : PO3 X W (some e) (tPart3 te) :=
  (po_some h).imp fun σ H Q ⟨σ3, M, Q3, X3, rs, q, hq, hx⟩ => ⟨σ3, M, _, X3, rs, q, fun d M1 x H1 k1 f1 r1 ⟨i, ei, z⟩ => by
    subst ei
    exact ⟨i, r1.int_, hq _ M1 H1 k1 f1 z⟩, hx⟩
theorem pe3_slice (he : PE3 X W e te) (hl : PO3 X W lo tl) (hu : PO3 X W hi th) : PE3 X W (.Subscript e (.Slice lo hi none p2) pos) (tSl3 r3Sl te tl th) :=
  (pe_slice (sl_tupA.or sl_list) he hl hu).imp fun σ H Q ⟨σ3, M, Q3, X3, rs, q, hq, hx⟩ => ⟨σ3, M, _, X3, rs, q, fun d M1 x H1 k1 f1 r1 h1 =>
    ⟨σ3, M1, _, X3, rs.step k1 f1, h1, fun o M2 H2 k2 f2 h2 => ⟨σ3, M2, _, X3, rs.step k2 (f1.trans f2), h2, fun o2 M3 H3 k3 f3 h3 =>
      sll d x o o2 M3 H3 Q3 Q k3 (r1.keep ((f2.trans f3).kp k1)) h3 (hq.step ((f1.trans f2).trans f3)), hx.step (f1.trans f2)⟩, hx.step f1⟩, hx⟩
end

/-! ### calls of built-ins, by values -/
section
variable {X : Cx} {W : WX} {pos p apos cpos : Pos} {e o : Expr} {es : List Expr} {t : TA3} {to : TE3} {x : Str} {id : String} {T : String}
def tCB3 (r : C3) (t : TA3) : TE3 := fun σ M Q X => t σ M (fun ds M1 => r ds M1 Q) X
theorem lift_cb {r : List V → Hp → VK → Prop} {r3 : C3} (hl : CallL X.K r r3) (σ : St2) (H : Hp) (Q : VK) (h : lift X.K W (tCB3 r3 t) σ H Q) : tCB r (liftA X.K W t) σ H Q := by
  obtain ⟨σ3, M, Q3, X3, rs, q, hq, hx⟩ := h
  exact ⟨σ3, M, _, X3, rs, q, fun ds M1 xs H1 k1 f1 r1 h1 => hl ds xs M1 H1 Q3 Q k1 r1 h1 (hq.step f1), hx⟩
theorem pe3_callB {r : List V → Hp → VK → Prop} {r3 : C3} (hc : CallR X (.builtin id) r) (hl : CallL X.K r r3) (hg : Gl X x) (hm : X.mg x = none) (hv : bootBuiltins x = some (.builtin id)) (ha : PA3 X W (e :: es) t) (hn : x ≠ "__name__" := by decide) (hdb : (x == ("__debug__" : Str)) = false := by decide)
    (he : starEach (e :: es) X.env = (false, eval e X.env) :: starEach es X.env := by rfl) (hpl : (backTo pos (starEach es X.env)).any (·.1) = false := by rfl) : PE3 X W (.Call (.Name x p) (e :: es) [] pos) (tCB3 r3 t) :=
  (pe_callB hc hg hm hv ha hn hdb he hpl).imp (lift_cb hl)
theorem pe3_callTy {r : List V → Hp → VK → Prop} {r3 : C3} (hc : CallR X (.type T) r) (hl : CallL X.K r r3) (hg : Gl X x) (hm : X.mg x = none) (hv : bootBuiltins x = some (.type T)) (ha : PA3 X W (e :: es) t) (hn : x ≠ "__name__" := by decide) (hdb : (x == ("__debug__" : Str)) = false := by decide)
    (he : starEach (e :: es) X.env = (false, eval e X.env) :: starEach es X.env := by rfl) (hpl : (backTo pos (starEach es X.env)).any (·.1) = false := by rfl) : PE3 X W (.Call (.Name x p) (e :: es) [] pos) (tCB3 r3 t) :=
  (pe_callTy hc hg hm hv ha hn hdb he hpl).imp (lift_cb hl)
end
section
variable {K : PySem.W.Frag}
theorem CallL.or {r r' : List V → Hp → VK → Prop} {s s' t : C3} (h : CallL K r s) (h' : CallL K r' s') (i : ∀ ds M Q, t ds M Q → s ds M Q ∨ s' ds M Q) : CallL K (fun xs H Q => r xs H Q ∨ r' xs H Q) t :=
  fun ds xs M H Q3 Q k rd q hq => (i ds M Q3 q).elim (fun z => .inl (h ds xs M H Q3 Q k rd z hq)) fun z => .inr (h' ds xs M H Q3 Q k rd z hq)
/-- len -/
def lenD (M : Mm) : D → Option Nat
  | .tup ds => some ds.length
  | .rol ds => some ds.length
  | .ref a => match M a with
    | some (.lst ds) => some ds.length
    | _ => none
  | _ => none
theorem lenD_items {M : Mm} {d : D} {n : Nat} (h : lenD M d = some n) : ∃ ds, itemsD M d = some ds ∧ ds.length = n := by
  cases d with
  | tup ds => cases h; exact ⟨ds, rfl, rfl⟩
  | rol ds => cases h; exact ⟨ds, rfl, rfl⟩
  | ref a =>
    unfold lenD at h
    unfold itemsD
    cases e : M a with
    | none => simp only [e] at h; cases h
    | some m =>
      simp only [e] at h ⊢
      cases m with
      | lst ds => cases h; exact ⟨ds, rfl, rfl⟩
      | _ => cases h
  | _ => cases h
def c3Len : C3
  | [.str z], M, Q => z.length ≤ sizeLine ∧ Q (.int z.length) M
  | [d], M, Q => ∃ n, lenD M d = some n ∧ Q (.int (n : Nat)) M
  | _, _, _ => False
theorem cl_len : CallL K (fun xs H Q => (∃ p ys, xs = [.ref p] ∧ (SqL K H p ys ∨ SqT K H p ys) ∧ Q (.int ys.length) H) ∨ ∃ z, xs = [.str z] ∧ z.length ≤ sizeLine ∧ Q (.int z.length) H) c3Len := fun ds xs M H Q3 Q k rd h hq => by
  have seq : ∀ d, ds = [d] → (∃ n, lenD M d = some n ∧ Q3 (.int (n : Nat)) M) → ∃ p ys, xs = [.ref p] ∧ (SqL K H p ys ∨ SqT K H p ys) ∧ Q (.int ys.length) H := fun d ed ⟨n, e, q⟩ => by
    subst ed
    obtain ⟨x, ex, r⟩ := rd.one_
    obtain ⟨es, e1, e2⟩ := lenD_items e
    obtain ⟨a, vs, ea, s, t⟩ := itemsD_ok k r e1
    subst e2
    refine ⟨a, vs, by rw [ex, ea], s, ?_⟩
    rw [t.len]
    exact hq _ M _ H k .refl rep_int q
  match ds, h, rd, seq with
  | [.str z], h, rd, _ =>
    obtain ⟨x, ex, r⟩ := rd.one_
    exact .inr ⟨z, by rw [ex, r.str_], h.1, hq _ M _ H k .refl rep_int h.2⟩
  | [.non], h, rd, seq => exact .inl (seq _ rfl h)
  | [.bl _], h, rd, seq => exact .inl (seq _ rfl h)
  | [.int _], h, rd, seq => exact .inl (seq _ rfl h)
  | [.ty _], h, rd, seq => exact .inl (seq _ rfl h)
  | [.ref _], h, rd, seq => exact .inl (seq _ rfl h)
  | [.tup _], h, rd, seq => exact .inl (seq _ rfl h)
  | [.rol _], h, rd, seq => exact .inl (seq _ rfl h)
theorem cr_len3 {X : Cx} : CallR X (.builtin "len") (fun xs H Q => (∃ p ys, xs = [.ref p] ∧ (SqL X.K H p ys ∨ SqT X.K H p ys) ∧ Q (.int ys.length) H) ∨ ∃ z, xs = [.str z] ∧ z.length ≤ sizeLine ∧ Q (.int z.length) H) := call_len_seq.or call_len_str
/-- int -/
def c3Int : C3
  | [.int i], M, Q => Q (.int i) M
  | [.bl b], M, Q => Q (.int (if b then 1 else 0)) M
  | _, _, _ => False
theorem cl_int : CallL K (fun xs H Q => (∃ i, xs = [.int i] ∧ Q (.int i) H) ∨ ∃ k, xs = [.bl k] ∧ Q (.int (if k then 1 else 0)) H) c3Int := fun ds xs M H Q3 Q k rd h hq => by
  match ds, h, rd with
  | [.int i], h, rd =>
    obtain ⟨x, ex, r⟩ := rd.one_
    exact .inl ⟨i, by rw [ex, r.int_], hq _ M _ H k .refl rep_int h⟩
  | [.bl b], h, rd =>
    obtain ⟨x, ex, r⟩ := rd.one_
    exact .inr ⟨b, by rw [ex, r.bl_], hq _ M _ H k .refl rep_int h⟩
/-- abs, max and min of two -/
def c3Abs : C3
  | [.int i], M, Q => Q (.int (if i < 0 then -i else i)) M
  | _, _, _ => False
theorem cl_abs : CallL K (fun xs H Q => ∃ i, xs = [.int i] ∧ Q (.int (if i < 0 then -i else i)) H) c3Abs := fun ds xs M H Q3 Q k rd h hq => by
  match ds, h, rd with
  | [.int i], h, rd =>
    obtain ⟨x, ex, r⟩ := rd.one_
    exact ⟨i, by rw [ex, r.int_], hq _ M _ H k .refl rep_int h⟩
def c3Max2 : C3
  | [.int i, .int j], M, Q => Q (.int (if j > i then j else i)) M
  | _, _, _ => False
theorem cl_max2 : CallL K (fun xs H Q => ∃ i j, xs = [.int i, .int j] ∧ Q (.int (if j > i then j else i)) H) c3Max2 := fun ds xs M H Q3 Q k rd h hq => by
  match ds, h, rd with
  | [.int i, .int j], h, rd =>
    obtain ⟨x, y, ex, r, r2⟩ := rd.two_
    exact ⟨i, j, by rw [ex, r.int_, r2.int_], hq _ M _ H k .refl rep_int h⟩
def c3Min2 : C3
  | [.int i, .int j], M, Q => Q (.int (if j < i then j else i)) M
  | _, _, _ => False
theorem cl_min2 : CallL K (fun xs H Q => ∃ i j, xs = [.int i, .int j] ∧ Q (.int (if j < i then j else i)) H) c3Min2 := fun ds xs M H Q3 Q k rd h hq => by
  match ds, h, rd with
  | [.int i, .int j], h, rd =>
    obtain ⟨x, y, ex, r, r2⟩ := rd.two_
    exact ⟨i, j, by rw [ex, r.int_, r2.int_], hq _ M _ H k .refl rep_int h⟩
/-- all, any of a list of truth values -/
def blsD : List D → Option (List Bool)
  | [] => some []
  | .bl b :: ds => (blsD ds).map (b :: ·)
  | _ => none
theorem blsD_ok {H : Hp} : ∀ {ds : List D} {vs : List V} {bs : List Bool}, RepL K H ds vs → blsD ds = some bs → vs = bs.map V.bl
  | [], vs, bs, r, h => by cases h; rw [r.nil_]; rfl
  | d :: ds, vs, bs, r, h => by
    obtain ⟨v, u, e, q, t⟩ := r.cons_
    cases d with
    | bl b =>
      unfold blsD at h
      cases z : blsD ds with
      | none => rw [z] at h; cases h
      | some cs =>
        rw [z] at h
        cases h
        rw [e, q.bl_, blsD_ok t z] <;> rfl
    | _ => cases h
theorem blsD_map (bs : List Bool) : blsD (bs.map D.bl) = some bs := by
  induction bs with
  | nil => rfl
  | cons b bs ih => simp only [List.map_cons, blsD, ih, Option.map_some]
def c3All : C3
  | [.ref a], M, Q => ∃ ds bs, M a = some (.lst ds) ∧ blsD ds = some bs ∧ Q (.bl (bs.all id)) M
  | _, _, _ => False
def c3Any : C3
  | [.ref a], M, Q => ∃ ds bs, M a = some (.lst ds) ∧ blsD ds = some bs ∧ Q (.bl (bs.any id)) M
  | _, _, _ => False
theorem cl_all : CallL K (rAll K) c3All := fun ds xs M H Q3 Q k rd h hq => by
  match ds, h, rd with
  | [.ref a], ⟨ds, bs, e1, e2, q⟩, rd =>
    obtain ⟨x, ex, r⟩ := rd.one_
    obtain ⟨vs, hv, t⟩ := k a _ e1
    exact ⟨a, bs, by rw [ex, r.ref_], SqL.of (by rw [hv, blsD_ok t e2]), hq _ M _ H k .refl rep_bl q⟩
theorem cl_any : CallL K (rAny K) c3Any := fun ds xs M H Q3 Q k rd h hq => by
  match ds, h, rd with
  | [.ref a], ⟨ds, bs, e1, e2, q⟩, rd =>
    obtain ⟨x, ex, r⟩ := rd.one_
    obtain ⟨vs, hv, t⟩ := k a _ e1
    exact ⟨a, bs, by rw [ex, r.ref_], SqL.of (by rw [hv, blsD_ok t e2]), hq _ M _ H k .refl rep_bl q⟩
/-- tuple, list -/
def c3Tuple : C3
  | [d], M, Q => ∃ ds, itemsD M d = some ds ∧ Q (.tup ds) M
  | _, _, _ => False
theorem cl_tuple : CallL K (fun xs H Q => ∃ p ys, xs = [.ref p] ∧ ((SqL K H p ys ∧ ∀ l, H l = none → Q (.ref l) (upd H l (.tup ys))) ∨ (SqT K H p ys ∧ Q (.ref p) H))) c3Tuple := fun ds xs M H Q3 Q k rd h hq => by
  match ds, h, rd with
  | [d], ⟨es, e, q⟩, rd =>
    obtain ⟨x, ex, r⟩ := rd.one_
    obtain ⟨a, vs, ea, s, t⟩ := itemsD_ok k r e
    refine ⟨a, vs, by rw [ex, ea], ?_⟩
    rcases s with s | s
    · refine .inl ⟨s, fun p hp => ?_⟩
      obtain ⟨k2, f2⟩ := mok_tup (xs := vs) k hp
      exact hq _ M _ _ k2 f2 (rep_newtup k hp t) q
    · exact .inr ⟨s, hq _ M _ H k .refl (rep_tup s t) q⟩
def c3List : C3
  | [d], M, Q => ∃ ds, itemsD M d = some ds ∧ ∀ l, M l = none → Q (.ref l) (mupd M l (.lst ds))
  | _, _, _ => False
theorem cl_list : CallL K (fun xs H Q => ∃ p ys, xs = [.ref p] ∧ (SqL K H p ys ∨ SqT K H p ys) ∧ ∀ l, H l = none → Q (.ref l) (upd H l (.lst ys))) c3List := fun ds xs M H Q3 Q k rd h hq => by
  match ds, h, rd with
  | [d], ⟨es, e, q⟩, rd =>
    obtain ⟨x, ex, r⟩ := rd.one_
    obtain ⟨a, vs, ea, s, t⟩ := itemsD_ok k r e
    refine ⟨a, vs, by rw [ex, ea], s, fun p hp => ?_⟩
    obtain ⟨k2, f2⟩ := mok_newlst k hp t
    exact hq _ _ _ _ k2 f2 rep_ref (q p (k.none_of hp))
/-- str of an int -/
def c3Str : C3
  | [.int i], M, Q => i.natAbs.log2 < 1920 ∧ Q (.str (toString i)) M
  | _, _, _ => False
theorem cl_str : CallL K (fun xs H Q => ∃ i, xs = [.int i] ∧ i.natAbs.log2 < 1920 ∧ Q (.str (toString i)) H) c3Str := fun ds xs M H Q3 Q k rd h hq => by
  match ds, h, rd with
  | [.int i], h, rd =>
    obtain ⟨x, ex, r⟩ := rd.one_
    exact ⟨i, by rw [ex, r.int_], h.1, hq _ M _ H k .refl rep_str h.2⟩
/-- isinstance of a built-in class -/
def tyD (M : Mm) : D → Option String
  | .non => some "NoneType"
  | .bl _ => some "bool"
  | .int _ => some "int"
  | .str _ => some "str"
  | .tup _ => some "tuple"
  | .rol _ => some "list"
  | .ref a => match M a with
    | some (.lst _) => some "list"
    | some (.dK _) => some "dict"
    | _ => none
  | .ty _ => none
end
end L3

namespace L3
open PySem PySem.Spec L2

/-! ### isinstance with built-in classes -/
def tysL : List String := ["NoneType", "bool", "int", "str", "tuple", "list", "dict"]
def clsL : List String := ["bool", "int", "str", "tuple", "list", "dict"]
def isiB (t n : String) : Bool := t == n || (t == "bool" && n == "int")
theorem isiB_ok : ∀ t ∈ tysL, ∀ n ∈ clsL, kitB t n = some (isiB t n) := by decide +kernel
section
variable {K : PySem.W.Frag}
theorem tyD_in {M : Mm} {d : D} {t : String} (h : tyD M d = some t) : t ∈ tysL := by
  cases d with
  | ref a =>
    unfold tyD at h
    cases e : M a with
    | none => simp only [e] at h; cases h
    | some m =>
      simp only [e] at h
      cases m <;> first | (cases h; decide) | cases h
  | _ => first | (cases h; decide) | cases h
theorem tyD_ok {M : Mm} {H : Hp} {d : D} {x : V} {t : String} (k : MOk K M H) (r : Rep K H d x) (h : tyD M d = some t) : TyX K H x (.type t) := by
  cases d with
  | non => cases h; rw [r.non_]; exact .base .non
  | bl b => cases h; rw [r.bl_]; exact .base (.bl b)
  | int b => cases h; rw [r.int_]; exact .base (.int b)
  | str b => cases h; rw [r.str_]; exact .base (.str b)
  | ty b => cases h
  | tup ds =>
    cases h
    obtain ⟨a, vs, e, q, _⟩ := r.tup_
    subst e
    rcases q with (q | ⟨o, q⟩) | ⟨o, its, n, e1, e2, _⟩
    · exact .base (.tup q)
    · exact .fTuple q
    · exact .kTuple e1 e2
  | rol ds =>
    cases h
    obtain ⟨a, vs, e, q, _⟩ := r.rol_
    subst e
    rcases q with ⟨o, q⟩ | ⟨o, its, n, e1, e2, _⟩
    · exact .base (.frz q)
    · exact .kList e1 e2
  | ref a =>
    unfold tyD at h
    rw [r.ref_]
    cases e : M a with
    | none => simp only [e] at h; cases h
    | some m =>
      simp only [e] at h
      cases m with
      | lst ds => cases h; obtain ⟨vs, q, _⟩ := k a _ e; exact .base (.lst q)
      | dK kvs => cases h; obtain ⟨vs, q, _⟩ := k a _ e; exact .base (.dK q)
      | ins C fs => cases h
def isiAny (t : String) : List D → Option Bool
  | [] => some false
  | .ty n :: ds => if n ∈ clsL then (isiAny t ds).map (isiB t n || ·) else none
  | _ => none
def c3Isi : C3
  | [d, .ty n], M, Q => ∃ t, tyD M d = some t ∧ n ∈ clsL ∧ Q (.bl (isiB t n)) M
  | [d, .tup cs], M, Q => ∃ t b, tyD M d = some t ∧ isiAny t cs = some b ∧ Q (.bl b) M
  | _, _, _ => False
theorem isiAny_ok {H : Hp} {t : String} (ht : t ∈ tysL) : ∀ {cs : List D} {vs : List V} {b : Bool}, RepL K H cs vs → isiAny t cs = some b → ∃ us, Paired ClsV vs us ∧ PySem.W.kitAny K (.type t) us = some b
  | [], vs, b, r, h => by cases h; rw [r.nil_]; exact ⟨[], .nil, rfl⟩
  | c :: cs, vs, b, r, h => by
    obtain ⟨v, u, e, q, tl⟩ := r.cons_
    subst e
    cases c with
    | ty n =>
      unfold isiAny at h
      by_cases hn : n ∈ clsL
      · rw [if_pos hn] at h
        cases z : isiAny t cs with
        | none => rw [z] at h; cases h
        | some b' =>
          rw [z] at h
          cases h
          obtain ⟨us, p, ka⟩ := isiAny_ok ht tl z
          rw [q.ty_]
          refine ⟨.type n :: us, .cons (.ty n) p, kitAny_cons (kit_ty (isiB_ok t ht n hn)) (fun e => ?_) (fun e => ?_)⟩
          · rw [e]; exact ka
          · rw [e]; rfl
      · rw [if_neg hn] at h
        cases h
    | _ => cases h
def rIsiS (K : PySem.W.Frag) : List V → Hp → VK → Prop := fun xs H Q => ∃ (x : V) (tp : Addr) (cs : List V) (t : Value) (us : List Value) (b : Bool), xs = [x, .ref tp] ∧ SqT K H tp cs ∧ Paired ClsV cs us ∧ TyX K H x t ∧ PySem.W.kitAny K t us = some b ∧ Q (.bl b) H
theorem call_isiS {X : Cx} : CallR X (.builtin "isinstance") (rIsiS X.K) := by
  intro pins s σ H xs us Q I r h
  obtain ⟨x, tp, cs, t, ws, b, rfl, hT, k, ty, e, q⟩ := h
  obtain ⟨u1, u2, rfl, r1, r2⟩ := vals2 r
  cases (show u2 = Value.ref tp from r2)
  obtain ⟨P, Z, p, hx⟩ := kit_of I r1 ty
  obtain ⟨its, rv, ⟨o, h1, h2, n, h3⟩, _⟩ := I.tuple hT
  have e3 := ClsV.all k rv
  subst e3
  obtain ⟨oc, od, dt, sl⟩ := o
  simp only at h2 h3
  subst h2 h3
  exact PySem.W.kia_tup Z I.kIn p h1 e hx fun tk => ⟨.bl b, H, I.tok tk, rfl, q⟩
theorem cr_isi {X : Cx} : CallR X (.builtin "isinstance") (fun xs H Q => rIsi X.K xs H Q ∨ rIsiS X.K xs H Q) := call_isi.or call_isiS
theorem cl_isi : CallL K (fun xs H Q => (rIsi K xs H Q ∨ rIsiS K xs H Q)) c3Isi := fun ds xs M H Q3 Q k rd h hq => by
  match ds, h, rd with
  | [d, .ty n], ⟨t, h1, h2, q⟩, rd =>
    obtain ⟨x, y, ex, r, r2⟩ := rd.two_
    exact .inl ⟨x, y, .type t, .type n, _, ex, by rw [r2.ty_]; exact .ty n, tyD_ok k r h1, kit_ty (isiB_ok t (tyD_in h1) n h2), hq _ M _ H k .refl rep_bl q⟩
  | [d, .tup cs], ⟨t, b, h1, h2, q⟩, rd =>
    obtain ⟨x, y, ex, r, r2⟩ := rd.two_
    obtain ⟨a, vs, ea, s, tl⟩ := r2.tup_
    obtain ⟨us, p, ka⟩ := isiAny_ok (tyD_in h1) tl h2
    exact .inr ⟨x, a, vs, .type t, us, b, by rw [ex, ea], s, p, tyD_ok k r h1, ka, hq _ M _ H k .refl rep_bl q⟩
end

/-! ### methods of lists -/
section
variable {X : Cx} {W : WX} {apos cpos : Pos} {e o : Expr} {es : List Expr} {t : TA3} {to : TE3} {id : String} {name : Str}
abbrev M3 := D → List D → Mm → VK3 → Prop
def tBM3 (r : M3) (to : TE3) (t : TA3) : TE3 := fun σ M Q X => to σ M (fun d M1 => ∃ a ds, d = .ref a ∧ M1 a = some (.lst ds) ∧ t σ M1 (fun es M2 => r d es M2 Q) X) X
def tBM03 (r : M3) (to : TE3) : TE3 := fun σ M Q X => to σ M (fun d M1 => ∃ a ds, d = .ref a ∧ M1 a = some (.lst ds) ∧ r d [] M1 Q) X
def MtL (K : PySem.W.Frag) (r : V → List V → Hp → VK → Prop) (r3 : M3) : Prop := ∀ d es x xs M H Q3 Q, MOk K M H → Rep K H d x → RepL K H es xs → r3 d es M Q3 → qE K M H Q3 Q → r x xs H Q
theorem pe3_lm {r : V → List V → Hp → VK → Prop} {r3 : M3} (slot : Slot "list" name id) (hty : typeOf (.builtin id) = pure (.type "method_descriptor")) (hm : MtR X id r) (hl : MtL X.K r r3) (ho : PE3 X W o to) (ha : PA3 X W (e :: es) t)
    (hbase : attributeBase o name X.env (eval o X.env) = eval o X.env := by rfl)
    (hfew : ((backTo cpos (starEach (e :: es) X.env)).all (fun x => !x.1) && (backToKw cpos (keywordEach [] X.env)).all (fun x => x.1.isSome)
      && decide ((e :: es).length + ([] : List Keyword).length + (if ([] : List Keyword).isEmpty then 0 else 1) < 30)) = true := by rfl)
    (hline : (apos.endLine == cpos.line) = true := by rfl) (hs : starEach (e :: es) X.env = (false, eval e X.env) :: starEach es X.env := by rfl) (hplain : (backTo cpos (starEach es X.env)).any (·.1) = false := by rfl) :
    PE3 X W (.Call (.Attribute o name apos) (e :: es) [] cpos) (tBM3 r3 to t) :=
  (pe_bm PySem.F.plainAttrs_list slot hty hm ho ha hbase hfew hline hs hplain).imp fun σ H Q ⟨σ3, M, Q3, X3, rs, q, hq, hx⟩ => ⟨σ3, M, _, X3, rs, q, fun d M1 x H1 k1 f1 r1 ⟨a, ds, ea, hd, h1⟩ => by
    subst ea
    obtain ⟨vs, hv, _⟩ := k1 a _ hd
    refine ⟨by rw [r1.ref_]; exact .inl ⟨rfl, vs, SqL.of hv⟩, σ3, M1, _, X3, rs.step k1 f1, h1, fun es M2 xs H2 k2 f2 r2 h2 => ?_, hx.step f1⟩
    exact hl _ es x xs M2 H2 Q3 Q k2 (r1.keep (f2.kp k1)) r2 h2 (hq.step (f1.trans f2)), hx⟩
theorem pe3_lm0 {r : V → List V → Hp → VK → Prop} {r3 : M3} (slot : Slot "list" name id) (hty : typeOf (.builtin id) = pure (.type "method_descriptor")) (hm : MtR X id r) (hl : MtL X.K r r3) (ho : PE3 X W o to)
    (hbase : attributeBase o name X.env (eval o X.env) = eval o X.env := by rfl) (hline : (apos.endLine == cpos.line) = true := by rfl) : PE3 X W (.Call (.Attribute o name apos) [] [] cpos) (tBM03 r3 to) :=
  (pe_bm0 PySem.F.plainAttrs_list slot hty hm ho hbase hline).imp fun σ H Q ⟨σ3, M, Q3, X3, rs, q, hq, hx⟩ => ⟨σ3, M, _, X3, rs, q, fun d M1 x H1 k1 f1 r1 ⟨a, ds, ea, hd, h1⟩ => by
    subst ea
    obtain ⟨vs, hv, _⟩ := k1 a _ hd
    exact ⟨by rw [r1.ref_]; exact .inl ⟨rfl, vs, SqL.of hv⟩, hl _ [] x [] M1 H1 Q3 Q k1 r1 .nil h1 (hq.step f1)⟩, hx⟩
end
section
variable {K : PySem.W.Frag}
def m3Append : M3
  | .ref a, [d], M, Q => ∃ ds, M a = some (.lst ds) ∧ ds.length < sizeLine ∧ Q .non (mupd M a (.lst (ds ++ [d])))
  | _, _, _, _ => False
theorem ml_append : MtL K rAppend m3Append := fun d es x xs M H Q3 Q k rd re h hq => by
  match d, es, h, rd, re with
  | .ref a, [e], ⟨ds, e1, hl, q⟩, rd, re =>
    obtain ⟨v, ev, r⟩ := re.one_
    obtain ⟨vs, hv, t⟩ := k a _ e1
    obtain ⟨k2, f2⟩ := mok_setlst k e1 (t.append (.cons r .nil))
    exact ⟨a, vs, v, rd.ref_, ev, hv, by rw [t.len]; exact hl, hq _ _ _ _ k2 f2 rep_non q⟩
def m3Extend : M3
  | .ref a, [.ref b], M, Q => ∃ ds es, M a = some (.lst ds) ∧ M b = some (.lst es) ∧ ds.length + es.length ≤ sizeLine ∧ Q .non (mupd M a (.lst (ds ++ es)))
  | _, _, _, _ => False
theorem ml_extend : MtL K rExtend m3Extend := fun d es x xs M H Q3 Q k rd re h hq => by
  match d, es, h, rd, re with
  | .ref a, [.ref b], ⟨ds, es, e1, e2, hl, q⟩, rd, re =>
    obtain ⟨v, ev, r⟩ := re.one_
    obtain ⟨vs, hv, t⟩ := k a _ e1
    obtain ⟨us, hu, t2⟩ := k b _ e2
    obtain ⟨k2, f2⟩ := mok_setlst k e1 (t.append t2)
    exact ⟨a, b, vs, us, rd.ref_, by rw [ev, r.ref_], hv, hu, by rw [t.len, t2.len]; exact hl, hq _ _ _ _ k2 f2 rep_non q⟩
theorem RepL.dropLast {H : Hp} {ds : List D} {vs : List V} (r : RepL K H ds vs) : RepL K H ds.dropLast vs.dropLast := by
  rw [List.dropLast_eq_take, List.dropLast_eq_take, r.len]
  exact r.take _
def m3Pop : M3
  | .ref a, [], M, Q => ∃ ds d, M a = some (.lst ds) ∧ ds[ds.length - 1]? = some d ∧ Q d (mupd M a (.lst ds.dropLast))
  | _, _, _, _ => False
theorem ml_pop : MtL K rPop m3Pop := fun d es x xs M H Q3 Q k rd re h hq => by
  match d, es, h, rd, re with
  | .ref a, [], ⟨ds, d, e1, hd, q⟩, rd, re =>
    obtain ⟨vs, hv, t⟩ := k a _ e1
    obtain ⟨v, ev, r⟩ := t.get hd
    obtain ⟨k2, f2⟩ := mok_setlst k e1 t.dropLast
    exact ⟨a, vs, v, rd.ref_, re.nil_, hv, by rw [t.len]; exact ev, hq _ _ _ _ k2 f2 (r.keep (f2.kp k)) q⟩
end

/-! ### statements -/
section
variable {X : Cx} {W : WX} {pos : Pos} {st : Stmt} {rest : List Stmt} {t u : TS3} {e : Expr} {te : TE3}
def tNext3 : TS3 := fun D σ M => D.nx σ M
def tSeq3 (t u : TS3) : TS3 := fun D σ M => t { D with nx := u D } σ M
theorem pss3_nil : PSs3 X W [] tNext3 := pss_nil.imp fun D σ H ⟨σ3, M, D3, rs, q, el⟩ => el.nx σ3 M σ H rs .refl q
theorem pss3_cons (h1 : PS3 X W st t) (h2 : PSs3 X W rest u) : PSs3 X W (st :: rest) (tSeq3 t u) :=
  (pss_cons h1 h2).imp fun D σ H ⟨σ3, M, D3, rs, q, el⟩ => ⟨σ3, M, { D3 with nx := u D3 }, rs, q, ⟨fun σ4 M' σ' H' r f z => ⟨σ4, M', D3, r, z, el.step f⟩, el.rt, el.bk, el.ct, el.xx⟩⟩
theorem pss3_one (h1 : PS3 X W st t) : PSs3 X W [st] t := pss_one h1
theorem ps3_pass : PS3 X W (.Pass pos) tNext3 := ps_pass.imp fun D σ H ⟨σ3, M, D3, rs, q, el⟩ => el.nx σ3 M σ H rs .refl q
theorem ps3_continue : PS3 X W (.Continue pos) (fun D σ M => D.ct σ M) := ps_continue.imp fun D σ H ⟨σ3, M, D3, rs, q, el⟩ => el.ct σ3 M σ H rs .refl q
def tDrop3 (te : TE3) : TS3 := fun D σ M => te σ M (fun _ M1 => D.nx σ M1) (D.xx σ)
theorem ps3_expr (he : PE3 X W e te) (hs : swapsWith e none pos.line X.env = pure false := by rfl) : PS3 X W (.Expr e pos) (tDrop3 te) :=
  (ps_expr he hs).imp fun D σ H ⟨σ3, M, D3, rs, q, el⟩ => ⟨σ3, M, _, D3.xx σ3, rs, q, fun d M1 x H1 k1 f1 r1 z => el.nx σ3 M1 σ H1 (rs.step k1 f1) f1 z, el.qx rs⟩
def tRet3 (te : TE3) : TS3 := fun D σ M => te σ M D.rt (D.xx σ)
theorem ps3_ret (he : PE3 X W e te) : PS3 X W (.Return (some e) pos) (tRet3 te) :=
  (ps_ret he).imp fun D σ H ⟨σ3, M, D3, rs, q, el⟩ => ⟨σ3, M, D3.rt, D3.xx σ3, rs, q, el.rt, el.qx rs⟩
def tRetN3 : TS3 := fun D _ M => D.rt .non M
theorem ps3_retN : PS3 X W (.Return none pos) tRetN3 := ps_retN.imp fun D σ H ⟨σ3, M, D3, rs, q, el⟩ => el.rt .non M _ H rs.mok .refl rep_non q
def tIfS3 (c : TT3) (t u : TS3) : TS3 := fun D σ M => c σ M (fun b M1 => if b = true then t D σ M1 else u D σ M1) (D.xx σ)
theorem ps3_if {c : Expr} {a b : List Stmt} {tc : TT3} (hc : PT3 X W c tc) (ha : PSs3 X W a t) (hb : PSs3 X W b u) : PS3 X W (.If c a b pos) (tIfS3 tc t u) :=
  (ps_if hc ha hb).imp fun D σ H ⟨σ3, M, D3, rs, q, el⟩ => ⟨σ3, M, _, D3.xx σ3, rs, q, fun b M1 H1 k1 f1 z => by
    cases b with
    | true =>
      rw [if_pos rfl] at z ⊢
      exact ⟨σ3, M1, D3, rs.step k1 f1, z, el.step f1⟩
    | false =>
      rw [if_neg Bool.false_ne_true] at z ⊢
      exact ⟨σ3, M1, D3, rs.step k1 f1, z, el.step f1⟩, el.qx rs⟩
end

/-! ### targets -/
abbrev TG3 := D → St3 → Mm → (St3 → Mm → Prop) → XK3 → Prop
abbrev TGs3 := List D → St3 → Mm → (St3 → Mm → Prop) → XK3 → Prop
/-- behind a target that stores at the slots vs alone -/
def qG (K : PySem.W.Frag) (vs : List Nat) (σ : St2) (M : Mm) (H : Hp) (Q3 : St3 → Mm → Prop) (Q : St2 → Hp → Prop) : Prop := ∀ σ3 M' σ' H', RepS K σ3 M' σ' H' → Fr M H M' H' → σ'.length = σ.length → (∀ i, i ∉ vs → σ'[i]? = σ[i]?) → Q3 σ3 M' → Q σ' H'
def liftG (K : PySem.W.Frag) (W : WX) (vs : List Nat) (t : TG3) : TG := fun v σ H Q => ∃ σ3 M d Q3 X3, RepS K σ3 M σ H ∧ Rep K H d v ∧ t d σ3 M Q3 X3 ∧ qG K vs σ M H Q3 Q ∧ qX K M H X3 fun c dd H' => W c dd σ H'
def liftGs (K : PySem.W.Frag) (W : WX) (vs : List Nat) (t : TGs3) : TGs := fun us σ H Q => ∃ σ3 M ds Q3 X3, RepS K σ3 M σ H ∧ RepL K H ds us ∧ t ds σ3 M Q3 X3 ∧ qG K vs σ M H Q3 Q ∧ qX K M H X3 fun c dd H' => W c dd σ H'
abbrev PG3 (X : Cx) (W : WX) (vs : List Nat) (tg : Expr) (t : TG3) : Prop := PG X tg (liftG X.K W vs t)
abbrev PGs3 (X : Cx) (W : WX) (vs : List Nat) (tg : List Expr) (t : TGs3) : Prop := PGs X tg (liftGs X.K W vs t)
theorem _root_.L2.PG.imp {X : Cx} {e : Expr} {t t' : TG} (h : PG X e t) (i : ∀ v σ H Q, t' v σ H Q → t v σ H Q) : PG X e t' := ⟨fun pins s σ H v u Q I r q => h.run pins s σ H v u Q I r (i v σ H Q q)⟩
theorem _root_.L2.PGs.imp {X : Cx} {e : List Expr} {t t' : TGs} (h : PGs X e t) (i : ∀ v σ H Q, t' v σ H Q → t v σ H Q) : PGs X e t' := ⟨fun pins s σ H v u Q I r q => h.run pins s σ H v u Q I r (i v σ H Q q)⟩
section
variable {X : Cx} {W : WX} {pos : Pos}
def gName3 (i : Nat) : TG3 := fun d σ M Q _ => Q (σ.set i (some d)) M
theorem pg3_name {i : Nat} {x : Str} (hN : X.N.Nodup) (hi : X.N[i]? = some x) (hx : Loc X.env.scope x) (hf : X.fn x = true ∨ X.env.scope.names.lookup x = some .local := by first | exact .inl rfl | exact .inr rfl | assumption) : PG3 X W [i] (.Name x pos) (gName3 i) :=
  (pg_name hN hi hx hf).imp fun v σ H Q ⟨σ3, M, d, Q3, X3, rs, r, q, hq, hx⟩ => hq _ M _ H (rs.set_ r i) .refl (by rw [List.length_set]) (fun j hj => List.getElem?_set_ne (fun z => hj (by simp [z]))) q
def gNil3 : TGs3 := fun ds σ M Q _ => ds = [] ∧ Q σ M
def gCons3 (t : TG3) (u : TGs3) : TGs3 := fun ds σ M Q X => ∃ d r, ds = d :: r ∧ t d σ M (fun σ1 M1 => u r σ1 M1 Q X) X
theorem pgs3_nil : PGs3 X W [] [] gNil3 := pgs_nil.imp fun v σ H Q ⟨σ3, M, ds, Q3, X3, rs, r, ⟨e, q⟩, hq, hx⟩ => by
  subst e
  exact ⟨r.nil_, hq σ3 M σ H rs .refl rfl (fun _ _ => rfl) q⟩
theorem pgs3_cons {vs vs' : List Nat} {e : Expr} {es : List Expr} {t : TG3} {u : TGs3} (h1 : PG3 X (fun _ _ _ _ => False) vs e t) (h2 : PGs3 X (fun _ _ _ _ => False) vs' es u)
    (hs : (assignEach (e :: es) X.env).map (·.2) = assign e X.env :: (assignEach es X.env).map (·.2) := by rfl) : PGs3 X (fun _ _ _ _ => False) (vs ++ vs') (e :: es) (gCons3 t u) :=
  (pgs_cons h1 h2 hs).imp fun v σ H Q ⟨σ3, M, ds, Q3, X3, rs, r, ⟨d, tl, e, q⟩, hq, hx⟩ => by
    subst e
    obtain ⟨v0, us, ev, r0, rt⟩ := r.cons_
    refine ⟨v0, us, ev, σ3, M, d, _, X3, rs, r0, q, fun σ4 M1 σ1 H1 r1 f1 l1 z1 q1 => ?_, hx⟩
    refine ⟨σ4, M1, tl, Q3, X3, r1, rt.keep (f1.kp rs.mok), q1, fun σ5 M2 σ2 H2 r2 f2 l2 z2 q2 => ?_, hx.step f1⟩
    refine hq σ5 M2 σ2 H2 r2 (f1.trans f2) (l2.trans l1) (fun i hi => ?_) q2
    rw [z2 i (fun h => hi (List.mem_append_right _ h)), z1 i (fun h => hi (List.mem_append_left _ h))]
theorem _root_.L2.PG.or {X : Cx} {e : Expr} {t t' : TG} (h : PG X e t) (h' : PG X e t') : PG X e (fun v σ H Q => t v σ H Q ∨ t' v σ H Q) :=
  ⟨fun pins s σ H v u Q I r q => q.elim (fun q => h.run pins s σ H v u Q I r q) fun q => h'.run pins s σ H v u Q I r q⟩
/-- (a, b, ..) = a tuple, a list of that length -/
def gTup3 (n : Nat) (t : TGs3) : TG3 := fun d σ M Q X => ∃ ds, itemsD M d = some ds ∧ ds.length = n ∧ t ds σ M Q X
theorem pg3_tup {vs : List Nat} {es : List Expr} {k : Nat} {t : TGs3} {n : Nat} (hc : X.calm = true) (h : PGs3 X W vs es t)
    (hn : (assignEach es X.env).length = n := by rfl) (hst : (assignEach es X.env).findIdx? (·.1) = none := by rfl) : PG3 X W vs (.Tuple es k pos) (gTup3 n t) :=
  ((pg_tup hc h hn hst).or (pg_unl hc h hn hst)).imp fun v σ H Q ⟨σ3, M, d, Q3, X3, rs, r, ⟨ds, e, hl, q⟩, hq, hx⟩ => by
    obtain ⟨a, us, ea, s | s, t⟩ := itemsD_ok rs.mok r e
    · exact .inr ⟨a, us, ea, s, by rw [t.len]; exact hl, σ3, M, ds, Q3, X3, rs, t, q, hq, hx⟩
    · exact .inl ⟨a, us, ea, s, by rw [t.len]; exact hl, σ3, M, ds, Q3, X3, rs, t, q, hq, hx⟩
/-- the wish may be left out where no exception comes -/
theorem PG3.wish {vs : List Nat} {e : Expr} {t : TG3} {t' : TG3} (h : PG3 X (fun _ _ _ _ => False) vs e t) (i : ∀ d σ M Q Z, t' d σ M Q Z → t d σ M Q fun _ _ _ => False) : PG3 X W vs e t' :=
  h.imp fun v σ H Q ⟨σ3, M, d, Q3, X3, rs, r, q, hq, hx⟩ => ⟨σ3, M, d, Q3, fun _ _ _ => False, rs, r, i _ _ _ _ _ q, hq, fun _ _ _ _ _ _ _ _ z => z⟩
/-- o[i] = v -/
abbrev Set3 := D → D → D → Mm → (Mm → Prop) → Prop
def gSub3 (to ti : TE3) (t : Set3) : TG3 := fun d σ M Q X => to σ M (fun o M1 => ti σ M1 (fun i M2 => t o i d M2 fun M3 => Q σ M3) X) X
def s3Lst : Set3
  | .ref a, .int i, d, M, Q => ∃ ds j, M a = some (.lst ds) ∧ ixN ds.length i = some j ∧ Q (mupd M a (.lst (ds.set j d)))
  | _, _, _, _, _ => False
theorem pg3_sub {o i : Expr} {to ti : TE3} (ho : PE3 X W o to) (hi : PE3 X W i ti)
    (ha : ∀ v, assign (.Subscript o i pos) X.env v = (do
      let ov ← holding [v] (eval o X.env)
      let iv ← holding [v, ov] (eval i X.env)
      standAt pos
      holding [v, ov, iv] (setItem ov iv v)
      release [v, ov, iv] []) := by intro _; rfl) : PG3 X W [] (.Subscript o i pos) (gSub3 to ti s3Lst) :=
  (pg_sub ho hi set_list ha).imp fun v σ H Q ⟨σ3, M, d, Q3, X3, rs, r, q, hq, hx⟩ => ⟨σ3, M, _, X3, rs, q, fun o' M1 x H1 k1 f1 r1 h1 =>
    ⟨σ3, M1, _, X3, rs.step k1 f1, h1, fun i' M2 y H2 k2 f2 r2 h2 => by
      match o', i', h2, r1, r2 with
      | .ref a, .int n, ⟨ds, j, e1, e2, q2⟩, r1, r2 =>
        obtain ⟨vs, hv, t⟩ := k2 a _ e1
        have rv : Rep X.K H2 d v := r.keep ((f1.trans f2).kp rs.mok)
        obtain ⟨k3, f3⟩ := mok_setlst k2 e1 (t.set rv j)
        exact ⟨a, vs, n, j, r1.ref_, r2.int_, hv, by rw [t.len]; exact e2, hq σ3 _ σ _ (rs.step k3 ((f1.trans f2).trans f3)) ((f1.trans f2).trans f3) rfl (fun _ _ => rfl) q2⟩, hx.step f1⟩, hx⟩
def tAsg3 (te : TE3) (g : TG3) : TS3 := fun D σ M => te σ M (fun d M1 => g d σ M1 D.nx (D.xx σ)) (D.xx σ)
theorem lift_asg {vs : List Nat} {te : TE3} {g : TG3} (D : Ends) (σ : St2) (H : Hp) (h : liftS X.K W (tAsg3 te g) D σ H) : tAsg (lift X.K W te) (liftG X.K W vs g) D σ H := by
  obtain ⟨σ3, M, D3, rs, q, el⟩ := h
  exact ⟨σ3, M, _, D3.xx σ3, rs, q, fun d M1 x H1 k1 f1 r1 h1 => ⟨σ3, M1, d, D3.nx, D3.xx σ3, rs.step k1 f1, r1, h1, fun σ4 M2 σ' H' r2 f2 _ _ z => el.nx σ4 M2 σ' H' r2 (f1.trans f2) z, (el.qx rs).step f1⟩, el.qx rs⟩
theorem ps3_asg {vs : List Nat} {tg e : Expr} {te : TE3} {g : TG3} (he : PE3 X W e te) (hg : PG3 X W vs tg g) (hs : swapsWithSole [tg] e pos.line X.env = pure false := by rfl) (hw : swappedStores [tg] e X.env = pure none := by rfl)
    (h1 : (assignEach [tg] X.env).map (·.2) = [assign tg X.env] := by rfl) : PS3 X W (.Assign [tg] e pos) (tAsg3 te g) := (ps_asg he hg hs hw h1).imp lift_asg
theorem ps3_set {i : Nat} {x : Str} {e : Expr} {te : TE3} {pos' : Pos} (hN : X.N.Nodup) (hi : X.N[i]? = some x) (hx : Loc X.env.scope x) (he : PE3 X W e te) (hs : swapsWith e (some (.Name x pos')) pos.line X.env = pure false := by rfl)
    (hf : X.fn x = true ∨ X.env.scope.names.lookup x = some .local := by first | exact .inl rfl | exact .inr rfl | assumption) : PS3 X W (.Assign [.Name x pos'] e pos) (tAsg3 te (gName3 i)) :=
  (ps_set hN hi hx he hs hf).imp fun D σ H ⟨σ3, M, D3, rs, q, el⟩ => ⟨σ3, M, _, D3.xx σ3, rs, q, fun d M1 x H1 k1 f1 r1 h1 => el.nx _ M1 _ H1 ((rs.step k1 f1).set_ r1 i) f1 h1, el.qx rs⟩
/-- a, b = e, f, both sides written, two local names -/
def tPar3 (i j : Nat) (ta : TA3) : TS3 := fun D σ M => ta σ M (fun ds M1 => ∃ d e, ds = [d, e] ∧ D.nx ((σ.set i (some d)).set j (some e)) M1) (D.xx σ)
theorem ps3_par {i j : Nat} {x y : Str} {a b : Expr} {ta : TA3} {px py pt : Pos} {kt k2 pt2} (hc : X.calm = true) (hN : X.N.Nodup) (hi : X.N[i]? = some x) (hj : X.N[j]? = some y) (hij : i ≠ j)
    (hx : X.env.scope.names.lookup x = some .local) (hy : X.env.scope.names.lookup y = some .local) (ha : PA3 X W [a, b] ta) (hw : swappedStores [.Tuple [.Name x px, .Name y py] kt pt] (.Tuple [a, b] k2 pt2) X.env = pure (some [x, y])) :
    PS3 X W (.Assign [.Tuple [.Name x px, .Name y py] kt pt] (.Tuple [a, b] k2 pt2) pos) (tPar3 i j ta) :=
  (ps_par hc hN hi hj hij hx hy ha hw).imp fun D σ H ⟨σ3, M, D3, rs, q, el⟩ => ⟨σ3, M, _, D3.xx σ3, rs, q, fun ds M1 us H1 k1 f1 r1 ⟨d, e, ed, h1⟩ => by
    subst ed
    obtain ⟨v, u, ev, rv, ru⟩ := r1.two_
    exact ⟨v, u, ev, el.nx _ M1 _ H1 (((rs.step k1 f1).set_ rv i).set_ ru j) f1 h1⟩, el.qx rs⟩
end
end L3

namespace L3
open PySem PySem.Spec L2

/-! ### what is walked -/
structure It3 where
  items : List D
  ok : Mm → Prop := fun _ => True
structure ItOk (K : PySem.W.Frag) (M0 : Mm) (H0 : Hp) (J3 : It3) (J : It) : Prop where
  go : ∀ i M H, MOk K M H → Fr M0 H0 M H → J3.ok M → i < J3.items.length → J.go i H
  stop : ∀ i M H, MOk K M H → Fr M0 H0 M H → J3.ok M → J3.items.length ≤ i → J.stop i H
  yld : ∀ i M H x H' d, MOk K M H → Fr M0 H0 M H → J3.ok M → J3.items[i]? = some d → J.yld i H x H' → MOk K M H' ∧ Fr M H M H' ∧ Rep K H' d x
abbrev TI3 := St3 → Mm → (It3 → Mm → Prop) → XK3 → Prop
def liftI (K : PySem.W.Frag) (W : WX) (t : TI3) : TI := fun σ H R => ∃ σ3 M R3 X3, RepS K σ3 M σ H ∧ t σ3 M R3 X3 ∧ (∀ J3 M' J H', MOk K M' H' → Fr M H M' H' → ItOk K M' H' J3 J → R3 J3 M' → R J H') ∧ qX K M H X3 fun c dd H' => W c dd σ H'
abbrev PI3 (X : Cx) (W : WX) (tg iter : Expr) (t : TI3) : Prop := PI X tg iter (liftI X.K W t)
theorem _root_.L2.PI.imp {X : Cx} {tg e : Expr} {t t' : TI} (h : PI X tg e t) (i : ∀ σ H Q, t' σ H Q → t σ H Q) : PI X tg e t' := ⟨fun pins s σ H Q I q => h.run pins s σ H Q I (i σ H Q q)⟩
section
variable {X : Cx} {W : WX} {tg l a b : Expr} {tl ta tb : TE3} {p pos : Pos}
/-- a list, a tuple -/
def iSeq3 (tl : TE3) : TI3 := fun σ M R X => tl σ M (fun d M1 => ∃ ds, itemsD M1 d = some ds ∧ R ⟨ds, fun M' => itemsD M' d = some ds⟩ M1) X
/-- a list (what pi_list serves) -/
def isTup : D → Bool
  | .tup _ => true
  | _ => false
theorem itemsD_list {K : PySem.W.Frag} {M : Mm} {H : Hp} {d : D} {x : V} {ds : List D} (k : MOk K M H) (r : Rep K H d x) (h : itemsD M d = some ds) (nt : isTup d = false) : ∃ a vs, x = .ref a ∧ SqL K H a vs ∧ RepL K H ds vs := by
  cases d with
  | tup es => cases nt
  | rol es =>
    obtain ⟨a, vs, e, q, t⟩ := r.rol_
    cases h
    exact ⟨a, vs, e, q.sq, t⟩
  | ref a =>
    unfold itemsD at h
    cases e : M a with
    | none => simp only [e] at h; cases h
    | some m =>
      simp only [e] at h
      cases m with
      | lst es =>
        cases h
        obtain ⟨vs, q, t⟩ := k a _ e
        exact ⟨a, vs, r.ref_, SqL.of q, t⟩
      | _ => cases h
  | _ => cases h
/-- two lists of values that stand for the same things, item by item -/
theorem itok_list {K : PySem.W.Frag} {M0 : Mm} {H0 : Hp} {d : D} {a : Addr} {ds : List D} (r : Rep K H0 d (.ref a)) (k0 : MOk K M0 H0) (nt : isTup d = false) (ok : Mm → Prop) (hok : ∀ M, ok M → itemsD M d = some ds) : ItOk K M0 H0 ⟨ds, ok⟩ (Itl K a) where
  go := fun i M H k f z hi => by
    obtain ⟨b, vs, e, s, t⟩ := itemsD_list k (r.keep (f.kp k0)) (hok M z) nt
    cases e
    exact ⟨vs, vs[i]'(by rw [t.len]; exact hi), s, List.getElem?_eq_getElem _⟩
  stop := fun i M H k f z hi => by
    obtain ⟨b, vs, e, s, t⟩ := itemsD_list k (r.keep (f.kp k0)) (hok M z) nt
    cases e
    exact ⟨vs, s, by rw [t.len]; exact hi⟩
  yld := fun i M H x H' d' k f z hi ⟨e, y⟩ => by
    subst e
    obtain ⟨b, vs, e, s, t⟩ := itemsD_list k (r.keep (f.kp k0)) (hok M z) nt
    cases e
    obtain ⟨v, ev, rv⟩ := t.get hi
    have := y vs s
    rw [ev] at this
    cases this
    exact ⟨k, .refl, rv⟩
theorem itok_tup {K : PySem.W.Frag} {M0 : Mm} {H0 : Hp} {a : Addr} {vs : List V} {ds : List D} (s0 : SqT K H0 a vs) (t0 : RepL K H0 ds vs) (k0 : MOk K M0 H0) (ok : Mm → Prop) : ItOk K M0 H0 ⟨ds, ok⟩ (Itt K a) where
  go := fun i M H k f z hi => ⟨vs, vs[i]'(by rw [t0.len]; exact hi), (f.kp k0).sqt s0, List.getElem?_eq_getElem _⟩
  stop := fun i M H k f z hi => ⟨vs, (f.kp k0).sqt s0, by rw [t0.len]; exact hi⟩
  yld := fun i M H x H' d' k f z hi ⟨e, y⟩ => by
    subst e
    have s := (f.kp k0).sqt s0
    obtain ⟨v, ev, rv⟩ := (t0.keep (f.kp k0)).get hi
    have := y vs s
    rw [ev] at this
    cases this
    exact ⟨k, .refl, rv⟩

def iSeq2 (K : PySem.W.Frag) (tl : TE) : TI := fun σ H R => tl σ H fun x H1 => ∃ a, x = .ref a ∧ (((∃ xs, SqL K H1 a xs) ∧ R (Itl K a) H1) ∨ ((∃ xs, SqT K H1 a xs) ∧ R (Itt K a) H1))
theorem pi_seq {X : Cx} {tg l : Expr} {tl : TE} (hl : PE X l tl) : PI X tg l (iSeq2 X.K tl) := by
  refine ⟨fun pins s σ H R I h => ?_⟩
  refine thn (hl.run pins s σ H _ I h) fun v s1 ⟨x, H1, I1, r1, q1⟩ => ?_
  obtain ⟨a, e, ⟨⟨xs, hq⟩, q⟩ | ⟨⟨xs, hq⟩, q⟩⟩ := q1
  · subst e
    cases r1
    obtain ⟨its, rv, p, hz⟩ := I1.list hq
    refine wpAny_pyIter_list p.isList ?_
    refine ⟨s1.heap.objs.size, [s1.heap.objs.size], _, _, H1, rfl, I1.kept (t' := s1.toks) fun b o e => Heap.get?_push_of_some _ e, turn_list a _, ⟨_, Heap.get?_push_size _ rfl, rfl, rfl⟩, fun b hb => ?_, q⟩
    have e : b = s1.heap.objs.size := by simpa using hb
    subst e
    exact I1.fpOk (Nat.le_refl _) (I1.hok.fresh (Nat.le_refl _))
  · subst e
    cases r1
    obtain ⟨its, rv, p, hz⟩ := I1.tuple hq
    refine wpAny_pyIter_tuple (show s1.heap.IsTuple a its.toArray from p) ?_
    refine ⟨s1.heap.objs.size, [s1.heap.objs.size], _, _, H1, rfl, I1.kept (t' := s1.toks) fun b o e => Heap.get?_push_of_some _ e, turn_tuple a _, ⟨_, Heap.get?_push_size _ rfl, rfl, rfl⟩, fun b hb => ?_, q⟩
    have e : b = s1.heap.objs.size := by simpa using hb
    subst e
    exact I1.fpOk (Nat.le_refl _) (I1.hok.fresh (Nat.le_refl _))
theorem pi3_seq (hl : PE3 X W l tl) : PI3 X W tg l (iSeq3 tl) :=
  (pi_seq hl).imp fun σ H R ⟨σ3, M, R3, X3, rs, q, hq, hx⟩ => by
    refine ⟨σ3, M, _, X3, rs, q, fun d M1 x H1 k1 f1 r1 ⟨ds, e, z⟩ => ?_, hx⟩
    cases hd : isTup d with
    | false =>
      obtain ⟨a, vs, ea, s, t⟩ := itemsD_list k1 r1 e hd
      subst ea
      exact ⟨a, rfl, .inl ⟨⟨vs, s⟩, hq _ M1 _ H1 k1 f1 (itok_list r1 k1 hd _ fun _ h => h) z⟩⟩
    | true =>
      cases d with
      | tup es =>
        cases e
        obtain ⟨a, vs, ea, s, t⟩ := r1.tup_
        subst ea
        exact ⟨a, rfl, .inr ⟨⟨vs, s⟩, hq _ M1 _ H1 k1 f1 (itok_tup s t k1 _) z⟩⟩
      | _ => cases hd
/-- ranges -/
def rngL (lo hi : Int) : List D := (List.range (hi - lo).toNat).map fun k => D.int (lo + (k : Nat))
theorem rngL_len (lo hi : Int) : (rngL lo hi).length = (hi - lo).toNat := by simp [rngL]
theorem rngL_get {lo hi : Int} {i : Nat} {d : D} (h : (rngL lo hi)[i]? = some d) : d = .int (lo + (i : Nat)) ∧ i < (hi - lo).toNat := by
  have hi' : i < (hi - lo).toNat := by
    have := (List.getElem?_eq_some_iff.mp h).1
    rwa [rngL_len] at this
  refine ⟨?_, hi'⟩
  unfold rngL at h
  rw [List.getElem?_map, List.getElem?_range hi'] at h
  exact (Option.some.inj h).symm
theorem itok_rng {K : PySem.W.Frag} {M0 : Mm} {H0 : Hp} {lo hi : Int} : ItOk K M0 H0 ⟨rngL lo hi, fun _ => True⟩ (Itr lo (hi - lo).toNat) where
  go := fun i M H k f z h => by rw [rngL_len] at h; exact h
  stop := fun i M H k f z h => by rw [rngL_len] at h; exact h
  yld := fun i M H x H' d k f z h ⟨e, y⟩ => by
    subst e
    obtain ⟨ed, _⟩ := rngL_get h
    subst ed y
    exact ⟨k, .refl, rep_int⟩
def iRng13 (ta : TA3) : TI3 := fun σ M R X => ta σ M (fun ds M1 => ∃ j : Int, ds = [.int j] ∧ -(2 ^ 62) ≤ j ∧ j < 2 ^ 62 ∧ R ⟨rngL 0 j, fun _ => True⟩ M1) X
def iRng23 (ta : TA3) : TI3 := fun σ M R X => ta σ M (fun ds M1 => ∃ i j : Int, ds = [.int i, .int j] ∧ (-(2 ^ 62) ≤ i ∧ i < 2 ^ 62 ∧ -(2 ^ 62) ≤ j ∧ j < 2 ^ 62) ∧ R ⟨rngL i j, fun _ => True⟩ M1) X
theorem pi3_range1 {ta : TA3} (hg : Gl X "range") (hm : X.mg "range" = none) (ha : PA3 X W [a] ta) (hs : starEach [a] X.env = [(false, eval a X.env)] := by rfl) : PI3 X W tg (.Call (.Name "range" p) [a] [] pos) (iRng13 ta) :=
  (pi_range1 hg hm ha hs).imp fun σ H R ⟨σ3, M, R3, X3, rs, q, hq, hx⟩ => ⟨σ3, M, _, X3, rs, q, fun ds M1 xs H1 k1 f1 r1 ⟨j, e, h1, h2, z⟩ => by
    subst e
    obtain ⟨v, ev, rv⟩ := r1.one_
    refine ⟨j, by rw [ev, rv.int_], h1, h2, ?_⟩
    have i := itok_rng (K := X.K) (M0 := M1) (H0 := H1) (lo := 0) (hi := j)
    rw [Int.sub_zero] at i
    exact hq _ M1 _ H1 k1 f1 i z, hx⟩
theorem pi3_range2 {ta : TA3} (hg : Gl X "range") (hm : X.mg "range" = none) (ha : PA3 X W [a, b] ta) (hs : starEach [a, b] X.env = [(false, eval a X.env), (false, eval b X.env)] := by rfl) (hs2 : starEach [b] X.env = [(false, eval b X.env)] := by rfl) :
    PI3 X W tg (.Call (.Name "range" p) [a, b] [] pos) (iRng23 ta) :=
  (pi_range2 hg hm ha hs hs2).imp fun σ H R ⟨σ3, M, R3, X3, rs, q, hq, hx⟩ => ⟨σ3, M, _, X3, rs, q, fun ds M1 xs H1 k1 f1 r1 ⟨i, j, e, hb, z⟩ => by
    subst e
    obtain ⟨v, u, ev, rv, ru⟩ := r1.two_
    exact ⟨i, j, by rw [ev, rv.int_, ru.int_], hb, hq _ M1 _ H1 k1 f1 itok_rng z⟩, hx⟩
end

/-! ### for, while -/
section
variable {X : Cx} {W : WX} {pos : Pos} {tg iter : Expr} {body : List Stmt}
/-- behind a turn: slots and places may be forgotten -/
def Nx3 (M1 : Mm) (P : St3 → Mm → Prop) : St3 → Mm → Prop := fun σ2 M2 => ∃ σ3 M3, Wks σ2 σ3 ∧ Fgt M1 M2 M3 ∧ P σ3 M3
def tFor3 (wi : TI3) (g : TG3) (tb : TS3) : TS3 := fun D σ M => wi σ M (fun J M1 => ∃ P : Nat → St3 → Mm → Prop, P 0 σ M1 ∧ (∀ i σ' M', i ≤ J.items.length → P i σ' M' → J.ok M') ∧
  (∀ i d σ' M', J.items[i]? = some d → P i σ' M' → g d σ' M' (fun σ2 M2 => tb { D with nx := Nx3 M1 (P (i + 1)), ct := Nx3 M1 (P (i + 1)), bk := D.nx } σ2 M2) (D.xx σ')) ∧
  ∀ σ' M', P J.items.length σ' M' → D.nx σ' M') (D.xx σ)
theorem RepS.fgt {K : PySem.W.Frag} {σ3 : St3} {M M' M1 : Mm} {σ : St2} {H : Hp} (r : RepS K σ3 M' σ H) (g : Fgt M M' M1) : RepS K σ3 M1 σ H := ⟨r.len, r.get, g.mok r.mok⟩
theorem ps3_for {vs : List Nat} {wi : TI3} {g : TG3} {tb : TS3} (hp : PassesOwn (model X.prog X.w) X.A X.env X.xe) (hc : X.calm = true) (hi : PI3 X W tg iter wi) (hg : PG3 X W vs tg g) (hb : PSs3 X W body tb)
    (hfs : ∀ x, foldedSetIterable iter X.env x = pure x := by intro _; rfl) : PS3 X W (.For tg iter body [] pos) (tFor3 wi g tb) :=
  (ps_for hp hc hi hg hb hfs).imp fun D σ H ⟨σ3, M, D3, rs, q, el⟩ => ⟨σ3, M, _, D3.xx σ3, rs, q, fun J3 M1 J H1 k1 f1 io ⟨P, p0, pok, pstep, pend⟩ => by
    refine ⟨fun i m σ' H' => m = J3.items.length - i ∧ i ≤ J3.items.length ∧ ∃ σ4 M4, RepS X.K σ4 M4 σ' H' ∧ Fr M1 H1 M4 H' ∧ P i σ4 M4, ⟨_, rfl, Nat.zero_le _, σ3, M1, rs.step k1 f1, .refl, p0⟩, ?_⟩
    rintro i m σ' H' ⟨rfl, hi, σ4, M4, r4, f4, p4⟩
    by_cases hlt : i < J3.items.length
    · have hd : J3.items[i]? = some J3.items[i] := List.getElem?_eq_getElem hlt
      refine .inr ⟨io.go i M4 H' r4.mok f4 (pok i σ4 M4 hi p4) hlt, fun σ5 H5 => ∃ σ6 M6, RepS X.K σ6 M6 σ5 H5 ∧ Fr M1 H1 M6 H5 ∧ P (i + 1) σ6 M6, fun σ5 H5 ⟨σ6, M6, r6, f6, p6⟩ => ⟨J3.items.length - (i + 1), by omega, rfl, hlt, σ6, M6, r6, f6, p6⟩, fun x H2 y => ?_⟩
      obtain ⟨k2, f2, rx⟩ := io.yld i M4 H' x H2 _ r4.mok f4 (pok i σ4 M4 hi p4) hd y
      have tot : Fr M H M4 H2 := (f1.trans f4).trans f2
      refine ⟨σ4, M4, _, _, D3.xx σ4, r4.step k2 f2, rx, pstep i _ σ4 M4 hd p4, fun σ7 M7 σ8 H8 r8 f8 _ _ z => ?_, fun c fs N dd HN kN fN xN z => el.xx c fs σ4 N dd σ' HN ((r4.step k2 f2).step kN fN) (tot.trans fN) xN z⟩
      have t8 := tot.trans f8
      have t8' : Fr M1 H1 M7 H8 := (f4.trans f2).trans f8
      refine ⟨σ7, M7, _, r8, z, ⟨?_, el.rt.step t8, el.nx.step t8, ?_, fun c fs σn N dd σN HN rN fN xN z => el.xx c fs σn N dd σN HN rN (t8.trans fN) xN z⟩⟩
      · rintro σ9 M9 σ10 H10 r10 f10 ⟨σ11, M11, wk, fg, p11⟩
        exact ⟨σ11, M11, (r10.weak wk).fgt fg, fg.fr (t8'.trans f10), p11⟩
      · rintro σ9 M9 σ10 H10 r10 f10 ⟨σ11, M11, wk, fg, p11⟩
        exact ⟨σ11, M11, (r10.weak wk).fgt fg, fg.fr (t8'.trans f10), p11⟩
    · have e : i = J3.items.length := by omega
      subst e
      exact .inl ⟨io.stop _ M4 H' r4.mok f4 (pok _ σ4 M4 hi p4) (Nat.le_refl _), el.nx σ4 M4 σ' H' r4 (f1.trans f4) (pend σ4 M4 p4)⟩, el.qx rs⟩
def tWhile3 (c : TT3) (tb : TS3) : TS3 := fun D σ M => ∃ (P : St3 → Mm → Prop) (μ : St3 → Mm → Nat), P σ M ∧ ∀ σ' M', P σ' M' → c σ' M' (fun b M2 => if b = true then
    tb { D with nx := Nx3 M (fun σ4 M4 => P σ4 M4 ∧ μ σ4 M4 < μ σ' M'), ct := Nx3 M (fun σ4 M4 => P σ4 M4 ∧ μ σ4 M4 < μ σ' M'), bk := D.nx } σ' M2 else D.nx σ' M2) (D.xx σ')
theorem ps3_while {c : Expr} {tc : TT3} {tb : TS3} (hp : PassesOwn (model X.prog X.w) X.A X.env X.xe) (hc : PT3 X W c tc) (hb : PSs3 X W body tb) : PS3 X W (.While c body [] pos) (tWhile3 tc tb) :=
  (ps_while hp hc hb).imp fun D σ H ⟨σ3, M, D3, rs, ⟨P, μ, p0, step⟩, el⟩ => by
    refine ⟨fun m σ' H' => ∃ σ4 M4, RepS X.K σ4 M4 σ' H' ∧ Fr M H M4 H' ∧ P σ4 M4 ∧ μ σ4 M4 = m, ⟨_, σ3, M, rs, .refl, p0, rfl⟩, ?_⟩
    rintro m σ' H' ⟨σ4, M4, r4, f4, p4, rfl⟩
    refine ⟨σ4, M4, _, D3.xx σ4, r4, step σ4 M4 p4, fun b M5 H5 k5 f5 z => ?_, fun c fs N dd HN kN fN xN z => el.xx c fs σ4 N dd σ' HN (r4.step kN fN) (f4.trans fN) xN z⟩
    have t5 := f4.trans f5
    cases b with
    | false =>
      simp only [Bool.false_eq_true, if_false] at z ⊢
      exact el.nx σ4 M5 σ' H5 (r4.step k5 f5) t5 z
    | true =>
      simp only [if_true] at z ⊢
      refine ⟨fun σ5 H6 => ∃ σ6 M6, RepS X.K σ6 M6 σ5 H6 ∧ Fr M H M6 H6 ∧ P σ6 M6 ∧ μ σ6 M6 < μ σ4 M4, fun σ5 H6 ⟨σ6, M6, r6, f6, p6, l6⟩ => ⟨μ σ6 M6, l6, σ6, M6, r6, f6, p6, rfl⟩, ?_⟩
      refine ⟨σ4, M5, _, r4.step k5 f5, z, ⟨?_, el.rt.step t5, el.nx.step t5, ?_, fun c fs σn N dd σN HN rN fN xN z => el.xx c fs σn N dd σN HN rN (t5.trans fN) xN z⟩⟩
      · rintro σ9 M9 σ10 H10 r10 f10 ⟨σ11, M11, wk, fg, p11, l11⟩
        exact ⟨σ11, M11, (r10.weak wk).fgt fg, fg.fr (t5.trans f10), p11, l11⟩
      · rintro σ9 M9 σ10 H10 r10 f10 ⟨σ11, M11, wk, fg, p11, l11⟩
        exact ⟨σ11, M11, (r10.weak wk).fgt fg, fg.fr (t5.trans f10), p11, l11⟩
end
end L3

namespace L3
open PySem PySem.Spec L2

/-! ### comprehensions -/
def wipe3 (σ : St3) : List Nat → St3
  | [] => σ
  | v :: vs => (wipe3 σ vs).set v none
theorem wipe_out3 {σ : St2} {i : Nat} : ∀ {vs : List Nat}, i ∉ vs → (wipe σ vs)[i]? = σ[i]?
  | [], _ => rfl
  | v :: vs, h => by
    unfold wipe
    rw [List.getElem?_set_ne (fun z => h (by simp [z]))]
    exact wipe_out3 fun z => h (List.mem_cons_of_mem _ z)
theorem wipe_in3 {σ : St2} {i : Nat} : ∀ {vs : List Nat}, i ∈ vs → i < σ.length → (wipe σ vs)[i]? = some none
  | [], h, _ => by cases h
  | v :: vs, h, hl => by
    unfold wipe
    by_cases e : i = v
    · subst e
      rw [List.getElem?_set_self (by rw [wipe_length]; exact hl)]
    · rw [List.getElem?_set_ne (Ne.symm e)]
      exact wipe_in3 ((List.mem_cons.mp h).resolve_left e) hl
theorem wipe_eq3 {σ σ' : St2} {vs : List Nat} (hl : σ'.length = σ.length) (h : ∀ i, i ∉ vs → σ'[i]? = (wipe σ vs)[i]?) : wipe σ' vs = wipe σ vs := by
  refine List.ext_getElem? fun i => ?_
  by_cases hi : i ∈ vs
  · by_cases hlt : i < σ.length
    · rw [wipe_in3 hi (by omega), wipe_in3 hi hlt]
    · rw [List.getElem?_eq_none (by rw [wipe_length]; omega), List.getElem?_eq_none (by rw [wipe_length]; omega)]
  · rw [wipe_out3 hi, h i hi]
theorem RepS.unset {K : PySem.W.Frag} {σ3 : St3} {M : Mm} {σ : St2} {H : Hp} (r : RepS K σ3 M σ H) (i : Nat) : RepS K (σ3.set i none) M (σ.set i none) H := by
  refine ⟨by simpa using r.len, fun j e h => ?_, r.mok⟩
  by_cases hj : j = i
  · subst hj
    have hlt : j < σ3.length := by
      have := (List.getElem?_eq_some_iff.mp h).1
      simpa using this
    rw [List.getElem?_set_self hlt] at h
    cases h
  · rw [List.getElem?_set_ne (Ne.symm hj)] at h
    obtain ⟨u, e1, z⟩ := r.get j e h
    exact ⟨u, by rw [List.getElem?_set_ne (Ne.symm hj)]; exact e1, z⟩
theorem RepS.wipe {K : PySem.W.Frag} {σ3 : St3} {M : Mm} {σ : St2} {H : Hp} (r : RepS K σ3 M σ H) : ∀ vs, RepS K (wipe3 σ3 vs) M (L2.wipe σ vs) H
  | [] => r
  | v :: vs => (RepS.wipe r vs).unset v
abbrev F3 : XK3 := fun _ _ _ => False
abbrev WF : WX := fun _ _ _ _ => False
def tLc3 (wi : TI3) (g : TG3) (tt : TT3) (te : TE3) (vs : List Nat) : TE3 := fun σ M Q X => wi σ M (fun J M1 => ∃ P : Nat → List D → Mm → Prop, P 0 [] M1 ∧ (∀ i acc M', i ≤ J.items.length → P i acc M' → J.ok M') ∧
  (∀ i d acc M', J.items[i]? = some d → P i acc M' → g d (wipe3 σ vs) M' (fun σ2 M2 => tt σ2 M2 (fun b M3 => if b = true then te σ2 M3 (fun y M4 => acc.length < sizeLine ∧ ∃ M5, Fgt M1 M4 M5 ∧ P (i + 1) (acc ++ [y]) M5) F3 else ∃ M5, Fgt M1 M3 M5 ∧ P (i + 1) acc M5) F3) F3) ∧
  ∀ acc M', P J.items.length acc M' → ∀ l, M' l = none → Q (.ref l) (mupd M' l (.lst acc))) X
abbrev PTs3 (X : Cx) (W : WX) (es : List Expr) (t : TT3) : Prop := PTs X es (liftT X.K W t)
theorem _root_.L2.PTs.imp {X : Cx} {es : List Expr} {t t' : TT} (h : PTs X es t) (i : ∀ σ H Q, t' σ H Q → t σ H Q) : PTs X es t' := ⟨fun pins s σ H Q I q => h.run pins s σ H Q I (i σ H Q q)⟩
def tYes3 : TT3 := fun _ M Q _ => Q true M
theorem pts3_nil {X : Cx} {W : WX} : PTs3 X W [] tYes3 := pts_nil.imp fun σ H Q ⟨σ3, M, Q3, X3, rs, q, hq, hx⟩ => hq true M H rs.mok .refl q
theorem pts3_one {X : Cx} {W : WX} {c : Expr} {t : TT3} (h : PT3 X W c t) : PTs3 X W [c] t := pts_one h
/-- a list outside of the store is changed -/
theorem mok_side {K : PySem.W.Frag} {M : Mm} {H : Hp} {p : Addr} {vs us : List V} (k : MOk K M H) (hp : H p = some (.lst vs)) (hm : M p = none) : MOk K M (upd H p (.lst us)) ∧ Kp H (upd H p (.lst us)) := by
  have kp : Kp H (upd H p (.lst us)) := ⟨fun a xs h => by
    have ne : a ≠ p := fun z => by
      rw [z] at h
      rcases h with h | ⟨o, h⟩ <;> rw [hp] at h <;> cases h
    rcases h with h | ⟨u, h⟩
    · exact .inl (by rw [upd_ne ne]; exact h)
    · exact .inr ⟨u, by rw [upd_ne ne]; exact h⟩, fun a u xs h => by
    have ne : a ≠ p := fun z => by rw [z, hp] at h; cases h
    rw [upd_ne ne]; exact h⟩
  refine ⟨fun a m e => ?_, kp⟩
  have ne : a ≠ p := fun z => by rw [z, hm] at e; cases e
  exact (k a m e).keep kp (upd_ne ne)
section
variable {X : Cx} {W : WX} {pos : Pos} {elt tg iter : Expr} {ifs : List Expr} {scope : Scope} {own : List (Str × Nat)} {wi : TI3} {g : TG3} {tt : TT3} {te : TE3}
theorem lift_lc {K : PySem.W.Frag} {vs : List Nat} (σ : St2) (H : Hp) (Q : VK) (h : lift K W (tLc3 wi g tt te vs) σ H Q) : tLc (liftI K W wi) (liftG K WF vs g) (liftT K WF tt) (lift K WF te) vs σ H Q := by
  obtain ⟨σ3, M, Q3, X3, rs, q, hq, hx⟩ := h
  refine ⟨σ3, M, _, X3, rs, q, fun J3 M1 J H1 k1 f1 io ⟨P, p0, pok, pstep, pend⟩ L hL => ?_, hx⟩
  have m1L := k1.none_of hL
  have hHL : H L = none := by
    cases z : H L with
    | none => rfl
    | some o =>
      cases zm : M L with
      | none =>
        have := (f1.out L o z zm).1
        rw [hL] at this
        cases this
      | some m => exact absurd m1L (f1.dom L (by rw [zm]; intro q; cases q))
  have f10 : Fr M1 H1 M1 (upd H1 L (.lst [])) := ⟨fun a o e n => ⟨by rw [upd_ne (ne_of_none e hL)]; exact e, n⟩, fun _ z => z⟩
  have k10 : MOk K M1 (upd H1 L (.lst [])) := fun a m e => (k1 a m e).keep (f10.kp k1) (upd_ne (fun z => by rw [z, m1L] at e; cases e))
  refine ⟨fun i m H' => m = J3.items.length - i ∧ i ≤ J3.items.length ∧ ∃ acc accV M', MOk K M' H' ∧ Fr M1 H1 M' H' ∧ H' L = some (.lst accV) ∧ M' L = none ∧ RepL K H' acc accV ∧ P i acc M',
    ⟨_, rfl, Nat.zero_le _, [], [], M1, k10, f10, upd_same, m1L, .nil, p0⟩, ?_⟩
  rintro i m H' ⟨rfl, hi, acc, accV, M', k', f', hL', mL', ra, p'⟩
  by_cases hlt : i < J3.items.length
  · have hd : J3.items[i]? = some J3.items[i] := List.getElem?_eq_getElem hlt
    refine .inr ⟨io.go i M' H' k' f' (pok i acc M' hi p') hlt, fun H5 => ∃ acc accV M5, MOk K M5 H5 ∧ Fr M1 H1 M5 H5 ∧ H5 L = some (.lst accV) ∧ M5 L = none ∧ RepL K H5 acc accV ∧ P (i + 1) acc M5, fun H5 ⟨a, b, c, z⟩ => ⟨J3.items.length - (i + 1), by omega, rfl, hlt, a, b, c, z⟩, fun x H2 y => ?_⟩
    obtain ⟨k2, f2, rx⟩ := io.yld i M' H' x H2 _ k' f' (pok i acc M' hi p') hd y
    have rsA : RepS K (wipe3 σ3 vs) M' (wipe σ vs) H2 := ((rs.step k2 ((f1.trans f').trans f2))).wipe vs
    refine ⟨wipe3 σ3 vs, M', _, _, F3, rsA, rx, pstep i _ acc M' hd p', fun σ4 M4 σ5 H5 r5 f5 l5 z5 q5 => ?_, fun _ _ _ _ _ _ _ _ z => z⟩
    refine ⟨wipe_eq3 (by rw [l5, wipe_length]) z5, σ4, M4, _, F3, r5, q5, fun b M6 H6 k6 f6 q6 => ?_, fun _ _ _ _ _ _ _ _ z => z⟩
    have side : ∀ {Ma Mb : Mm} {Ha Hb : Hp}, Fr Ma Ha Mb Hb → Ha L = some (.lst accV) → Ma L = none → Hb L = some (.lst accV) ∧ Mb L = none := fun f e n => f.out L _ e n
    have s2 := side f2 hL' mL'
    have s5 := side f5 s2.1 s2.2
    have s6 := side f6 s5.1 s5.2
    have t6 := ((f'.trans f2).trans f5).trans f6
    have ra6 : RepL K H6 acc accV := ra.keep (((f2.trans f5).trans f6).kp k')
    cases b with
    | false =>
      simp only [Bool.false_eq_true, if_false] at q6 ⊢
      obtain ⟨M7, g7, p7⟩ := q6
      refine ⟨acc, accV, M7, g7.mok k6, g7.fr t6, s6.1, ?_, ra6, p7⟩
      cases z : M7 L with
      | none => rfl
      | some m =>
        have := g7.sub L m z
        rw [s6.2] at this
        cases this
    | true =>
      simp only [if_true] at q6 ⊢
      refine ⟨σ4, M6, _, F3, r5.step k6 f6, q6, fun y' M7 v H7 k7 f7 r7 ⟨hz, M8, g8, p8⟩ => ?_, fun _ _ _ _ _ _ _ _ z => z⟩
      have s7 := side f7 s6.1 s6.2
      have ra7 := ra6.keep (f7.kp k6)
      obtain ⟨k8, kp8⟩ := mok_side (us := accV ++ [v]) k7 s7.1 s7.2
      refine ⟨accV, s7.1, by rw [ra7.len]; exact hz, acc ++ [y'], accV ++ [v], M8, g8.mok k8, ?_, upd_same, ?_, (ra7.append (.cons r7 .nil)).keep kp8, p8⟩
      · have t7 := t6.trans f7
        refine g8.fr ⟨fun a o e n => ?_, t7.dom⟩
        obtain ⟨e1, n1⟩ := t7.out a o e n
        exact ⟨by rw [upd_ne (ne_of_none e hL)]; exact e1, n1⟩
      · cases z : M8 L with
        | none => rfl
        | some m =>
          have := g8.sub L m z
          rw [s7.2] at this
          cases this
  · have e : i = J3.items.length := by omega
    subst e
    refine .inl ⟨io.stop _ M' H' k' f' (pok _ acc M' hi p') (Nat.le_refl _), ?_⟩
    have kF : MOk K (mupd M' L (.lst acc)) H' := fun a m e => by
      by_cases z : a = L
      · subst z
        rw [mupd_same] at e
        cases e
        exact ⟨accV, hL', ra⟩
      · rw [mupd_ne z] at e
        exact k' a m e
    have t := f1.trans f'
    have fF : Fr M H (mupd M' L (.lst acc)) H' := ⟨fun a o e n => by
      obtain ⟨e1, n1⟩ := t.out a o e n
      exact ⟨e1, by rw [mupd_ne (ne_of_none e hHL)]; exact n1⟩, fun a z => by
      by_cases y : a = L
      · subst y; rw [mupd_same]; intro q; cases q
      · rw [mupd_ne y]; exact t.dom a z⟩
    exact hq _ _ _ _ kF fF rep_ref (pend acc M' p' L mL')
theorem pe3_lc (hc : X.calm = true) (hN : X.N.Nodup) (hi : PI3 X W tg iter wi) (ok : BlkOk X.N X.env.scope scope own)
    (hg : ∀ (s : Shared) (H : Hp) (C : Addr) (cl : List (Str × Addr)) (fp : List Addr), PG3 (X.blk s H scope (compEnvC scope cl C X.env) fp) WF (own.map (·.2)) tg g) (ht : ∀ (s : Shared) (H : Hp) (C : Addr) (cl : List (Str × Addr)) (fp : List Addr), PTs3 (X.blk s H scope (compEnvC scope cl C X.env) fp) WF ifs tt)
    (he : ∀ (s : Shared) (H : Hp) (C : Addr) (cl : List (Str × Addr)) (fp : List Addr), PE3 (X.blk s H scope (compEnvC scope cl C X.env) fp) WF elt te) (hs : ∀ x, foldedSetIterable iter X.env x = pure x := by intro _; rfl) :
    PE3 X W (.ListComp elt [⟨tg, iter, ifs, 0⟩] scope pos) (tLc3 wi g tt te (own.map (·.2))) := (pe_lc hc hN hi ok hg ht he hs).imp lift_lc
theorem ps3_setLc {i : Nat} {y : Str} {py spos : Pos} (hc : X.calm = true) (hN : X.N.Nodup) (hy : X.N[i]? = some y) (hyl : X.env.scope.names.lookup y = some .local)
    (hsw : swapsWith (.ListComp elt [⟨tg, iter, ifs, 0⟩] scope pos) (some (.Name y py)) spos.line X.env = pure true) (hi : PI3 X W tg iter wi) (ok : BlkOk X.N X.env.scope scope own)
    (hg : ∀ (s : Shared) (H : Hp) (C : Addr) (cl : List (Str × Addr)) (fp : List Addr), PG3 (X.blk s H scope (compEnvC scope cl C X.env) fp) WF (own.map (·.2)) tg g) (ht : ∀ (s : Shared) (H : Hp) (C : Addr) (cl : List (Str × Addr)) (fp : List Addr), PTs3 (X.blk s H scope (compEnvC scope cl C X.env) fp) WF ifs tt)
    (he : ∀ (s : Shared) (H : Hp) (C : Addr) (cl : List (Str × Addr)) (fp : List Addr), PE3 (X.blk s H scope (compEnvC scope cl C X.env) fp) WF elt te) (hs : ∀ x, foldedSetIterable iter X.env x = pure x := by intro _; rfl) :
    PS3 X W (.Assign [.Name y py] (.ListComp elt [⟨tg, iter, ifs, 0⟩] scope pos) spos) (tAsg3 (tLc3 wi g tt te (own.map (·.2))) (gName3 i)) :=
  (ps_setLc hc hN hy hyl hsw hi ok hg ht he hs).imp fun D σ H ⟨σ3, M, D3, rs, q, el⟩ =>
    lift_lc σ H _ ⟨σ3, M, _, D3.xx σ3, rs, q, fun d M1 x H1 k1 f1 r1 h1 => el.nx _ M1 _ H1 ((rs.step k1 f1).set_ r1 i) f1 h1, el.qx rs⟩
end

/-! ### defs and their calls -/
abbrev Sp3 := List D → Mm → VK3 → XK3 → Prop
def liftSp (K : PySem.W.Frag) (sp : Sp3) : Sp := fun vs H Q E => ∃ ds M Q3 X3, RepL K H ds vs ∧ MOk K M H ∧ sp ds M Q3 X3 ∧ qE K M H Q3 Q ∧ qX K M H X3 E
abbrev FnOk3 (P : Program) (w : World) (K : PySem.W.Frag) (mg : Str → Option Value) (base : Heap) (k : Nat) (f : Addr) (fd : FuncData) (ps : List Str) (sp : Sp3) : Prop := FnOk P w K mg base (L2.CX P w) k f fd ps (liftSp K sp)
def tCall3 (sp : Sp3) (t : TA3) : TE3 := fun σ M Q X => t σ M (fun ds M1 => sp ds M1 Q X) X
section
variable {X : Cx} {W : WX} {k : Nat} {f : Addr} {fd : FuncData} {ps : List Str} {sp : Sp3} {x : Str} {p pos : Pos} {e : Expr} {es : List Expr} {t : TA3}
theorem pe3_call (F : FnOk3 X.prog X.w X.K X.mg X.base k f fd ps sp) (hr : Room k X.A) (hg : Gl X x) (hm : X.mg x = some (.ref f)) (hk : PySem.W.keepIn X.K (.ref f) = true) (hb : Binds X.K fd ps []) (tk : Takes X W)
    (ha : PA3 X W (e :: es) t) (hdb : (x == ("__debug__" : Str)) = false := by decide) (he : starEach (e :: es) X.env = (false, eval e X.env) :: starEach es X.env := by rfl) (hpl : (backTo pos (starEach es X.env)).any (·.1) = false := by rfl) :
    PE3 X W (.Call (.Name x p) (e :: es) [] pos) (tCall3 sp t) :=
  (pe_callS F hr hg hm hk hb (fun σ => passAt tk σ) ha hdb he hpl).imp fun σ H Q ⟨σ3, M, Q3, X3, rs, q, hq, hx⟩ => ⟨σ3, M, _, X3, rs, q, fun ds M1 xs H1 k1 f1 r1 h1 => ⟨ds, M1, Q3, X3, r1, k1, h1, hq.step f1, hx.step f1⟩, hx⟩
theorem pe_callS0 {CX : CXT} {sp : Sp} {E : St2 → XK} (F : FnOk X.prog X.w X.K X.mg X.base CX k f fd ps sp) (hr : Room k X.A) (hg : Gl X x) (hm : X.mg x = some (.ref f)) (hk : PySem.W.keepIn X.K (.ref f) = true) (hb : Binds X.K fd ps []) (hx : ∀ σ, PassesAt CX X σ (E σ))
    (hdb : (x == ("__debug__" : Str)) = false := by decide) : PE X (.Call (.Name x p) [] [] pos) (fun σ H Q => sp [] H Q (E σ)) := by
  refine ⟨fun pins s σ H Q I h => ?_⟩
  refine wpAny_Call_Name_kw (ld_glob I hg hm ?_ hdb)
  exact PySem.W.callWith_K0 I.kIn hk (run_fnS (us := []) F hr hb (hx σ) I .nil h)
theorem pe3_call0 (F : FnOk3 X.prog X.w X.K X.mg X.base k f fd ps sp) (hr : Room k X.A) (hg : Gl X x) (hm : X.mg x = some (.ref f)) (hk : PySem.W.keepIn X.K (.ref f) = true) (hb : Binds X.K fd ps []) (tk : Takes X W)
    (hdb : (x == ("__debug__" : Str)) = false := by decide) : PE3 X W (.Call (.Name x p) [] [] pos) (tCall3 sp tNil3) :=
  (pe_callS0 F hr hg hm hk hb (fun σ => passAt tk σ) hdb).imp fun σ H Q ⟨σ3, M, Q3, X3, rs, q, hq, hx⟩ => ⟨[], M, Q3, X3, .nil, rs.mok, q, hq, hx⟩
end
/-- the names' values at the entry -/
def start3 (N : List Str) (ds : List D) : St3 := ds.map some ++ List.replicate (N.length - ds.length) none
theorem repS_start {K : PySem.W.Frag} {N : List Str} {ds : List D} {vs : List V} {M : Mm} {H : Hp} (r : RepL K H ds vs) (k : MOk K M H) : RepS K (start3 N ds) M (L2.start N vs) H := by
  have hl := r.len
  refine ⟨by unfold start3 L2.start; simp [hl], fun i d e => ?_, k⟩
  unfold start3 at e
  by_cases hi : i < ds.length
  · rw [List.getElem?_append_left (by simpa using hi), List.getElem?_map] at e
    cases z : ds[i]? with
    | none => rw [z] at e; cases e
    | some d' =>
      rw [z] at e
      cases e
      obtain ⟨v, ev, q⟩ := r.get z
      refine ⟨v, ?_, q⟩
      unfold L2.start
      rw [List.getElem?_append_left (by simpa [hl] using hi), List.getElem?_map, ev]
      rfl
  · rw [List.getElem?_append_right (by simpa using hi), List.getElem?_replicate] at e
    split at e <;> cases e
/-- what is wanted at a def's end: places made within may be forgotten -/
def retE (M : Mm) (Q : VK3) : VK3 := fun d M' => ∃ M1, Fgt M M' M1 ∧ Q d M1
def endF (M : Mm) (Q : VK3) (X : XK3) : Ends3 where
  nx := fun _ M' => retE M Q .non M'
  rt := retE M Q
  xx := fun _ c fs M' => ∃ M1, Fgt M M' M1 ∧ X c fs M1
abbrev wE (E : XK) : WX := fun c d _ H => E c d H
section
variable {P : Program} {w : World} {K : PySem.W.Frag} {mg : Str → Option Value} {base : Heap}
theorem ok3 {x qual : Str} {st : Stmt} {f : Addr} {fd : FuncData} {N ps : List Str} {k : Nat} {sp : Sp3} {t : TS3} (F : Fun K x qual st f fd) (S : FnScope N ps (defScope st)) (len : ∀ ds M Q E, sp ds M Q E → ds.length = ps.length)
    (hbody : ∀ (cdv : Value) (A : Around) (outer : List Env) (s : Shared) (H : Hp) (E : XK), Room k (A.deeper (PyProof.Rows.envOfC qual (defScope st) s.heap.objs.size f cdv)) →
      PSs3 (cxOf (L2.CX P w) P w K mg base N qual (defScope st) f cdv A outer s H E) (wE E) (defBody st) t)
    (hread : ∀ ds M Q E, sp ds M Q E → t (endF M Q E) (start3 N ds) M) : FnOk3 P w K mg base (k + 1) f fd ps sp := by
  refine F.okX S (fun vs H Q E ⟨ds, M, Q3, X3, r, _, h, _⟩ => by rw [r.len]; exact len ds M Q3 X3 h) (fun cdv A outer s H vs Q E hr ⟨ds, M, Q3, X3, r, k0, h, hq, hx⟩ => ?_)
  refine ⟨_, hbody cdv A outer s H E hr, start3 N ds, M, endF M Q3 X3, repS_start r k0, hread ds M Q3 X3 h, ⟨?_, ?_, ?_, ?_, ?_⟩⟩
  · rintro σ3 M' σ H' rs f' ⟨M1, g, z⟩
    exact hq .non M1 .non H' (g.mok rs.mok) (g.fr f') rep_non z
  · rintro d M' v H' k' f' rd ⟨M1, g, z⟩
    exact hq d M1 v H' (g.mok k') (g.fr f') rd z
  · exact fun _ _ _ _ _ _ z => z
  · exact fun _ _ _ _ _ _ z => z
  · rintro c fs σ3 M' dd σ H' rs f' rx ⟨M1, g, z⟩
    exact hx c fs M1 dd H' (g.mok rs.mok) (g.fr f') rx z
theorem takes_fn {N : List Str} {qual : Str} {scope : Scope} {f : Addr} {cdv : Value} {A : Around} {outer : List Env} {s : Shared} {H : Hp} {E : XK} : Takes (cxOf (L2.CX P w) P w K mg base N qual scope f cdv A outer s H E) (wE E) := takes_of rfl rfl rfl rfl
theorem passes_fn {N : List Str} {qual : Str} {scope : Scope} {f : Addr} {cdv : Value} {A : Around} {outer : List Env} {s : Shared} {H : Hp} {E : XK} :
    PassesOwn (model (cxOf (L2.CX P w) P w K mg base N qual scope f cdv A outer s H E).prog (cxOf (L2.CX P w) P w K mg base N qual scope f cdv A outer s H E).w) (cxOf (L2.CX P w) P w K mg base N qual scope f cdv A outer s H E).A (cxOf (L2.CX P w) P w K mg base N qual scope f cdv A outer s H E).env (cxOf (L2.CX P w) P w K mg base N qual scope f cdv A outer s H E).xe := passes_of rfl
end
end L3

namespace L3
open PySem PySem.Spec L2

/-! ### raise, try .. except X as e -/
section
variable {X : Cx} {W : WX} {pos pos' p np : Pos} {C : Addr} {bmB : List Value} {B newId initId : String} {x : Str}
theorem pmk_own0 (F : ExcBaseFacts B newId initId bmB) (q : PySem.W.excIn X.K C bmB newId = true) (gC : X.mg x = some (.ref C)) (kC : PySem.W.keepIn X.K (.ref C) = true) (r : Raises X (.ref C)) (hg : Gl X x)
    (hdb : (x == ("__debug__" : Str)) = false := by decide) : PMk X (.Call (.Name x p) [] [] pos) (fun _ H Q => Q (.ref C) none H) := by
  intro pins s σ H Q I h
  refine wpAny_Call_Name_kw (ld_glob I hg gC ?_ hdb)
  refine PySem.W.callWith_K0 I.kIn kC ?_
  obtain ⟨bm, N, nm, qn, bs, hdct, sn, sub, ab, col, dd, k0, k1, k2, k3, k5, mN, hC, hN, hni, T⟩ := exc_obj I.kIn q
  refine wpAny_call_exc_subT F T hC hN hni (fun h' e hm => ?_) (by show 0 ≤ sizeLine; rw [sizeLine_eq]; omega)
  exact mk_of I hm r h (I.hok.gone hm.new)
def tRaise3 (C : Addr) : TS3 := fun D σ M => D.xx σ (.ref C) [] M
/-- what the written part says of an own exception class without __init__ -/
structure ExcT (K : PySem.W.Frag) (C : Addr) : Prop where
  xC : PySem.W.excIn K C [.type "ValueError", .type "Exception", .type "BaseException", .type "object"] "ValueError.__new__" = true
  kC : PySem.W.keepIn K (.ref C) = true
  bC : PySem.W.subIn K (.ref C) (.type "BaseException") = some true
  tC : PySem.W.typeIn K (.ref C) = some (.type "type")
theorem ps3_raise (hc : X.calm = true) (tk : Takes X W) (T : ExcT X.K C) (gC : X.mg x = some (.ref C)) (hg : Gl X x) (hdb : (x == ("__debug__" : Str)) = false := by decide) :
    PS3 X W (.Raise (some (.Call (.Name x p) [] [] pos)) none pos') (tRaise3 C) :=
  (ps_raise hc tk (pmk_own0 PySem.F.excBase_ValueError T.xC gC T.kC (raises_own T.bC T.tC) hg hdb)).imp fun D σ H ⟨σ3, M, D3, rs, q, el⟩ => el.xx (.ref C) [] σ3 M none σ H rs .refl (.inl ⟨rfl, rfl⟩) q
/-- behind the suite the name is gone -/
def goneE (i : Nat) (D : Ends3) : Ends3 where
  nx := fun σ M => D.nx (σ.set i none) M
  rt := D.rt
  xx := fun _ _ _ _ => False
  bk := fun σ M => D.bk (σ.set i none) M
  ct := fun σ M => D.ct (σ.set i none) M
def tTryAs3 (K : PySem.W.Frag) (c : Value) (i : Nat) (tb : TS3) (ts : Addr → Value → List (Str × D) → TS3) : TS3 := fun D σ M => tb { D with xx := fun σ' cls fs M' => ∃ b, PySem.W.exmOne K cls c = some b ∧ (b = true → ∀ a, M' a = none → ts a cls fs (goneE i D) (σ'.set i (some (.ref a))) M') ∧ (b = false → D.xx σ' cls fs M') } σ M
theorem ps3_try_as {n : Str} {c : Value} {i : Nat} {body suite : List Stmt} {b₀ : Stmt} {tb : TS3} {ts : Addr → Value → List (Str × D) → TS3}
    (hs : X.stack = X.env :: X.outer) (hf : X.env.frame = some X.env.locals) (hN : X.N.Nodup) (hi : X.N[i]? = some n) (hln : X.env.kindOf n = some .local) (hc : Names X x c) (tk : Takes X W)
    (hb : ∀ (W' : WX) (pn : List (Addr × Obj)) (xe : Value → Shared → Prop), Takes (X.tr pn xe) W' → PassesOwn (model X.prog X.w) X.A X.env xe → PSs3 (X.tr pn xe) W' body tb)
    (hsu : ∀ (a : Addr) (oe : Obj) (cls : Value) (d : Option Addr) (fs : List (Str × D)) (pn : List (Addr × Obj)), Zc cls d oe → (∃ vs, oe.data = .fields vs) → (fs = [] → d = none) → PSs3 (X.suite a ((a, oe) :: pn)) WF (b₀ :: suite) (ts a cls fs)) :
    PS3 X W (.Try body [.ExceptHandler (some (.Name x np)) (some n) (b₀ :: suite) pos'] [] [] pos) (tTryAs3 X.K c i tb ts) := by
  have h := ps_try_as (X := X) (x := x) (n := n) (c := c) (i := i) (body := body) (suite := suite) (b₀ := b₀) (np := np) (pos := pos) (pos' := pos') (tb := fun W' => liftS X.K W' tb)
    (ts := fun a cls d D0 σ H => ∃ fs : List (Str × D), True ∧ (fs = [] → d = none) ∧ liftS X.K WF (ts a cls fs) D0 σ H) (Wout := W) hs hf hN hi hln hc tk hb (fun a oe cls d pn hz hv => ?_)
  · refine h.imp fun D σ H ⟨σ3, M, D3, rs, q, el⟩ => ⟨σ3, M, _, rs, q, ⟨el.nx, el.rt, el.bk, el.ct, ?_⟩⟩
    rintro cls fs σ4 M' dd σ' H' r' f' x' ⟨b, e, hy, hn⟩
    refine ⟨b, e, fun eb a ha => ⟨fs, trivial, ?_, σ4.set i (some (.ref a)), M', goneE i D3, r'.set_ rep_ref i, hy eb a (r'.mok.none_of ha), ⟨?_, ?_, ?_, ?_, ?_⟩⟩, fun eb => el.xx cls fs σ4 M' dd σ' H' r' f' x' (hn eb)⟩
    · intro ef
      rcases x' with ⟨_, e0⟩ | ⟨d, fvs, e1, _⟩
      · exact e0
      · exact absurd ef e1
    · exact fun σ5 M5 σ6 H6 r6 f6 z => el.nx _ M5 _ H6 (r6.unset i) (f'.trans f6) z
    · exact el.rt.step f'
    · exact fun σ5 M5 σ6 H6 r6 f6 z => el.bk _ M5 _ H6 (r6.unset i) (f'.trans f6) z
    · exact fun σ5 M5 σ6 H6 r6 f6 z => el.ct _ M5 _ H6 (r6.unset i) (f'.trans f6) z
    · exact fun _ _ _ _ _ _ _ _ _ _ z => z
  · refine ⟨fun pins s σ H D I ⟨fs, _, hd, z⟩ => (hsu a oe cls d fs pn hz hv hd).run pins s σ H D I z⟩
end
end L3

namespace L3
open PySem PySem.Spec L2

/-! ### more by values -/
section
variable {K : PySem.W.Frag}
def u3Neg : U3
  | .int i, M, Q => Q (.int (-i)) M
  | _, _, _ => False
theorem ul_neg : UnL K (rU fun i => .int (-i)) u3Neg := fun d x M H Q3 Q k rd h hq => by
  match d, h, rd with
  | .int i, h, rd => exact ⟨i, rd.int_, hq _ M _ H k .refl rep_int h⟩
end
section
variable {X : Cx} {W : WX} {pos : Pos}
def tDict0 : TE3 := fun _ M Q _ => ∀ l, M l = none → Q (.ref l) (mupd M l (.dK []))
theorem pe3_dict0 : PE3 X W (.Dict [] [] pos) tDict0 := pe_dnewK.imp fun σ H Q ⟨σ3, M, Q3, X3, rs, q, hq, hx⟩ p hp => by
  have hm := rs.mok.none_of hp
  obtain ⟨k2, f2⟩ := mok_new (m := .dK []) rs.mok (o := .dK []) hp hm fun kp => ⟨[], upd_same, rfl, .nil⟩
  exact hq _ _ _ _ k2 f2 rep_ref (q p hm)
end

/-! ### contracts by the number of arguments -/
def spA0 (f : Mm → VK3 → XK3 → Prop) : Sp3 := fun ds M Q X => ds = [] ∧ f M Q X
def spA1 (f : D → Mm → VK3 → XK3 → Prop) : Sp3 := fun ds M Q X => ∃ a, ds = [a] ∧ f a M Q X
def spA2 (f : D → D → Mm → VK3 → XK3 → Prop) : Sp3 := fun ds M Q X => ∃ a b, ds = [a, b] ∧ f a b M Q X
def spA3 (f : D → D → D → Mm → VK3 → XK3 → Prop) : Sp3 := fun ds M Q X => ∃ a b c, ds = [a, b, c] ∧ f a b c M Q X
def spA4 (f : D → D → D → D → Mm → VK3 → XK3 → Prop) : Sp3 := fun ds M Q X => ∃ a b c d, ds = [a, b, c, d] ∧ f a b c d M Q X
def spA5 (f : D → D → D → D → D → Mm → VK3 → XK3 → Prop) : Sp3 := fun ds M Q X => ∃ a b c d e, ds = [a, b, c, d, e] ∧ f a b c d e M Q X
theorem len0 {f} {ds : List D} {M : Mm} {Q : VK3} {X : XK3} (h : spA0 f ds M Q X) : ds.length = 0 := by obtain ⟨e, _⟩ := h; rw [e]; rfl
theorem len1 {f} {ds : List D} {M : Mm} {Q : VK3} {X : XK3} (h : spA1 f ds M Q X) : ds.length = 1 := by obtain ⟨a, e, _⟩ := h; rw [e]; rfl
theorem len2 {f} {ds : List D} {M : Mm} {Q : VK3} {X : XK3} (h : spA2 f ds M Q X) : ds.length = 2 := by obtain ⟨a, b, e, _⟩ := h; rw [e]; rfl
theorem len3 {f} {ds : List D} {M : Mm} {Q : VK3} {X : XK3} (h : spA3 f ds M Q X) : ds.length = 3 := by obtain ⟨a, b, c, e, _⟩ := h; rw [e]; rfl
theorem len4 {f} {ds : List D} {M : Mm} {Q : VK3} {X : XK3} (h : spA4 f ds M Q X) : ds.length = 4 := by obtain ⟨a, b, c, d, e, _⟩ := h; rw [e]; rfl
theorem len5 {f} {ds : List D} {M : Mm} {Q : VK3} {X : XK3} (h : spA5 f ds M Q X) : ds.length = 5 := by obtain ⟨a, b, c, d, e, e2, _⟩ := h; rw [e2]; rfl

/-! ### a def of the top by its name -/
abbrev DefS (K : PySem.W.Frag) (x : Str) (st : Stmt) (fd : FuncData) : Prop := FunD K x x (defArgs st) (defBody st) (defScope st) [] [] (He.ga K x) fd
structure Fn3 (P : Program) (w : World) (K : PySem.W.Frag) (mg : Str → Option Value) (base : Heap) (k : Nat) (x : Str) (ps : List Str) (sp : Sp3) : Prop where
  ex : ∃ fd, FnOk3 P w K mg base k (He.ga K x) fd ps sp ∧ Binds K fd ps []
  gm : mg x = some (.ref (He.ga K x))
  kp : PySem.W.keepIn K (.ref (He.ga K x)) = true
section
variable {P : Program} {w : World} {K : PySem.W.Frag} {mg : Str → Option Value} {base : Heap}
theorem fn3_mk {x : Str} {st : Stmt} {fd : FuncData} {N ps : List Str} {k : Nat} {sp : Sp3} {t : TS3} (F : DefS K x st fd) (gm : mg x = some (.ref (He.ga K x))) (S : FnScope N ps (defScope st)) (len : ∀ ds M Q E, sp ds M Q E → ds.length = ps.length)
    (hb : ∀ (kV doc pm : Value) (an : Option Addr) (cdv ct : Value) (us : List Value), us.length = ps.length → bindArgs (PySem.W.fnOf x x (defArgs st) (defBody st) (defScope st) .none kV doc pm an cdv ct) ⟨us, []⟩ = pure (ps.zip us))
    (hbody : ∀ (f : Addr) (cdv : Value) (A : Around) (outer : List Env) (s : Shared) (H : Hp) (E : XK), Room k (A.deeper (PyProof.Rows.envOfC x (defScope st) s.heap.objs.size f cdv)) →
      PSs3 (cxOf (L2.CX P w) P w K mg base N x (defScope st) f cdv A outer s H E) (wE E) (defBody st) t)
    (hread : ∀ ds M Q E, sp ds M Q E → t (endF M Q E) (start3 N ds) M) : Fn3 P w K mg base (k + 1) x ps sp := by
  refine ⟨⟨fd, ?_, F.bindsN hb⟩, gm, F.kp⟩
  refine F.ok S (fun vs H Q E ⟨ds, M, Q3, X3, r, _, h, _⟩ => by rw [r.len]; exact len ds M Q3 X3 h) (fun cdv A outer s H vs Q E hr ⟨ds, M, Q3, X3, r, k0, h, hq, hx⟩ => ?_)
  refine ⟨_, hbody _ cdv A outer s H E hr, start3 N ds, M, endF M Q3 X3, repS_start r k0, hread ds M Q3 X3 h, ⟨?_, ?_, ?_, ?_, ?_⟩⟩
  · rintro σ3 M' σ H' rs f' ⟨M1, g, z⟩
    exact hq .non M1 .non H' (g.mok rs.mok) (g.fr f') rep_non z
  · rintro d M' v H' k' f' rd ⟨M1, g, z⟩
    exact hq d M1 v H' (g.mok k') (g.fr f') rd z
  · exact fun _ _ _ _ _ _ z => z
  · exact fun _ _ _ _ _ _ z => z
  · rintro c fs σ3 M' dd σ H' rs f' rx ⟨M1, g, z⟩
    exact hx c fs M1 dd H' (g.mok rs.mok) (g.fr f') rx z
end
section
variable {X : Cx} {W : WX} {k : Nat} {ps : List Str} {sp : Sp3} {x : Str} {p pos : Pos} {e : Expr} {es : List Expr} {t : TA3}
theorem pe3_fn (F : Fn3 X.prog X.w X.K X.mg X.base k x ps sp) (hr : Room k X.A) (hg : Gl X x) (tk : Takes X W)
    (ha : PA3 X W (e :: es) t) (hdb : (x == ("__debug__" : Str)) = false := by decide) (he : starEach (e :: es) X.env = (false, eval e X.env) :: starEach es X.env := by rfl) (hpl : (backTo pos (starEach es X.env)).any (·.1) = false := by rfl) :
    PE3 X W (.Call (.Name x p) (e :: es) [] pos) (tCall3 sp t) := by
  obtain ⟨fd, F0, hb⟩ := F.ex
  exact pe3_call F0 hr hg F.gm F.kp hb tk ha hdb he hpl
theorem pe3_fn0 (F : Fn3 X.prog X.w X.K X.mg X.base k x ps sp) (hr : Room k X.A) (hg : Gl X x) (tk : Takes X W)
    (hdb : (x == ("__debug__" : Str)) = false := by decide) : PE3 X W (.Call (.Name x p) [] [] pos) (tCall3 sp tNil3) := by
  obtain ⟨fd, F0, hb⟩ := F.ex
  exact pe3_call0 F0 hr hg F.gm F.kp hb tk hdb
end

/-! ### isinstance of a caught own error -/
def c3IsE (K : PySem.W.Frag) (cls : Value) (fs : List (Str × D)) (a : Addr) : C3 := fun ds M Q => fs = [] ∧ ∃ C D' b, cls = .ref C ∧ ExcC K C ∧ ds = [.ref a, .ref D'] ∧ PySem.W.kitOne K (.ref C) (.ref D') = some b ∧ Q (.bl b) M
theorem cr_isE3 {X : Cx} {a : Addr} {oe : Obj} {cls : Value} {d : Option Addr} {pn : List (Addr × Obj)} (hz : Zc cls d oe) (hf : ∃ vs, oe.data = .fields vs) :
    CallR (X.suite a ((a, oe) :: pn)) (.builtin "isinstance") (fun xs H Q => d = none ∧ ∃ C, cls = .ref C ∧ ExcC X.K C ∧ rIsE X.K C a xs H Q) := by
  intro pins s σ H xs us Q I r h
  obtain ⟨e1, C, e2, T, q⟩ := h
  subst e1 e2
  exact call_isE T hz hf pins s σ H xs us Q I r q
theorem cl_isE {K : PySem.W.Frag} {cls : Value} {fs : List (Str × D)} {a : Addr} {d : Option Addr} (hd : fs = [] → d = none) : CallL K (fun xs H Q => d = none ∧ ∃ C, cls = .ref C ∧ ExcC K C ∧ rIsE K C a xs H Q) (c3IsE K cls fs a) :=
  fun ds xs M H Q3 Q k rd ⟨ef, C, D', b, e1, T, e2, e3, q⟩ hq => by
    subst e2
    obtain ⟨v, u, ev, r, r2⟩ := rd.two_
    exact ⟨hd ef, C, e1, T, .ref D', .ref D', b, by rw [ev, r.ref_, r2.ref_], fun _ z => z, e3, hq _ M _ H k .refl rep_bl q⟩

/-! ### the built-ins' names -/
theorem bt_len : bootBuiltins "len" = some (.builtin "len") := by decide +kernel
theorem bt_isinstance : bootBuiltins "isinstance" = some (.builtin "isinstance") := by decide +kernel
theorem bt_all : bootBuiltins "all" = some (.builtin "all") := by decide +kernel
theorem bt_any : bootBuiltins "any" = some (.builtin "any") := by decide +kernel
theorem bt_abs : bootBuiltins "abs" = some (.builtin "abs") := by decide +kernel
theorem bt_max : bootBuiltins "max" = some (.builtin "max") := by decide +kernel
theorem bt_min : bootBuiltins "min" = some (.builtin "min") := by decide +kernel
theorem bt_sum : bootBuiltins "sum" = some (.builtin "sum") := by decide +kernel
theorem bt_sorted : bootBuiltins "sorted" = some (.builtin "sorted") := by decide +kernel
theorem bt_repr : bootBuiltins "repr" = some (.builtin "repr") := by decide +kernel
theorem bt_int : bootBuiltins "int" = some (.type "int") := by decide +kernel
theorem bt_bool : bootBuiltins "bool" = some (.type "bool") := by decide +kernel
theorem bt_str : bootBuiltins "str" = some (.type "str") := by decide +kernel
theorem bt_tuple : bootBuiltins "tuple" = some (.type "tuple") := by decide +kernel
theorem bt_list : bootBuiltins "list" = some (.type "list") := by decide +kernel
theorem bt_dict : bootBuiltins "dict" = some (.type "dict") := by decide +kernel

/-! ### the head: facts by names, a Bool of one's own, and the end -/
def obsQ (fa : List He.Fa) (fn : List He.DefD) (ex : PySem.W.Frag → Bool) (K : PySem.W.Frag) : He.AlD × Bool := (He.obsD fa fn K, ex K)
def hookQ (n : Nat) (fa : List He.Fa) (fn : List He.DefD) (ex : PySem.W.Frag → Bool) : PySem.W.Hook where
  α := He.AlD × Bool
  obs := fun s => obsQ fa fn ex (He.frG s.heap.get? (He.asD s.heap.get? n))
  val := fun _ => (He.valD fn, true)
  says := fun _ h => ∃ K : PySem.W.Frag, K.In h ∧ He.SaysD fa fn K ∧ ex K = true
  of := fun _ _ e => ⟨_, He.frG_in, congrArg (fun z : He.AlD × Bool => z.1) e, congrArg (fun z : He.AlD × Bool => z.2) e⟩
  keeps := fun _ _ _ ⟨K, hK, c⟩ k => ⟨K, PySem.W.Frag.In.keeps hK k, c⟩
def obsQG (n : Nat) (fa : List He.Fa) (fn : List He.DefD) (ex : PySem.W.Frag → Bool) (g : Addr → Option Obj) : He.AlD × Bool := obsQ fa fn ex (He.frG g (He.asD g n))
theorem obsQG_eq {n : Nat} {fa : List He.Fa} {fn : List He.DefD} {ex : PySem.W.Frag → Bool} {g : Addr → Option Obj} {s : Shared} (h : ∀ a, g a = s.heap.get? a) : obsQG n fa fn ex g = (hookQ n fa fn ex).obs s := by
  have e : g = s.heap.get? := funext h
  rw [e] <;> rfl
/-- the law's own contract, from the script -/
theorem law_sp {K : PySem.W.Frag} {H : Hp} {a : Addr} {ns : List Int} {sp : Sp3} (hO : Only H) (hS : SqL K H a (ns.map V.int))
    (h : sp [.rol (ns.map D.int)] (fun _ => none) (fun d _ => d = .bl true) (fun _ _ _ => False)) : liftSp K sp [.ref a] H (fun v _ => v = .bl true) fun _ _ _ => False := by
  have sf : SqF K H a (ns.map V.int) := by
    rcases hS with (z | ⟨o, z⟩) | z
    · rcases hO a with q | ⟨o, xs, q⟩ <;> rw [q] at z <;> cases z
    · exact .inl ⟨o, z⟩
    · exact .inr z
  have rl : ∀ ns : List Int, RepL K H (ns.map D.int) (ns.map V.int) := fun ns => by
    induction ns with
    | nil => exact .nil
    | cons n ns ih => exact .cons rep_int ih
  refine ⟨_, _, _, _, .cons (rep_rol sf (rl ns)) .nil, ?_, h, ?_, ?_⟩
  · intro a m e
    cases e
  · intro d M' v H' _ _ r e
    have e' : d = .bl true := e
    rw [e'] at r
    exact r.bl_
  · exact fun _ _ _ _ _ _ _ _ z => z
end L3

namespace L3
open PySem PySem.Spec L2

/-! ### a module's constant -/
structure GC (K : PySem.W.Frag) (mg : Str → Option Value) (x : Str) (d : D) : Prop where
  ex : ∃ (v : V) (u : Value), mg x = some u ∧ RelV v u ∧ ∀ H, Rep K H d v
theorem pe3_gc {X : Cx} {W : WX} {x : Str} {d : D} {pos : Pos} (c : GC X.K X.mg x d) (hg : Gl X x := by rfl) (hd : (x == ("__debug__" : Str)) = false := by decide) : PE3 X W (.Name x pos) (tC3 d) := by
  obtain ⟨v, u, gm, rv, rp⟩ := c.ex
  exact pe3_glob (v := v) hg gm rv rp hd
theorem pg3_wish {X : Cx} {W : WX} {vs : List Nat} {e : Expr} {t : TG3} (h : PG3 X WF vs e t) (i : ∀ d σ M Q Z, t d σ M Q Z → t d σ M Q F3) : PG3 X W vs e t := h.wish i

/-! ### a cut behind a statement with several ways out -/
def tCut3 (t u : TS3) : TS3 := fun D σ M => ∃ Mid : St3 → Mm → Prop, t { D with nx := Nx3 M Mid } σ M ∧ ∀ σ' M', Mid σ' M' → u D σ' M'
theorem pss3_cut {X : Cx} {W : WX} {st : Stmt} {rest : List Stmt} {t u : TS3} (h1 : PS3 X W st t) (h2 : PSs3 X W rest u) : PSs3 X W (st :: rest) (tCut3 t u) :=
  (pss_cons h1 h2).imp fun D σ H ⟨σ3, M, D3, rs, ⟨Mid, q, qq⟩, el⟩ => ⟨σ3, M, { D3 with nx := Nx3 M Mid }, rs, q, ⟨fun σ4 M' σ' H' r f ⟨σ5, M5, wk, fg, z⟩ =>
    ⟨σ5, M5, D3, (r.weak wk).fgt fg, qq σ5 M5 z, el.step (fg.fr f)⟩, el.rt, el.bk, el.ct, el.xx⟩⟩
theorem Nx3.mk {M1 M2 : Mm} {P : St3 → Mm → Prop} {σ : St3} (hd : ∀ a, M1 a ≠ none → M2 a ≠ none) (h : P σ M2) : Nx3 M1 P σ M2 := ⟨σ, M2, .refl _, .refl hd, h⟩

/-! ### comprehensions whose elements change nothing -/
section
variable {items : List D} {ok : Mm → Prop} {g : TG3} {tt : TT3} {te : TE3} {σ : St3} {vs : List Nat} {M1 : Mm} {Q : VK3}
theorem lc_map (f : D → D) (hok : ok M1) (hl : items.length ≤ sizeLine)
    (step : ∀ (i : Nat) d (R : VK3), items[i]? = some d → R (f d) M1 → g d (wipe3 σ vs) M1 (fun σ2 M2 => te σ2 M2 R F3) F3)
    (fin : ∀ l, M1 l = none → Q (.ref l) (mupd M1 l (.lst (items.map f)))) :
    ∃ P : Nat → List D → Mm → Prop, P 0 [] M1 ∧ (∀ i acc M', i ≤ items.length → P i acc M' → ok M') ∧
  (∀ i d acc M', items[i]? = some d → P i acc M' → g d (wipe3 σ vs) M' (fun σ2 M2 => tYes3 σ2 M2 (fun b M3 => if b = true then te σ2 M3 (fun y M4 => acc.length < sizeLine ∧ ∃ M5, Fgt M1 M4 M5 ∧ P (i + 1) (acc ++ [y]) M5) F3 else ∃ M5, Fgt M1 M3 M5 ∧ P (i + 1) acc M5) F3) F3) ∧
  ∀ acc M', P items.length acc M' → ∀ l, M' l = none → Q (.ref l) (mupd M' l (.lst acc)) := by
  refine ⟨fun i acc M' => M' = M1 ∧ acc = (items.take i).map f, ⟨rfl, rfl⟩, fun i acc M' _ ⟨e, _⟩ => by rw [e]; exact hok, ?_, ?_⟩
  · rintro i d acc M' hi ⟨rfl, rfl⟩
    refine step i d _ hi ⟨?_, M', .refl fun _ z => z, rfl, ?_⟩
    · have := (List.getElem?_eq_some_iff.mp hi).1
      rw [List.length_map, List.length_take]
      omega
    · rw [List.take_add_one, hi]
      simp
  · rintro acc M' ⟨rfl, rfl⟩ l hl'
    rw [List.take_length]
    exact fin l hl'
theorem lc_filt (p : D → Bool) (f : D → D) (hok : ok M1) (hl : items.length ≤ sizeLine)
    (step : ∀ (i : Nat) d (R : VK3) (N : Mm → Prop), items[i]? = some d → (p d = true → R (f d) M1) → (p d = false → N M1) → g d (wipe3 σ vs) M1 (fun σ2 M2 => tt σ2 M2 (fun b M3 => if b = true then te σ2 M3 R F3 else N M3) F3) F3)
    (fin : ∀ l, M1 l = none → Q (.ref l) (mupd M1 l (.lst ((items.filter p).map f)))) :
    ∃ P : Nat → List D → Mm → Prop, P 0 [] M1 ∧ (∀ i acc M', i ≤ items.length → P i acc M' → ok M') ∧
  (∀ i d acc M', items[i]? = some d → P i acc M' → g d (wipe3 σ vs) M' (fun σ2 M2 => tt σ2 M2 (fun b M3 => if b = true then te σ2 M3 (fun y M4 => acc.length < sizeLine ∧ ∃ M5, Fgt M1 M4 M5 ∧ P (i + 1) (acc ++ [y]) M5) F3 else ∃ M5, Fgt M1 M3 M5 ∧ P (i + 1) acc M5) F3) F3) ∧
  ∀ acc M', P items.length acc M' → ∀ l, M' l = none → Q (.ref l) (mupd M' l (.lst acc)) := by
  refine ⟨fun i acc M' => M' = M1 ∧ acc = ((items.take i).filter p).map f, ⟨rfl, rfl⟩, fun i acc M' _ ⟨e, _⟩ => by rw [e]; exact hok, ?_, ?_⟩
  · rintro i d acc M' hi ⟨rfl, rfl⟩
    have hlt := (List.getElem?_eq_some_iff.mp hi).1
    refine step i d _ _ hi (fun hp => ⟨?_, M', .refl fun _ z => z, rfl, ?_⟩) (fun hp => ⟨M', .refl fun _ z => z, rfl, ?_⟩)
    · have := List.length_filter_le p (items.take i)
      rw [List.length_map]
      rw [List.length_take] at this
      omega
    · rw [List.take_add_one, hi]
      simp [hp]
    · rw [List.take_add_one, hi]
      simp [hp]
  · rintro acc M' ⟨rfl, rfl⟩ l hl'
    rw [List.take_length]
    exact fin l hl'
end

/-! ### places kept -/
def MSub (M M' : Mm) : Prop := ∀ a m, M a = some m → M' a = some m
theorem MSub.refl {M : Mm} : MSub M M := fun _ _ h => h
theorem MSub.trans {M M1 M2 : Mm} (a : MSub M M1) (b : MSub M1 M2) : MSub M M2 := fun x m h => b x m (a x m h)
theorem MSub.new {M M1 : Mm} {l : Addr} {o : MO} (h : MSub M M1) (hl : M1 l = none) : MSub M (mupd M1 l o) := fun a m e => by
  have := h a m e
  rw [mupd_ne (fun z => by rw [z, hl] at this; cases this)]
  exact this
theorem MSub.fgt {M M' : Mm} (h : MSub M M') : Fgt M M' M := ⟨h, fun _ z => z⟩
theorem new_same {M : Mm} {l : Addr} {o : MO} : mupd M l o l = some o := mupd_same
theorem ne_new {M : Mm} {l a : Addr} {m : MO} (h : M a = some m) (hl : M l = none) : a ≠ l := fun z => by rw [z, hl] at h; cases h
theorem new_ne {M : Mm} {l a : Addr} {m : MO} {o : MO} (h : M a = some m) (hl : M l = none) : mupd M l o a = some m := by rw [mupd_ne (ne_new h hl)]; exact h
/-- what a def gives back: M as it was -/
theorem ret_pure {M M' : Mm} {Q : VK3} {d : D} (s : MSub M M') (q : Q d M) : retE M Q d M' := ⟨M, s.fgt, q⟩
theorem ret_same {M : Mm} {Q : VK3} {d : D} (q : Q d M) : retE M Q d M := ret_pure .refl q
theorem ret_x {M M' : Mm} {X : XK3} {c : Value} {fs : List (Str × D)} (s : MSub M M') (q : X c fs M) : ∃ M1, Fgt M M' M1 ∧ X c fs M1 := ⟨M, s.fgt, q⟩

/-! ### tests -/
theorem ifD {p A B : Prop} [Decidable p] (h1 : p → A) (h2 : ¬ p → B) : if decide p = true then A else B := by
  by_cases h : p
  · rw [if_pos (decide_eq_true h)]; exact h1 h
  · rw [if_neg (by simp [h])]; exact h2 h
theorem ifB {c : Bool} {A B : Prop} (h1 : c = true → A) (h2 : c = false → B) : if c = true then A else B := by
  cases c with
  | true => exact iteT (h1 rfl)
  | false => exact iteF (h2 rfl)
/-! ### arithmetic asked by the machine -/
theorem mulOk_r {i j : Int} (h1 : -(2 ^ 64) < j) (h2 : j < 2 ^ 64) : MulOk i j := .inl (.inr ⟨h1, h2⟩)
theorem mulOk_l {i j : Int} (h1 : -(2 ^ 64) < i) (h2 : i < 2 ^ 64) : MulOk i j := .inl (.inl ⟨h1, h2⟩)
theorem divOk {j : Int} (i : Int) (h1 : 0 < j) (h2 : j < 2 ^ 64) : CDivF i j := ⟨by omega, (wide_div (i := i) (b := 64) h1 (by omega) (by decide) (by decide)).2⟩
theorem divOkN {i j : Int} {b : Nat} (h : j ≠ 0) (hb : j.natAbs < 2 ^ b) (h0 : 0 < b) (h9 : b ≤ 9000) : CDivF i j := ⟨h, Nat.lt_of_lt_of_le (PySem.Flt.log2_lt_of h0 hb) h9⟩

/-! ### kinds of values -/
def HasTy (M : Mm) (d : D) : Prop := ∃ t, tyD M d = some t
def isInt : D → Bool
  | .int _ => true
  | _ => false
theorem isi_int {M : Mm} {d : D} {t : String} (h : tyD M d = some t) : (isiB t "int" && !isiB t "bool") = isInt d := by
  cases d with
  | ref a =>
    unfold tyD at h
    cases e : M a with
    | none => simp only [e] at h; cases h
    | some m =>
      simp only [e] at h
      cases m <;> first | (cases h; rfl) | cases h
  | _ => first | (cases h; rfl) | cases h
def isTupD : D → Bool
  | .tup _ => true
  | _ => false
theorem isi_tup {M : Mm} {d : D} {t : String} (h : tyD M d = some t) : isiB t "tuple" = isTupD d := by
  cases d with
  | ref a =>
    unfold tyD at h
    cases e : M a with
    | none => simp only [e] at h; cases h
    | some m =>
      simp only [e] at h
      cases m <;> first | (cases h; rfl) | cases h
  | _ => first | (cases h; rfl) | cases h
theorem HasTy.sub {M M' : Mm} {d : D} (h : HasTy M d) (s : MSub M M') : HasTy M' d := by
  obtain ⟨t, e⟩ := h
  cases d with
  | ref a =>
    unfold tyD at e
    cases z : M a with
    | none => simp only [z] at e; cases e
    | some m =>
      simp only [z] at e
      exact ⟨t, by unfold tyD; simp only [s a m z]; exact e⟩
  | _ => exact ⟨t, e⟩
end L3

namespace L3
open PySem PySem.Spec L2
/-! ### the hand (a list of five) -/
def HandOk (M : Mm) (h : Addr) : Prop := ∃ (c : Addr) (cs : List Int) (a b x y : Int), c ≠ h ∧ M h = some (.lst [.ref c, .int a, .int b, .int x, .int y]) ∧ M c = some (.lst (cs.map D.int)) ∧ 0 ≤ a
theorem HandOk.sub {M M' : Mm} {h : Addr} (k : HandOk M h) (s : MSub M M') : HandOk M' h := by
  obtain ⟨c, cs, a, b, x, y, n, e1, e2, z⟩ := k
  exact ⟨c, cs, a, b, x, y, n, s _ _ e1, s _ _ e2, z⟩
theorem HandOk.some_ {M : Mm} {h : Addr} (k : HandOk M h) : M h ≠ none := by
  obtain ⟨c, cs, a, b, x, y, n, e1, _⟩ := k
  rw [e1]
  intro q
  cases q
end L3

namespace L3
open PySem PySem.Spec L2
/-- some draws were done: the hand may be another one, all other places are kept -/
structure HStep (h : Addr) (M M' : Mm) : Prop where
  ok : HandOk M' h
  rest : ∀ a m, a ≠ h → M a = some m → M' a = some m
theorem HStep.refl {h : Addr} {M : Mm} (k : HandOk M h) : HStep h M M := ⟨k, fun _ _ _ e => e⟩
theorem HStep.trans {h : Addr} {M M1 M2 : Mm} (a : HStep h M M1) (b : HStep h M1 M2) : HStep h M M2 := ⟨b.ok, fun x m n e => b.rest x m n (a.rest x m n e)⟩
theorem HStep.new {h l : Addr} {M M1 : Mm} {o : MO} (a : HStep h M M1) (hl : M1 l = none) : HStep h M (mupd M1 l o) :=
  ⟨a.ok.sub (MSub.new .refl hl), fun x m n e => new_ne (a.rest x m n e) hl⟩
theorem HStep.dom {h : Addr} {M M' : Mm} (a : HStep h M M') : ∀ x, M x ≠ none → M' x ≠ none := fun x e => by
  by_cases z : x = h
  · rw [z]; exact a.ok.some_
  · cases q : M x with
    | none => exact absurd q e
    | some m => rw [a.rest x m z q]; intro w; cases w
theorem HStep.ret {h : Addr} {M M' : Mm} {Q : VK3} {d : D} (s : HStep h M M') (q : Q d M') : retE M Q d M' := ⟨M', .refl s.dom, q⟩
theorem HStep.ret' {M M' : Mm} {Q : VK3} {d : D} (s : MSub M M') (q : Q d M') : retE M Q d M' := ⟨M', .refl (fun a h => by
  cases z : M a with
  | none => exact absurd z h
  | some m => rw [s a m z]; intro w; cases w), q⟩
theorem HandOk.lst {M : Mm} {h : Addr} (k : HandOk M h) : ∃ ds, M h = some (.lst ds) := by
  obtain ⟨c, cs, a, b, x, y, n, e1, _⟩ := k
  exact ⟨_, e1⟩
theorem HasTy.step {h : Addr} {M M' : Mm} {d : D} (t : HasTy M d) (s : HStep h M M') : HasTy M' d := by
  obtain ⟨t, e⟩ := t
  cases d with
  | ref a =>
    unfold tyD at e
    by_cases z : a = h
    · subst z
      obtain ⟨ds, q⟩ := s.ok.lst
      exact ⟨"list", by unfold tyD; simp only [q]⟩
    · cases w : M a with
      | none => simp only [w] at e; cases e
      | some m =>
        simp only [w] at e
        exact ⟨t, by unfold tyD; simp only [s.rest a m z w]; exact e⟩
  | _ => exact ⟨t, e⟩
abbrev spDraw : Sp3 := spA2 fun a b M Q X => ∃ h, a = .ref h ∧ ∃ n, b = .int n ∧ 0 < n ∧ n < 2 ^ 60 ∧ HandOk M h ∧ ∀ (r : Int) M', 0 ≤ r → r < n → HStep h M M' → Q (.int r) M'
end L3

namespace L3
open PySem PySem.Spec L2

theorem r3I_int {C : Int → Int → Prop} {g : Int → Int → D} {i j : Int} {M : Mm} {Q : VK3} : r3I C g (.int i) (.int j) M Q = (C i j ∧ Q (g i j) M) := rfl
theorem r3I0_int {g : Int → Int → D} {i j : Int} {M : Mm} {Q : VK3} : r3I0 g (.int i) (.int j) M Q = Q (g i j) M := rfl
theorem r3Add_int {i j : Int} {M : Mm} {Q : VK3} : r3Add (.int i) (.int j) M Q = Q (.int (i + j)) M := rfl
theorem r3Add_tup {i j : List D} {M : Mm} {Q : VK3} : r3Add (.tup i) (.tup j) M Q = (i.length + j.length ≤ sizeLine ∧ Q (.tup (i ++ j)) M) := rfl
theorem r3Add_ref {a b : Addr} {M : Mm} {Q : VK3} : r3Add (.ref a) (.ref b) M Q = ∃ xs ys, M a = some (.lst xs) ∧ M b = some (.lst ys) ∧ xs.length + ys.length ≤ sizeLine ∧ ∀ l, M l = none → Q (.ref l) (mupd M l (.lst (xs ++ ys))) := rfl
theorem r3Mul_int {i j : Int} {M : Mm} {Q : VK3} : r3Mul (.int i) (.int j) M Q = (MulOk i j ∧ Q (.int (i * j)) M) := rfl
theorem datD_non {M : Mm} : datD M .non = some .none := rfl
theorem datD_bl {M : Mm} {b : Bool} : datD M (.bl b) = some (.bool b) := rfl
theorem datD_int {M : Mm} {i : Int} : datD M (.int i) = some (.int i) := rfl
theorem datD_tup {M : Mm} {ds : List D} : datD M (.tup ds) = datP (.tup ds) := rfl
theorem eqv_int (i j : Int) : PyData.eqv (.int i) (.int j) = decide (i = j) := by
  simp only [PyData.eqv]
  by_cases h : i = j
  · simp [h]
  · simp [h]
theorem items_tup {M : Mm} {ds : List D} : itemsD M (.tup ds) = some ds := rfl
theorem items_rol {M : Mm} {ds : List D} : itemsD M (.rol ds) = some ds := rfl
theorem items_ref {M : Mm} {a : Addr} {ds : List D} (h : M a = some (.lst ds)) : itemsD M (.ref a) = some ds := by simp only [itemsD, h]
theorem len_tup {M : Mm} {ds : List D} : lenD M (.tup ds) = some ds.length := rfl
theorem len_rol {M : Mm} {ds : List D} : lenD M (.rol ds) = some ds.length := rfl
theorem len_ref {M : Mm} {a : Addr} {ds : List D} (h : M a = some (.lst ds)) : lenD M (.ref a) = some ds.length := by simp only [lenD, h]
theorem c3Len_tup {M : Mm} {Q : VK3} {ds : List D} : c3Len [.tup ds] M Q = Q (.int ds.length) M := by
  simp only [c3Len, lenD, Option.some.injEq, exists_eq_left']
theorem c3Len_rol {M : Mm} {Q : VK3} {ds : List D} : c3Len [.rol ds] M Q = Q (.int ds.length) M := by
  simp only [c3Len, lenD, Option.some.injEq, exists_eq_left']
theorem c3Len_ref {M : Mm} {Q : VK3} {a : Addr} : c3Len [.ref a] M Q = ∃ n, lenD M (.ref a) = some n ∧ Q (.int (n : Nat)) M := rfl
theorem c3Int_int {M : Mm} {Q : VK3} {i : Int} : c3Int [.int i] M Q = Q (.int i) M := rfl
theorem c3Int_bl {M : Mm} {Q : VK3} {b : Bool} : c3Int [.bl b] M Q = Q (.int (if b then 1 else 0)) M := rfl
theorem c3Abs_int {M : Mm} {Q : VK3} {i : Int} : c3Abs [.int i] M Q = Q (.int (i.natAbs : Int)) M := by
  have : (if i < 0 then -i else i) = (i.natAbs : Int) := by split <;> omega
  simp only [c3Abs, this]
theorem c3All_ref {M : Mm} {Q : VK3} {a : Addr} : c3All [.ref a] M Q = ∃ ds bs, M a = some (.lst ds) ∧ blsD ds = some bs ∧ Q (.bl (bs.all id)) M := rfl
theorem c3Any_ref {M : Mm} {Q : VK3} {a : Addr} : c3Any [.ref a] M Q = ∃ ds bs, M a = some (.lst ds) ∧ blsD ds = some bs ∧ Q (.bl (bs.any id)) M := rfl
theorem c3Isi_ty {M : Mm} {Q : VK3} {d : D} {n : String} : c3Isi [d, .ty n] M Q = ∃ t, tyD M d = some t ∧ n ∈ clsL ∧ Q (.bl (isiB t n)) M := by
  cases d <;> rfl
theorem m3Append_ref {M : Mm} {Q : VK3} {a : Addr} {d : D} : m3Append (.ref a) [d] M Q = ∃ ds, M a = some (.lst ds) ∧ ds.length < sizeLine ∧ Q .non (mupd M a (.lst (ds ++ [d]))) := rfl
theorem s3Lst_ref {M : Mm} {Q : Mm → Prop} {a : Addr} {i : Int} {d : D} : s3Lst (.ref a) (.int i) d M Q = ∃ ds j, M a = some (.lst ds) ∧ ixN ds.length i = some j ∧ Q (mupd M a (.lst (ds.set j d))) := rfl
theorem r3Is_non {M : Mm} {Q : VK3} {d : D} : r3Is d .non M Q = Q (.bl (isNon d)) M := by cases d <;> rfl
theorem r3IsNot_non {M : Mm} {Q : VK3} {d : D} : r3IsNot d .non M Q = Q (.bl (!isNon d)) M := by cases d <;> rfl
theorem ite_both {p A B : Prop} [Decidable p] : (if p then A else B) = ((p → A) ∧ (¬ p → B)) := by
  by_cases h : p
  · rw [if_pos h]; exact propext ⟨fun a => ⟨fun _ => a, fun n => absurd h n⟩, fun z => z.1 h⟩
  · rw [if_neg h]; exact propext ⟨fun a => ⟨fun n => absurd n h, fun _ => a⟩, fun z => z.2 h⟩
theorem atI_0 {α : Type} {x : α} {xs : List α} : atI (x :: xs) 0 = some x := by
  have : ((0 : Int)) = ((0 : Nat) : Int) := rfl
  rw [this]; exact atI_nat rfl
theorem atI_1 {α : Type} {x y : α} {xs : List α} : atI (x :: y :: xs) 1 = some y := by
  have : ((1 : Int)) = ((1 : Nat) : Int) := rfl
  rw [this]; exact atI_nat rfl
theorem atI_2 {α : Type} {x y z : α} {xs : List α} : atI (x :: y :: z :: xs) 2 = some z := by
  have : ((2 : Int)) = ((2 : Nat) : Int) := rfl
  rw [this]; exact atI_nat rfl
theorem atI_3 {α : Type} {x y z w : α} {xs : List α} : atI (x :: y :: z :: w :: xs) 3 = some w := by
  have : ((3 : Int)) = ((3 : Nat) : Int) := rfl
  rw [this]; exact atI_nat rfl
theorem atI_4 {α : Type} {x y z w v : α} {xs : List α} : atI (x :: y :: z :: w :: v :: xs) 4 = some v := by
  have : ((4 : Int)) = ((4 : Nat) : Int) := rfl
  rw [this]; exact atI_nat rfl
theorem isiB_self {t : String} : isiB t t = true := by simp [isiB]
theorem tyD_tup {M : Mm} {ds : List D} : tyD M (.tup ds) = some "tuple" := rfl
theorem tyD_int {M : Mm} {i : Int} : tyD M (.int i) = some "int" := rfl
theorem tyD_bl {M : Mm} {i : Bool} : tyD M (.bl i) = some "bool" := rfl
theorem hasTy_int {M : Mm} {i : Int} : HasTy M (.int i) := ⟨_, rfl⟩
theorem hasTy_bl {M : Mm} {b : Bool} : HasTy M (.bl b) := ⟨_, rfl⟩
theorem hasTy_tup {M : Mm} {ds : List D} : HasTy M (.tup ds) := ⟨_, rfl⟩
theorem hasTy_non {M : Mm} : HasTy M .non := ⟨_, rfl⟩
theorem hasTy_str {M : Mm} {s : Str} : HasTy M (.str s) := ⟨_, rfl⟩
theorem truD_bl {M : Mm} {b : Bool} : truD M (.bl b) = some b := rfl
theorem truD_int {M : Mm} {i : Int} : truD M (.int i) = some (i != 0) := rfl
theorem retE_same {M : Mm} {Q : VK3} {d : D} (q : Q d M) : retE M Q d M := ret_same q
theorem items_new {M : Mm} {a : Addr} {ds : List D} : itemsD (mupd M a (.lst ds)) (.ref a) = some ds := items_ref mupd_same
theorem len_new {M : Mm} {a : Addr} {ds : List D} : lenD (mupd M a (.lst ds)) (.ref a) = some ds.length := len_ref mupd_same
theorem ix_1_0 : ixN 1 0 = some 0 := rfl
theorem ix_2_0 : ixN 2 0 = some 0 := rfl
theorem ix_2_1 : ixN 2 1 = some 1 := rfl
theorem ix_3_0 : ixN 3 0 = some 0 := rfl
theorem ix_3_1 : ixN 3 1 = some 1 := rfl
theorem ix_3_2 : ixN 3 2 = some 2 := rfl
theorem ix_4_0 : ixN 4 0 = some 0 := rfl
theorem ix_4_1 : ixN 4 1 = some 1 := rfl
theorem ix_4_2 : ixN 4 2 = some 2 := rfl
theorem ix_4_3 : ixN 4 3 = some 3 := rfl
theorem ix_5_0 : ixN 5 0 = some 0 := rfl
theorem ix_5_1 : ixN 5 1 = some 1 := rfl
theorem ix_5_2 : ixN 5 2 = some 2 := rfl
theorem ix_5_3 : ixN 5 3 = some 3 := rfl
theorem ix_5_4 : ixN 5 4 = some 4 := rfl
theorem atI_map_int {l : List Int} {a : Int} (h0 : 0 ≤ a) (h : a < l.length) : ∃ v : Int, atI (l.map D.int) a = some (.int v) ∧ l[a.toNat]? = some v := by
  have ha : a.toNat < l.length := by omega
  refine ⟨l[a.toNat], ?_, List.getElem?_eq_getElem ha⟩
  have : atI (l.map D.int) ((a.toNat : Nat) : Int) = some (.int l[a.toNat]) := atI_nat (by rw [List.getElem?_map, List.getElem?_eq_getElem ha]; rfl)
  have e : ((a.toNat : Nat) : Int) = a := by omega
  rw [e] at this
  exact this
/-- what a list comprehension, a loop wants, once its items are known -/
def LcB (J : It3) (g : TG3) (tt : TT3) (te : TE3) (vs : List Nat) (σ : St3) (M1 : Mm) (Q : VK3) : Prop := ∃ P : Nat → List D → Mm → Prop, P 0 [] M1 ∧ (∀ i acc M', i ≤ J.items.length → P i acc M' → J.ok M') ∧
  (∀ i d acc M', J.items[i]? = some d → P i acc M' → g d (wipe3 σ vs) M' (fun σ2 M2 => tt σ2 M2 (fun b M3 => if b = true then te σ2 M3 (fun y M4 => acc.length < sizeLine ∧ ∃ M5, Fgt M1 M4 M5 ∧ P (i + 1) (acc ++ [y]) M5) F3 else ∃ M5, Fgt M1 M3 M5 ∧ P (i + 1) acc M5) F3) F3) ∧
  ∀ acc M', P J.items.length acc M' → ∀ l, M' l = none → Q (.ref l) (mupd M' l (.lst acc))
theorem lc_seq {tl : TE3} {g : TG3} {tt : TT3} {te : TE3} {vs : List Nat} {σ : St3} {M : Mm} {Q : VK3} {X : XK3} : tLc3 (iSeq3 tl) g tt te vs σ M Q X = tl σ M (fun d M1 => ∃ ds, itemsD M1 d = some ds ∧ LcB ⟨ds, fun M' => itemsD M' d = some ds⟩ g tt te vs σ M1 Q) X := rfl
theorem lc_r1 {ta : TA3} {g : TG3} {tt : TT3} {te : TE3} {vs : List Nat} {σ : St3} {M : Mm} {Q : VK3} {X : XK3} : tLc3 (iRng13 ta) g tt te vs σ M Q X = ta σ M (fun ds M1 => ∃ j : Int, ds = [.int j] ∧ -(2 ^ 62) ≤ j ∧ j < 2 ^ 62 ∧ LcB ⟨rngL 0 j, fun _ => True⟩ g tt te vs σ M1 Q) X := rfl
theorem lc_r2 {ta : TA3} {g : TG3} {tt : TT3} {te : TE3} {vs : List Nat} {σ : St3} {M : Mm} {Q : VK3} {X : XK3} : tLc3 (iRng23 ta) g tt te vs σ M Q X = ta σ M (fun ds M1 => ∃ i j : Int, ds = [.int i, .int j] ∧ (-(2 ^ 62) ≤ i ∧ i < 2 ^ 62 ∧ -(2 ^ 62) ≤ j ∧ j < 2 ^ 62) ∧ LcB ⟨rngL i j, fun _ => True⟩ g tt te vs σ M1 Q) X := rfl
theorem lcb_map {J : It3} {g : TG3} {te : TE3} {σ : St3} {vs : List Nat} {M1 : Mm} {Q : VK3} (f : D → D) (hok : J.ok M1) (hl : J.items.length ≤ sizeLine)
    (step : ∀ (i : Nat) d (R : VK3), J.items[i]? = some d → R (f d) M1 → g d (wipe3 σ vs) M1 (fun σ2 M2 => te σ2 M2 R F3) F3)
    (fin : ∀ l, M1 l = none → Q (.ref l) (mupd M1 l (.lst (J.items.map f)))) : LcB J g tYes3 te vs σ M1 Q := lc_map f hok hl step fin
theorem lcb_filt {J : It3} {g : TG3} {tt : TT3} {te : TE3} {σ : St3} {vs : List Nat} {M1 : Mm} {Q : VK3} (p : D → Bool) (f : D → D) (hok : J.ok M1) (hl : J.items.length ≤ sizeLine)
    (step : ∀ (i : Nat) d (R : VK3) (N : Mm → Prop), J.items[i]? = some d → (p d = true → R (f d) M1) → (p d = false → N M1) → g d (wipe3 σ vs) M1 (fun σ2 M2 => tt σ2 M2 (fun b M3 => if b = true then te σ2 M3 R F3 else N M3) F3) F3)
    (fin : ∀ l, M1 l = none → Q (.ref l) (mupd M1 l (.lst ((J.items.filter p).map f)))) : LcB J g tt te vs σ M1 Q := lc_filt p f hok hl step fin
def ForB (J : It3) (g : TG3) (tb : TS3) (D : Ends3) (σ : St3) (M1 : Mm) : Prop := ∃ P : Nat → St3 → Mm → Prop, P 0 σ M1 ∧ (∀ i σ' M', i ≤ J.items.length → P i σ' M' → J.ok M') ∧
  (∀ i d σ' M', J.items[i]? = some d → P i σ' M' → g d σ' M' (fun σ2 M2 => tb { D with nx := Nx3 M1 (P (i + 1)), ct := Nx3 M1 (P (i + 1)), bk := D.nx } σ2 M2) (D.xx σ')) ∧
  ∀ σ' M', P J.items.length σ' M' → D.nx σ' M'
theorem for_seq {tl : TE3} {g : TG3} {tb : TS3} {D : Ends3} {σ : St3} {M : Mm} : tFor3 (iSeq3 tl) g tb D σ M = tl σ M (fun d M1 => ∃ ds, itemsD M1 d = some ds ∧ ForB ⟨ds, fun M' => itemsD M' d = some ds⟩ g tb D σ M1) (D.xx σ) := rfl
theorem for_r1 {ta : TA3} {g : TG3} {tb : TS3} {D : Ends3} {σ : St3} {M : Mm} : tFor3 (iRng13 ta) g tb D σ M = ta σ M (fun ds M1 => ∃ j : Int, ds = [.int j] ∧ -(2 ^ 62) ≤ j ∧ j < 2 ^ 62 ∧ ForB ⟨rngL 0 j, fun _ => True⟩ g tb D σ M1) (D.xx σ) := rfl
theorem for_r2 {ta : TA3} {g : TG3} {tb : TS3} {D : Ends3} {σ : St3} {M : Mm} : tFor3 (iRng23 ta) g tb D σ M = ta σ M (fun ds M1 => ∃ i j : Int, ds = [.int i, .int j] ∧ (-(2 ^ 62) ≤ i ∧ i < 2 ^ 62 ∧ -(2 ^ 62) ≤ j ∧ j < 2 ^ 62) ∧ ForB ⟨rngL i j, fun _ => True⟩ g tb D σ M1) (D.xx σ) := rfl
theorem rng_get {i j : Int} {k : Nat} {d : D} (h : (rngL i j)[k]? = some d) : d = .int (i + (k : Nat)) ∧ (i + (k : Int) < j) := by
  unfold rngL at h
  rw [List.getElem?_map] at h
  cases z : (List.range (j - i).toNat)[k]? with
  | none => rw [z] at h; cases h
  | some m =>
    rw [z] at h
    have hk : k < (j - i).toNat := by
      have := (List.getElem?_eq_some_iff.mp z).1
      simpa using this
    rw [List.getElem?_range hk] at z
    cases z
    cases h
    exact ⟨rfl, by omega⟩
theorem rng_len {i j : Int} : (rngL i j).length = (j - i).toNat := by
  unfold rngL
  rw [List.length_map, List.length_range]
/-- keeping slots: the same state back behind a turn -/
theorem wks_cons {a : Option D} {b : Option D} {σ σ' : St3} (h : b = none ∨ b = a) (w : Wks σ σ') : Wks (a :: σ) (b :: σ') := by
  refine ⟨by rw [List.length_cons, List.length_cons, w.1], fun i d e => ?_⟩
  match i, e with
  | 0, e =>
    rcases h with h | h
    · rw [h] at e; cases e
    · rw [h] at e; exact e
  | i + 1, e => exact w.2 i d e
theorem wks_nil : Wks [] [] := ⟨rfl, fun _ _ e => e⟩
theorem cpow_lit {i j : Int} : CPow i j = (0 ≤ j ∧ j ≤ 1000000 ∧ -(2 ^ 64) < i ∧ i < 2 ^ 64) := by
  unfold CPow
  apply propext
  constructor
  · rintro ⟨a, b, c⟩
    exact ⟨a, b, by omega, by omega⟩
  · rintro ⟨a, b, c, d⟩
    exact ⟨a, b, by omega⟩
theorem fdiv_pos {i j : Int} (h : 0 ≤ j) : Int.fdiv i j = i / j := Int.fdiv_eq_ediv_of_nonneg i h
theorem u3Neg_int {i : Int} {M : Mm} {Q : VK3} : u3Neg (.int i) M Q = Q (.int (-i)) M := propext ⟨fun h => h, fun h => h⟩
theorem ex_bl {b : Bool} {P : Bool → Prop} : (∃ x, D.bl b = D.bl x ∧ P x) = P b := propext ⟨fun ⟨x, e, p⟩ => by cases e; exact p, fun p => ⟨b, rfl, p⟩⟩
theorem ex_int {b : Int} {P : Int → Prop} : (∃ x, D.int b = D.int x ∧ P x) = P b := propext ⟨fun ⟨x, e, p⟩ => by cases e; exact p, fun p => ⟨b, rfl, p⟩⟩
theorem ex_str {b : Str} {P : Str → Prop} : (∃ x, D.str b = D.str x ∧ P x) = P b := propext ⟨fun ⟨x, e, p⟩ => by cases e; exact p, fun p => ⟨b, rfl, p⟩⟩
theorem ex_ref {b : Addr} {P : Addr → Prop} : (∃ x, D.ref b = D.ref x ∧ P x) = P b := propext ⟨fun ⟨x, e, p⟩ => by cases e; exact p, fun p => ⟨b, rfl, p⟩⟩
theorem ex_tup {b : List D} {P : List D → Prop} : (∃ x, D.tup b = D.tup x ∧ P x) = P b := propext ⟨fun ⟨x, e, p⟩ => by cases e; exact p, fun p => ⟨b, rfl, p⟩⟩
theorem ex_some {α : Type} {b : α} {P : α → Prop} : (∃ x, some b = some x ∧ P x) = P b := propext ⟨fun ⟨x, e, p⟩ => by cases e; exact p, fun p => ⟨b, rfl, p⟩⟩
theorem ex_eq {α : Type} {b : α} {P : α → Prop} : (∃ x, b = x ∧ P x) = P b := propext ⟨fun ⟨x, e, p⟩ => by cases e; exact p, fun p => ⟨b, rfl, p⟩⟩
theorem ex_eq' {α : Type} {b : α} {P : α → Prop} : (∃ x, x = b ∧ P x) = P b := propext ⟨fun ⟨x, e, p⟩ => by cases e; exact p, fun p => ⟨b, rfl, p⟩⟩
theorem ex_1 {a : D} {P : D → Prop} : (∃ x, [a] = [x] ∧ P x) = P a := propext ⟨fun ⟨x, e, p⟩ => by cases e; exact p, fun p => ⟨_, rfl, p⟩⟩
theorem ex_2 {a b : D} {P : D → D → Prop} : (∃ x y, [a, b] = [x, y] ∧ P x y) = P a b := propext ⟨fun ⟨x, y, e, p⟩ => by cases e; exact p, fun p => ⟨_, _, rfl, p⟩⟩
theorem ex_3 {a b c : D} {P : D → D → D → Prop} : (∃ x y z, [a, b, c] = [x, y, z] ∧ P x y z) = P a b c := propext ⟨fun ⟨x, y, z, e, p⟩ => by cases e; exact p, fun p => ⟨_, _, _, rfl, p⟩⟩
theorem ex_4 {a b c d : D} {P : D → D → D → D → Prop} : (∃ x y z w, [a, b, c, d] = [x, y, z, w] ∧ P x y z w) = P a b c d := propext ⟨fun ⟨x, y, z, w, e, p⟩ => by cases e; exact p, fun p => ⟨_, _, _, _, rfl, p⟩⟩
theorem ex_5 {a b c d f : D} {P : D → D → D → D → D → Prop} : (∃ x y z w v, [a, b, c, d, f] = [x, y, z, w, v] ∧ P x y z w v) = P a b c d f := propext ⟨fun ⟨x, y, z, w, v, e, p⟩ => by cases e; exact p, fun p => ⟨_, _, _, _, _, rfl, p⟩⟩
theorem ite_tt {A B : Prop} : (if true = true then A else B) = A := if_pos rfl
theorem ite_ff {A B : Prop} : (if false = true then A else B) = B := if_neg (by decide)
theorem v3_0 {d : D} {σ : St3} {M : Mm} {Q : VK3} {X : XK3} : tVar3 0 (some d :: σ) M Q X = Q d M := propext ⟨fun ⟨x, e, p⟩ => by cases e; exact p, fun p => ⟨d, rfl, p⟩⟩
theorem v3_s {i : Nat} {o : Option D} {σ : St3} {M : Mm} {Q : VK3} {X : XK3} : tVar3 (i + 1) (o :: σ) M Q X = tVar3 i σ M Q X := rfl
theorem ix_it {d : D} {i : Int} {M : Mm} {Q : VK3} : r3Ix d (.int i) M Q = ∃ ds, itemsD M d = some ds ∧ ∃ x, atI ds i = some x ∧ Q x M := by
  unfold r3Ix
  refine propext ⟨?_, ?_⟩
  · rintro ⟨ds, j, x, e1, e2, e3, q⟩
    cases e2
    exact ⟨ds, e1, x, e3, q⟩
  · rintro ⟨ds, e1, x, e3, q⟩
    exact ⟨ds, i, x, e1, rfl, e3, q⟩
theorem ix_tup {ds : List D} {i : Int} {M : Mm} {Q : VK3} : r3Ix (.tup ds) (.int i) M Q = ∃ x, atI ds i = some x ∧ Q x M := by rw [ix_it, items_tup, ex_some]
theorem ix_t0 {x : D} {ds : List D} {M : Mm} {Q : VK3} : r3Ix (.tup (x :: ds)) (.int 0) M Q = Q x M := by rw [ix_tup, atI_0, ex_some]
theorem ix_t1 {x y : D} {ds : List D} {M : Mm} {Q : VK3} : r3Ix (.tup (x :: y :: ds)) (.int 1) M Q = Q y M := by rw [ix_tup, atI_1, ex_some]
theorem eq_int {i j : Int} {M : Mm} {Q : VK3} : r3Eq (.int i) (.int j) M Q = Q (.bl (decide (i = j))) M := by
  unfold r3Eq
  refine propext ⟨?_, ?_⟩
  · rintro ⟨p, q, e1, e2, z⟩
    cases e1
    cases e2
    rw [← eqv_int]
    exact z
  · intro z
    rw [← eqv_int] at z
    exact ⟨_, _, rfl, rfl, z⟩
theorem ne_int {i j : Int} {M : Mm} {Q : VK3} : r3Ne (.int i) (.int j) M Q = Q (.bl (!decide (i = j))) M := by
  unfold r3Ne
  refine propext ⟨?_, ?_⟩
  · rintro ⟨p, q, e1, e2, z⟩
    cases e1
    cases e2
    rw [← eqv_int]
    exact z
  · intro z
    rw [← eqv_int] at z
    exact ⟨_, _, rfl, rfl, z⟩
theorem pow_lit {i j : Int} {M : Mm} {Q : VK3} : r3Pow (.int i) (.int j) M Q = ((0 ≤ j ∧ j ≤ 1000000 ∧ -(2 ^ 64) < i ∧ i < 2 ^ 64) ∧ Q (.int (i ^ j.toNat)) M) := by
  rw [← cpow_lit]; rfl
theorem call_draw {t : TA3} {σ : St3} {M : Mm} {Q : VK3} {X : XK3} {sp : Sp3} : tCall3 sp t σ M Q X = t σ M (fun ds M1 => sp ds M1 Q X) X := rfl
theorem q_tC3 (d : D) (u0 : St3) (M : Mm) (Q : VK3) (u3 : XK3) : tC3 d u0 M Q u3 = (Q d M) := rfl
theorem q_tOp3 (r : R3) (ta tb : TE3) (σ : St3) (M : Mm) (Q : VK3) (X : XK3) : tOp3 r ta tb σ M Q X = (ta σ M (fun d M1 => tb σ M1 (fun e M2 => r d e M2 Q) X) X) := rfl
theorem q_tUn3 (r : U3) (ta : TE3) (σ : St3) (M : Mm) (Q : VK3) (X : XK3) : tUn3 r ta σ M Q X = (ta σ M (fun d M1 => r d M1 Q) X) := rfl
theorem q_tTest3 (t : TE3) (σ : St3) (M : Mm) (Q : (Bool → Mm → Prop)) (X : XK3) : tTest3 t σ M Q X = (t σ M (fun d M1 => ∃ b, d = .bl b ∧ Q b M1) X) := rfl
theorem q_tChain3 (r r' : R3) (ta tb tc : TE3) (σ : St3) (M : Mm) (Q : VK3) (X : XK3) : tChain3 r r' ta tb tc σ M Q X = (ta σ M (fun d M1 => tb σ M1 (fun e M2 => r d e M2 fun z M3 => ∃ k, z = .bl k ∧ if k = true then tc σ M3 (fun f M4 => r' e f M4 Q) X else Q (.bl false) M3) X) X) := rfl
theorem q_tTruth3 (t : TE3) (σ : St3) (M : Mm) (Q : (Bool → Mm → Prop)) (X : XK3) : tTruth3 t σ M Q X = (t σ M (fun d M1 => ∃ b, truD M1 d = some b ∧ Q b M1) X) := rfl
theorem q_tAnd3 (t u : TT3) (σ : St3) (M : Mm) (Q : (Bool → Mm → Prop)) (X : XK3) : tAnd3 t u σ M Q X = (t σ M (fun c M1 => if c = true then u σ M1 Q X else Q false M1) X) := rfl
theorem q_tOr3 (t u : TT3) (σ : St3) (M : Mm) (Q : (Bool → Mm → Prop)) (X : XK3) : tOr3 t u σ M Q X = (t σ M (fun c M1 => if c = true then Q true M1 else u σ M1 Q X) X) := rfl
theorem q_tNot3 (t : TT3) (σ : St3) (M : Mm) (Q : (Bool → Mm → Prop)) (X : XK3) : tNot3 t σ M Q X = (t σ M (fun c M1 => Q (!c) M1) X) := rfl
theorem q_tAndV3 (ta tb : TE3) (σ : St3) (M : Mm) (Q : VK3) (X : XK3) : tAndV3 ta tb σ M Q X = (ta σ M (fun d M1 => ∃ c, d = .bl c ∧ if c = true then tb σ M1 Q X else Q (.bl false) M1) X) := rfl
theorem q_tOrV3 (ta tb : TE3) (σ : St3) (M : Mm) (Q : VK3) (X : XK3) : tOrV3 ta tb σ M Q X = (ta σ M (fun d M1 => ∃ c, d = .bl c ∧ if c = true then Q (.bl true) M1 else tb σ M1 Q X) X) := rfl
theorem q_tNotV3 (ta : TE3) (σ : St3) (M : Mm) (Q : VK3) (X : XK3) : tNotV3 ta σ M Q X = (ta σ M (fun d M1 => ∃ c, d = .bl c ∧ Q (.bl (!c)) M1) X) := rfl
theorem q_tIf3 (t : TT3) (ta tb : TE3) (σ : St3) (M : Mm) (Q : VK3) (X : XK3) : tIf3 t ta tb σ M Q X = (t σ M (fun c M1 => if c = true then ta σ M1 Q X else tb σ M1 Q X) X) := rfl
theorem q_tNil3 (u0 : St3) (M : Mm) (Q : (List D → Mm → Prop)) (u3 : XK3) : tNil3  u0 M Q u3 = (Q [] M) := rfl
theorem q_tCons3 (te : TE3) (tr : TA3) (σ : St3) (M : Mm) (Q : (List D → Mm → Prop)) (X : XK3) : tCons3 te tr σ M Q X = (te σ M (fun d M1 => tr σ M1 (fun ds M2 => Q (d :: ds) M2) X) X) := rfl
theorem q_tTup3 (t : TA3) (σ : St3) (M : Mm) (Q : VK3) (X : XK3) : tTup3 t σ M Q X = (t σ M (fun ds M1 => ds.length ≤ sizeLine ∧ Q (.tup ds) M1) X) := rfl
theorem q_tLst3 (t : TA3) (σ : St3) (M : Mm) (Q : VK3) (X : XK3) : tLst3 t σ M Q X = (t σ M (fun ds M1 => ds.length ≤ sizeLine ∧ ∀ l, M1 l = none → Q (.ref l) (mupd M1 l (.lst ds))) X) := rfl
theorem q_tNoPart3 (u0 : St3) (M : Mm) (Q : (Option Int → Mm → Prop)) (u3 : XK3) : tNoPart3  u0 M Q u3 = (Q none M) := rfl
theorem q_tPart3 (t : TE3) (σ : St3) (M : Mm) (Q : (Option Int → Mm → Prop)) (X : XK3) : tPart3 t σ M Q X = (t σ M (fun d M1 => ∃ i, d = .int i ∧ Q (some i) M1) X) := rfl
theorem q_tSl3 (r : S3) (te : TE3) (tl th : TO3) (σ : St3) (M : Mm) (Q : VK3) (X : XK3) : tSl3 r te tl th σ M Q X = (te σ M (fun d M1 => tl σ M1 (fun lo M2 => th σ M2 (fun hi M3 => r d lo hi M3 Q) X) X) X) := rfl
theorem q_tCB3 (r : C3) (t : TA3) (σ : St3) (M : Mm) (Q : VK3) (X : XK3) : tCB3 r t σ M Q X = (t σ M (fun ds M1 => r ds M1 Q) X) := rfl
theorem q_tBM3 (r : M3) (to : TE3) (t : TA3) (σ : St3) (M : Mm) (Q : VK3) (X : XK3) : tBM3 r to t σ M Q X = (to σ M (fun d M1 => ∃ a ds, d = .ref a ∧ M1 a = some (.lst ds) ∧ t σ M1 (fun es M2 => r d es M2 Q) X) X) := rfl
theorem q_tBM03 (r : M3) (to : TE3) (σ : St3) (M : Mm) (Q : VK3) (X : XK3) : tBM03 r to σ M Q X = (to σ M (fun d M1 => ∃ a ds, d = .ref a ∧ M1 a = some (.lst ds) ∧ r d [] M1 Q) X) := rfl
theorem q_tNext3 (D : Ends3) (σ : St3) (M : Mm) : tNext3  D σ M = (D.nx σ M) := rfl
theorem q_tSeq3 (t u : TS3) (D : Ends3) (σ : St3) (M : Mm) : tSeq3 t u D σ M = (t { D with nx := u D } σ M) := rfl
theorem q_tDrop3 (te : TE3) (D : Ends3) (σ : St3) (M : Mm) : tDrop3 te D σ M = (te σ M (fun _ M1 => D.nx σ M1) (D.xx σ)) := rfl
theorem q_tRet3 (te : TE3) (D : Ends3) (σ : St3) (M : Mm) : tRet3 te D σ M = (te σ M D.rt (D.xx σ)) := rfl
theorem q_tRetN3 (D : Ends3) (u1 : St3) (M : Mm) : tRetN3  D u1 M = (D.rt .non M) := rfl
theorem q_tIfS3 (c : TT3) (t u : TS3) (D : Ends3) (σ : St3) (M : Mm) : tIfS3 c t u D σ M = (c σ M (fun b M1 => if b = true then t D σ M1 else u D σ M1) (D.xx σ)) := rfl
theorem q_gName3 (i : Nat) (d : D) (σ : St3) (M : Mm) (Q : (St3 → Mm → Prop)) (u4 : XK3) : gName3 i d σ M Q u4 = (Q (σ.set i (some d)) M) := rfl
theorem q_gNil3 (ds : List D) (σ : St3) (M : Mm) (Q : (St3 → Mm → Prop)) (u4 : XK3) : gNil3  ds σ M Q u4 = (ds = [] ∧ Q σ M) := rfl
theorem q_gCons3 (t : TG3) (u : TGs3) (ds : List D) (σ : St3) (M : Mm) (Q : (St3 → Mm → Prop)) (X : XK3) : gCons3 t u ds σ M Q X = (∃ d r, ds = d :: r ∧ t d σ M (fun σ1 M1 => u r σ1 M1 Q X) X) := rfl
theorem q_gTup3 (n : Nat) (t : TGs3) (d : D) (σ : St3) (M : Mm) (Q : St3 → Mm → Prop) (X : XK3) : gTup3 n t d σ M Q X = (∃ ds, itemsD M d = some ds ∧ ds.length = n ∧ t ds σ M Q X) := rfl
theorem q_gSub3 (to ti : TE3) (t : Set3) (d : D) (σ : St3) (M : Mm) (Q : (St3 → Mm → Prop)) (X : XK3) : gSub3 to ti t d σ M Q X = (to σ M (fun o M1 => ti σ M1 (fun i M2 => t o i d M2 fun M3 => Q σ M3) X) X) := rfl
theorem q_tAsg3 (te : TE3) (g : TG3) (D : Ends3) (σ : St3) (M : Mm) : tAsg3 te g D σ M = (te σ M (fun d M1 => g d σ M1 D.nx (D.xx σ)) (D.xx σ)) := rfl
theorem q_tPar3 (i j : Nat) (ta : TA3) (D : Ends3) (σ : St3) (M : Mm) : tPar3 i j ta D σ M = (ta σ M (fun ds M1 => ∃ d e, ds = [d, e] ∧ D.nx ((σ.set i (some d)).set j (some e)) M1) (D.xx σ)) := rfl
theorem q_tYes3 (u0 : St3) (M : Mm) (Q : (Bool → Mm → Prop)) (u3 : XK3) : tYes3  u0 M Q u3 = (Q true M) := rfl
theorem q_tCall3 (sp : Sp3) (t : TA3) (σ : St3) (M : Mm) (Q : VK3) (X : XK3) : tCall3 sp t σ M Q X = (t σ M (fun ds M1 => sp ds M1 Q X) X) := rfl
theorem q_tRaise3 (C : Addr) (D : Ends3) (σ : St3) (M : Mm) : tRaise3 C D σ M = (D.xx σ (.ref C) [] M) := rfl
theorem q_spA0 (f : Mm → VK3 → XK3 → Prop) (ds : List D) (M : Mm) (Q : VK3) (X : XK3) : spA0 f ds M Q X = (ds = [] ∧ f M Q X) := rfl
theorem q_spA1 (f : D → Mm → VK3 → XK3 → Prop) (ds : List D) (M : Mm) (Q : VK3) (X : XK3) : spA1 f ds M Q X = (∃ a, ds = [a] ∧ f a M Q X) := rfl
theorem q_spA2 (f : D → D → Mm → VK3 → XK3 → Prop) (ds : List D) (M : Mm) (Q : VK3) (X : XK3) : spA2 f ds M Q X = (∃ a b, ds = [a, b] ∧ f a b M Q X) := rfl
theorem q_spA3 (f : D → D → D → Mm → VK3 → XK3 → Prop) (ds : List D) (M : Mm) (Q : VK3) (X : XK3) : spA3 f ds M Q X = (∃ a b c, ds = [a, b, c] ∧ f a b c M Q X) := rfl
theorem q_spA4 (f : D → D → D → D → Mm → VK3 → XK3 → Prop) (ds : List D) (M : Mm) (Q : VK3) (X : XK3) : spA4 f ds M Q X = (∃ a b c d, ds = [a, b, c, d] ∧ f a b c d M Q X) := rfl
theorem q_spA5 (f : D → D → D → D → D → Mm → VK3 → XK3 → Prop) (ds : List D) (M : Mm) (Q : VK3) (X : XK3) : spA5 f ds M Q X = (∃ a b c d e, ds = [a, b, c, d, e] ∧ f a b c d e M Q X) := rfl
theorem q_tDict0 (u0 : St3) (M : Mm) (Q : VK3) (u3 : XK3) : tDict0  u0 M Q u3 = (∀ l, M l = none → Q (.ref l) (mupd M l (.dK []))) := rfl
theorem q_endF_nx {M : Mm} {Q : VK3} {X : XK3} (σ : St3) (M' : Mm) : (endF M Q X).nx σ M' = retE M Q .non M' := rfl
theorem q_endF_rt {M : Mm} {Q : VK3} {X : XK3} : (endF M Q X).rt = retE M Q := rfl
theorem q_endF_xx {M : Mm} {Q : VK3} {X : XK3} (σ : St3) : (endF M Q X).xx σ = fun c fs M' => ∃ M1, Fgt M M' M1 ∧ X c fs M1 := rfl
theorem q_tTryAs3 (K : PySem.W.Frag) (c : Value) (i : Nat) (tb : TS3) (ts : Addr → Value → List (Str × D) → TS3) (D : Ends3) (σ : St3) (M : Mm) : tTryAs3 K c i tb ts D σ M = tb { D with xx := fun σ' cls fs M' => ∃ b, PySem.W.exmOne K cls c = some b ∧ (b = true → ∀ a, M' a = none → ts a cls fs (goneE i D) (σ'.set i (some (.ref a))) M') ∧ (b = false → D.xx σ' cls fs M') } σ M := rfl
theorem q_goneE_nx {i : Nat} {D : Ends3} (σ : St3) (M : Mm) : (goneE i D).nx σ M = D.nx (σ.set i none) M := rfl
theorem q_goneE_rt {i : Nat} {D : Ends3} : (goneE i D).rt = D.rt := rfl
theorem q_c3IsE {K : PySem.W.Frag} {C a D' : Addr} {M : Mm} {Q : VK3} : c3IsE K (.ref C) [] a [.ref a, .ref D'] M Q = (ExcC K C ∧ ∃ b, PySem.W.kitOne K (.ref C) (.ref D') = some b ∧ Q (.bl b) M) := by
  unfold c3IsE
  refine propext ⟨?_, ?_⟩
  · rintro ⟨_, C', D2, b, e1, T, e2, e3, q⟩
    cases e1
    cases e2
    exact ⟨T, b, e3, q⟩
  · rintro ⟨T, b, e3, q⟩
    exact ⟨rfl, C, D', b, rfl, T, rfl, e3, q⟩
theorem is_bl {a b : Bool} {M : Mm} {Q : VK3} : r3Is (.bl a) (.bl b) M Q = Q (.bl (decide (a = b))) M := rfl
theorem bls_nil : blsD [] = some [] := rfl
theorem bls_cons {b : Bool} {ds : List D} : blsD (.bl b :: ds) = (blsD ds).map (b :: ·) := rfl
theorem c3Str_int {i : Int} {M : Mm} {Q : VK3} : c3Str [.int i] M Q = (i.natAbs.log2 < 1920 ∧ Q (.str (toString i)) M) := rfl
theorem eqv_bool (i j : Bool) : PyData.eqv (.bool i) (.bool j) = decide (i = j) := by
  cases i <;> cases j <;> simp [PyData.eqv]
theorem eqv_str (i j : Str) : PyData.eqv (.str i) (.str j) = decide (i = j) := by
  simp only [PyData.eqv]
  by_cases h : i = j
  · simp [h]
  · simp [h]
theorem ne_bl {i j : Bool} {M : Mm} {Q : VK3} : r3Ne (.bl i) (.bl j) M Q = Q (.bl (!decide (i = j))) M := by
  unfold r3Ne
  rw [← eqv_bool]
  exact propext ⟨fun ⟨p, q, e1, e2, z⟩ => by cases e1; cases e2; exact z, fun z => ⟨_, _, rfl, rfl, z⟩⟩
theorem eq_bl {i j : Bool} {M : Mm} {Q : VK3} : r3Eq (.bl i) (.bl j) M Q = Q (.bl (decide (i = j))) M := by
  unfold r3Eq
  rw [← eqv_bool]
  exact propext ⟨fun ⟨p, q, e1, e2, z⟩ => by cases e1; cases e2; exact z, fun z => ⟨_, _, rfl, rfl, z⟩⟩
theorem gcons_eq {t : TG3} {u : TGs3} {d : D} {ds : List D} {σ : St3} {M : Mm} {Q : St3 → Mm → Prop} {X : XK3} : gCons3 t u (d :: ds) σ M Q X = t d σ M (fun σ1 M1 => u ds σ1 M1 Q X) X := propext ⟨fun ⟨a, r, e, h⟩ => by cases e; exact h, fun h => ⟨d, ds, rfl, h⟩⟩
theorem gnil_eq {σ : St3} {M : Mm} {Q : St3 → Mm → Prop} {X : XK3} : gNil3 [] σ M Q X = Q σ M := propext ⟨fun h => h.2, fun h => ⟨rfl, h⟩⟩
end L3

namespace L3
open PySem PySem.Spec L2
theorem HandOk.new {M : Mm} {h l : Addr} {o : MO} (k : HandOk M h) (hl : M l = none) : HandOk (mupd M l o) h := k.sub (MSub.new .refl hl)
theorem HandOk.ne {M : Mm} {h l : Addr} (k : HandOk M h) (hl : M l = none) : ¬ l = h := fun e => k.some_ (e ▸ hl)
theorem HStep.alloc {M : Mm} {h l : Addr} {o : MO} (k : HandOk M h) (hl : M l = none) : HStep h M (mupd M l o) := (HStep.refl k).new hl
theorem items_step {h : Addr} {M M' : Mm} {b : D} {ds : List D} (s : HStep h M M') (n : ¬ b = .ref h) (e : itemsD M b = some ds) : itemsD M' b = some ds := by
  cases b with
  | ref a =>
    unfold itemsD at e
    cases z : M a with
    | none => simp only [z] at e; cases e
    | some m =>
      simp only [z] at e
      have := s.rest a m (fun q => n (by rw [q])) z
      unfold itemsD
      simp only [this]
      exact e
  | _ => exact e
theorem c3Len_it {M : Mm} {b : D} {ds : List D} {Q : VK3} (e : itemsD M b = some ds) : c3Len [b] M Q = Q (.int ds.length) M := by
  cases b with
  | ref a =>
    unfold itemsD at e
    cases z : M a with
    | none => simp only [z] at e; cases e
    | some m =>
      simp only [z] at e
      cases m with
      | lst es =>
        cases e
        simp only [c3Len, lenD, z, Option.some.injEq, exists_eq_left']
      | _ => cases e
  | tup es => cases e; exact c3Len_tup
  | rol es => cases e; exact c3Len_rol
  | _ => cases e
/-- a value and, if a tuple, its items, are of known kinds -/
def Ty1 (M : Mm) (d : D) : Prop := HasTy M d ∧ ∀ ds, d = .tup ds → ∀ x ∈ ds, HasTy M x
theorem Ty1.step {h : Addr} {M M' : Mm} {d : D} (t : Ty1 M d) (s : HStep h M M') : Ty1 M' d := ⟨t.1.step s, fun ds e x hx => (t.2 ds e x hx).step s⟩
theorem Ty1.of {M : Mm} {d : D} (t : HasTy M d) (n : isTupD d = false) : Ty1 M d := ⟨t, fun ds e => by subst e; cases n⟩
theorem Ty1.tup {M : Mm} {ds : List D} (t : ∀ x ∈ ds, HasTy M x) : Ty1 M (.tup ds) := ⟨hasTy_tup, fun _ e => by cases e; exact t⟩
theorem hasTy_lst {M : Mm} {a : Addr} {ds : List D} (h : M a = some (.lst ds)) : HasTy M (.ref a) := ⟨"list", by unfold tyD; simp only [h]⟩
theorem hasTy_dK {M : Mm} {a : Addr} {ds} (h : M a = some (.dK ds)) : HasTy M (.ref a) := ⟨"dict", by unfold tyD; simp only [h]⟩
theorem ty1_int {M : Mm} {i : Int} : Ty1 M (.int i) := .of hasTy_int rfl
theorem ty1_bl {M : Mm} {i : Bool} : Ty1 M (.bl i) := .of hasTy_bl rfl
theorem ty1_non {M : Mm} : Ty1 M .non := .of hasTy_non rfl
theorem ty1_str {M : Mm} {s : Str} : Ty1 M (.str s) := .of hasTy_str rfl
theorem Nx3.step {h : Addr} {M1 M2 : Mm} {P : St3 → Mm → Prop} {σ : St3} (s : HStep h M1 M2) (p : P σ M2) : Nx3 M1 P σ M2 := Nx3.mk s.dom p
abbrev spAny : Sp3 := spA2 fun a b M Q X => ∃ h, a = .ref h ∧ ¬ b = .ref h ∧ ∃ ds, itemsD M b = some ds ∧ 0 < ds.length ∧ ds.length < 2 ^ 60 ∧ HandOk M h ∧ ∀ d M', d ∈ ds → HStep h M M' → Q d M'
section
variable {J : It3} {g : TG3} {tb : TS3} {D : Ends3} {σ : St3} {M1 : Mm}
theorem forB_inv (P : Nat → St3 → Mm → Prop) (p0 : P 0 σ M1) (pok : ∀ i σ' M', i ≤ J.items.length → P i σ' M' → J.ok M')
    (step : ∀ i d σ' M' (N : St3 → Mm → Prop), J.items[i]? = some d → i < J.items.length → P i σ' M' → (∀ σ2 M2, Nx3 M1 (P (i + 1)) σ2 M2 → N σ2 M2) → g d σ' M' (fun σ2 M2 => tb { D with nx := N, ct := N, bk := D.nx } σ2 M2) (D.xx σ'))
    (fin : ∀ σ' M', P J.items.length σ' M' → D.nx σ' M') : ForB J g tb D σ M1 :=
  ⟨P, p0, pok, fun i d σ' M' hd p => step i d σ' M' _ hd (List.getElem?_eq_some_iff.mp hd).1 p fun _ _ z => z, fin⟩
/-- a loop that draws: the hand is kept well -/
theorem forB_h {h : Addr} (hk : HandOk M1 h) (P : Nat → St3 → Mm → Prop) (p0 : P 0 σ M1) (pok : ∀ i σ' M', HStep h M1 M' → P i σ' M' → J.ok M')
    (step : ∀ i d σ' M' (N : St3 → Mm → Prop), J.items[i]? = some d → i < J.items.length → HStep h M1 M' → P i σ' M' → (∀ σ2 M2, HStep h M1 M2 → P (i + 1) σ2 M2 → N σ2 M2) → g d σ' M' (fun σ2 M2 => tb { D with nx := N, ct := N, bk := D.nx } σ2 M2) (D.xx σ'))
    (fin : ∀ σ' M', HStep h M1 M' → P J.items.length σ' M' → D.nx σ' M') : ForB J g tb D σ M1 :=
  forB_inv (fun i σ' M' => HStep h M1 M' ∧ P i σ' M') ⟨.refl hk, p0⟩ (fun i σ' M' _ z => pok i σ' M' z.1 z.2)
    (fun i d σ' M' N hd hi z n => step i d σ' M' N hd hi z.1 z.2 fun σ2 M2 s p => n σ2 M2 (Nx3.step s ⟨s, p⟩)) fun σ' M' z => fin σ' M' z.1 z.2
/-- a loop that changes nothing but names -/
theorem forB_p (P : Nat → St3 → Prop) (p0 : P 0 σ) (ok : J.ok M1)
    (step : ∀ i d σ' (N : St3 → Mm → Prop), J.items[i]? = some d → i < J.items.length → P i σ' → (∀ σ2 M2, MSub M1 M2 → P (i + 1) σ2 → N σ2 M2) → g d σ' M1 (fun σ2 M2 => tb { D with nx := N, ct := N, bk := D.nx } σ2 M2) (D.xx σ'))
    (fin : ∀ σ', P J.items.length σ' → D.nx σ' M1) : ForB J g tb D σ M1 :=
  forB_inv (fun i σ' M' => M' = M1 ∧ P i σ') ⟨rfl, p0⟩ (fun i σ' M' _ z => by rw [z.1]; exact ok)
    (fun i d σ' M' N hd hi z n => by
      obtain ⟨rfl, z⟩ := z
      exact step i d σ' N hd hi z fun σ2 M2 s p => n σ2 M2 ⟨σ2, M', .refl _, s.fgt, rfl, p⟩) fun σ' M' z => by
      obtain ⟨rfl, z⟩ := z
      exact fin σ' z
end
section
variable {c : TT3} {tb : TS3} {D : Ends3} {σ : St3} {M : Mm}
theorem while_p (P : St3 → Prop) (μ : St3 → Nat) (p0 : P σ)
    (step : ∀ σ' (N : St3 → Mm → Prop), P σ' → (∀ σ2 M2, MSub M M2 → P σ2 → μ σ2 < μ σ' → N σ2 M2) → c σ' M (fun b M2 => if b = true then tb { D with nx := N, ct := N, bk := D.nx } σ' M2 else D.nx σ' M2) (D.xx σ')) : tWhile3 c tb D σ M :=
  ⟨fun σ' M' => M' = M ∧ P σ', fun σ' _ => μ σ', ⟨rfl, p0⟩, fun σ' M' z => by
    obtain ⟨rfl, z⟩ := z
    exact step σ' _ z fun σ2 M2 s p l => ⟨σ2, M', .refl _, s.fgt, ⟨rfl, p⟩, l⟩⟩
theorem while_h {h : Addr} (hk : HandOk M h) (P : St3 → Mm → Prop) (μ : St3 → Mm → Nat) (p0 : P σ M)
    (step : ∀ σ' M' (N : St3 → Mm → Prop), HStep h M M' → P σ' M' → (∀ σ2 M2, HStep h M M2 → P σ2 M2 → μ σ2 M2 < μ σ' M' → N σ2 M2) → c σ' M' (fun b M2 => if b = true then tb { D with nx := N, ct := N, bk := D.nx } σ' M2 else D.nx σ' M2) (D.xx σ')) : tWhile3 c tb D σ M :=
  ⟨fun σ' M' => HStep h M M' ∧ P σ' M', μ, ⟨.refl hk, p0⟩, fun σ' M' z =>
    step σ' M' _ z.1 z.2 fun σ2 M2 s p l => ⟨σ2, M2, .refl _, .refl s.dom, ⟨s, p⟩, l⟩⟩
end
/-- a cut, the way out by name -/
theorem cut_h {t u : TS3} {D : Ends3} {σ : St3} {M : Mm} {h : Addr} (hk : HandOk M h) (Mid : St3 → Mm → Prop) (h1 : ∀ N : St3 → Mm → Prop, (∀ σ2 M2, HStep h M M2 → Mid σ2 M2 → N σ2 M2) → t { D with nx := N } σ M)
    (h2 : ∀ σ' M', HStep h M M' → Mid σ' M' → u D σ' M') : tCut3 t u D σ M :=
  ⟨fun σ' M' => HStep h M M' ∧ Mid σ' M', h1 _ fun σ2 M2 s m => Nx3.step s ⟨s, m⟩, fun σ' M' z => h2 σ' M' z.1 z.2⟩
theorem cut_p {t u : TS3} {D : Ends3} {σ : St3} {M : Mm} (Mid : St3 → Prop) (h1 : ∀ N : St3 → Mm → Prop, (∀ σ2 M2, MSub M M2 → Mid σ2 → N σ2 M2) → t { D with nx := N } σ M)
    (h2 : ∀ σ', Mid σ' → u D σ' M) : tCut3 t u D σ M :=
  ⟨fun σ' M' => M' = M ∧ Mid σ', h1 _ fun σ2 M2 s m => ⟨σ2, M, .refl _, s.fgt, rfl, m⟩, fun σ' M' z => by obtain ⟨rfl, z⟩ := z; exact h2 σ' z⟩
end L3

namespace L3
open PySem PySem.Spec L2
theorem datD_lst {M : Mm} {a : Addr} {ds : List D} (h : M a = some (.lst ds)) : datD M (.ref a) = if okDs ds = true ∧ dpDs ds ≤ 60 then some (.list (toPs ds)) else none := by simp only [datD, h]
theorem datD_emp {M : Mm} {a : Addr} (h : M a = some (.lst [])) : datD M (.ref a) = some (.list []) := by rw [datD_lst h]; rfl
theorem MSub.dom {M M' : Mm} (s : MSub M M') : ∀ a, M a ≠ none → M' a ≠ none := fun a ha e => by
  cases z : M a with
  | none => exact ha z
  | some m => rw [s a m z] at e; cases e
theorem datD_str {M : Mm} {s : Str} (h : PyData.strOk s = true) : datD M (.str s) = some (.str s) := by
  simp only [datD, datP, okD, dpD, h, toP]
  rfl
theorem ne_str {i j : Str} {M : Mm} {Q : VK3} (hi : PyData.strOk i = true) (hj : PyData.strOk j = true) : r3Ne (.str i) (.str j) M Q = Q (.bl (!decide (i = j))) M := by
  unfold r3Ne
  rw [← eqv_str, datD_str hi, datD_str hj]
  exact propext ⟨fun ⟨p, q, e1, e2, z⟩ => by cases e1; cases e2; exact z, fun z => ⟨_, _, rfl, rfl, z⟩⟩
theorem eq_str {i j : Str} {M : Mm} {Q : VK3} (hi : PyData.strOk i = true) (hj : PyData.strOk j = true) : r3Eq (.str i) (.str j) M Q = Q (.bl (decide (i = j))) M := by
  unfold r3Eq
  rw [← eqv_str, datD_str hi, datD_str hj]
  exact propext ⟨fun ⟨p, q, e1, e2, z⟩ => by cases e1; cases e2; exact z, fun z => ⟨_, _, rfl, rfl, z⟩⟩
/-! ### grounds and numbers -/
def primesL : List Int := [2, 3, 5, 7, 11, 13, 17, 19, 23, 29, 31, 37, 41, 43, 47, 53, 59, 61, 67, 71, 73, 79, 83, 89, 97]
def isGr : D → Bool
  | .int k => decide (k = 0) || decide (k ∈ primesL)
  | _ => false
def withinB : D → Int → Int → Bool
  | .int k, i, j => decide (i ≤ k ∧ k ≤ j)
  | _, _, _ => false
def isPairD : D → Bool
  | .tup ds => decide (ds.length = 2)
  | _ => false
def isNumB (p : Int) : D → Bool
  | .tup [.int a, .int b] => if 0 < p then decide (0 ≤ a ∧ a ≤ p - 1) && decide (b = 1) else decide (0 < b) && decide (Nat.gcd a.natAbs b.natAbs = 1)
  | _ => false
theorem isNumB_no {p : Int} {d : D} (h : isPairD d = false) : isNumB p d = false := by
  cases d with
  | tup ds => match ds, h with
    | [], _ => rfl
    | [a], _ => cases a <;> rfl
    | [a, b], h => simp [isPairD] at h
    | a :: b :: c :: r, _ => cases a <;> first | rfl | (cases b <;> rfl)
  | _ => rfl
theorem isGr_int {d : D} (h : isGr d = true) : ∃ p, d = .int p := by
  cases d <;> first | cases h | exact ⟨_, rfl⟩
theorem primes_any (k : Int) : ∀ l : List Int, ((l.map D.int).any fun x => eqF x (.int k)) = decide (k ∈ l)
  | [] => by simp
  | i :: l => by
    rw [List.map_cons, List.any_cons, primes_any k l]
    simp only [eqF, List.mem_cons]
    by_cases h : i = k
    · simp [h]
    · have : ¬ k = i := fun z => h z.symm
      simp [h, this]
theorem gcd_mul_bad {i j : Int} {b : Int} (hb : 2 ≤ b) (hi : i % b = 0) (hj : j % b = 0) : ¬ Nat.gcd i.natAbs j.natAbs = 1 := fun e => by
  have h1 : b.natAbs ∣ i.natAbs := Int.natAbs_dvd_natAbs.mpr (Int.dvd_of_emod_eq_zero hi)
  have h2 : b.natAbs ∣ j.natAbs := Int.natAbs_dvd_natAbs.mpr (Int.dvd_of_emod_eq_zero hj)
  have := Nat.dvd_gcd h1 h2
  rw [e] at this
  have := Nat.le_of_dvd (by decide) this
  omega
theorem log2_lt {i : Int} {n : Nat} (h1 : -(2 ^ n : Int) < i) (h2 : i < 2 ^ n) (hn : 0 < n) : i.natAbs.log2 < n := by
  have h : i.natAbs < 2 ^ n := by
    have e : ((2 ^ n : Nat) : Int) = (2 : Int) ^ n := by simp
    omega
  by_cases z : i.natAbs = 0
  · rw [z]; exact hn
  · exact (Nat.log2_lt z).mpr h
end L3

namespace L3
open PySem PySem.Spec L2
section
variable {P : Program} {w : World} {K : PySem.W.Frag} {mg : Str → Option Value} {base : Heap}
theorem fnok_mk {x : Str} {st : Stmt} {fd : FuncData} {N ps : List Str} {k : Nat} {sp : Sp3} {t : TS3} (F : DefS K x st fd) (S : FnScope N ps (defScope st)) (len : ∀ ds M Q E, sp ds M Q E → ds.length = ps.length)
    (hbody : ∀ (f : Addr) (cdv : Value) (A : Around) (outer : List Env) (s : Shared) (H : Hp) (E : XK), Room k (A.deeper (PyProof.Rows.envOfC x (defScope st) s.heap.objs.size f cdv)) →
      PSs3 (cxOf (L2.CX P w) P w K mg base N x (defScope st) f cdv A outer s H E) (wE E) (defBody st) t)
    (hread : ∀ ds M Q E, sp ds M Q E → t (endF M Q E) (start3 N ds) M) : FnOk3 P w K mg base (k + 1) (He.ga K x) fd ps sp := by
  refine F.ok S (fun vs H Q E ⟨ds, M, Q3, X3, r, _, h, _⟩ => by rw [r.len]; exact len ds M Q3 X3 h) (fun cdv A outer s H vs Q E hr ⟨ds, M, Q3, X3, r, k0, h, hq, hx⟩ => ?_)
  refine ⟨_, hbody _ cdv A outer s H E hr, start3 N ds, M, endF M Q3 X3, repS_start r k0, hread ds M Q3 X3 h, ⟨?_, ?_, ?_, ?_, ?_⟩⟩
  · rintro σ3 M' σ H' rs f' ⟨M1, g, z⟩
    exact hq .non M1 .non H' (g.mok rs.mok) (g.fr f') rep_non z
  · rintro d M' v H' k' f' rd ⟨M1, g, z⟩
    exact hq d M1 v H' (g.mok k') (g.fr f') rd z
  · exact fun _ _ _ _ _ _ z => z
  · exact fun _ _ _ _ _ _ z => z
  · rintro c fs σ3 M' dd σ H' rs f' rx ⟨M1, g, z⟩
    exact hx c fs M1 dd H' (g.mok rs.mok) (g.fr f') rx z
end
/-- nobody calls it -/
theorem fn3_none {P : Program} {w : World} {K : PySem.W.Frag} {mg : Str → Option Value} {base : Heap} {x : Str} {st : Stmt} {fd : FuncData} {ps : List Str} {k : Nat} (F : DefS K x st fd) (gm : mg x = some (.ref (He.ga K x)))
    (hb : ∀ (kV doc pm : Value) (an : Option Addr) (cdv ct : Value) (us : List Value), us.length = ps.length → bindArgs (PySem.W.fnOf x x (defArgs st) (defBody st) (defScope st) .none kV doc pm an cdv ct) ⟨us, []⟩ = pure (ps.zip us)) :
    Fn3 P w K mg base k x ps fun _ _ _ _ => False :=
  ⟨⟨fd, ⟨fun vs H Q E ⟨_, _, _, _, _, _, z, _⟩ => z.elim, fun _ _ _ _ _ _ _ _ _ _ _ _ _ ⟨_, _, _, _, _, _, z, _⟩ => z.elim⟩, F.bindsN hb⟩, gm, F.kp⟩
def excCB (K : PySem.W.Frag) (x : Str) : Bool :=
  He.eqO (PySem.W.findIn K (.ref (He.ga K x)) "__getattribute__") (some (some (.builtin "BaseException.__getattribute__"))) &&
  (He.eqO (PySem.W.findIn K (.ref (He.ga K x)) "__getattr__") (some none) && (decide (PySem.W.subIn K (.ref (He.ga K x)) (.type "BaseException") = some true) &&
  (PySem.W.hasDictIn K (He.ga K x) && (He.eqO (PySem.W.findIn K (.ref (He.ga K x)) "__class__") (some (some (.builtin "object.__class__"))) &&
  (He.eqO (PySem.W.specialIn K (.builtin "object.__class__") "__get__") (some (some (.builtin "getset_descriptor.__get__"))) &&
  (decide (PySem.W.takesIn K (.builtin "object.__class__") = some true) && decide (PySem.W.mroIn K (He.ga K x) (.type "object") = some true)))))))
theorem excCB_ok {K : PySem.W.Frag} {x : Str} (h : excCB K x = true) : ExcC K (He.ga K x) := by
  obtain ⟨h1, h⟩ := He.ba h
  obtain ⟨h2, h⟩ := He.ba h
  obtain ⟨h3, h⟩ := He.ba h
  obtain ⟨h4, h⟩ := He.ba h
  obtain ⟨h5, h⟩ := He.ba h
  obtain ⟨h6, h⟩ := He.ba h
  obtain ⟨h7, h⟩ := He.ba h
  exact ⟨He.eqO_ok h1, He.eqO_ok h2, of_decide_eq_true h3, h4, He.eqO_ok h5, He.eqO_ok h6, of_decide_eq_true h7, of_decide_eq_true h⟩
def kitB1 (K : PySem.W.Frag) (x y : Str) (b : Bool) : Bool := decide (PySem.W.kitOne K (.ref (He.ga K x)) (.ref (He.ga K y)) = some b)
theorem kitB1_ok {K : PySem.W.Frag} {x y : Str} {b : Bool} (h : kitB1 K x y b = true) : PySem.W.kitOne K (.ref (He.ga K x)) (.ref (He.ga K y)) = some b := of_decide_eq_true h
/-- a constant of the module as a value -/
def dvD : He.Dv → Option D
  | .non => some .non
  | .bl b => some (.bl b)
  | .int i => some (.int i)
  | .str x => some (.str x)
  | _ => none
def dvDs : List He.Dv → Option (List D)
  | [] => some []
  | v :: vs => match dvD v, dvDs vs with
    | some d, some ds => some (d :: ds)
    | _, _ => none
theorem dvDs_rep {K : PySem.W.Frag} {H : Hp} : ∀ {vs : List He.Dv} {ds : List D}, dvDs vs = some ds → RepL K H ds (vs.map (He.Dv.v K))
  | [], ds, h => by cases h; exact .nil
  | v :: vs, ds, h => by
    unfold dvDs at h
    cases e1 : dvD v with
    | none => simp only [e1] at h; cases h
    | some d =>
      cases e2 : dvDs vs with
      | none => simp only [e1, e2] at h; cases h
      | some es =>
        simp only [e1, e2] at h
        cases h
        refine .cons ?_ (dvDs_rep e2)
        cases v <;> first | (cases e1; done) | (cases e1; first | exact rep_non | exact rep_bl | exact rep_int | exact rep_str)
theorem gc_tup {K : PySem.W.Frag} {h : Heap} {mg : Str → Option Value} {x : Str} {vs : List He.Dv} {ds : List D} (X : K.In h) (G : h.Ns mainGlobals mg) (g : (He.Fa.glo x).ok K = true) (t : He.tupB K x vs = true) (e : dvDs vs = some ds) : GC K mg x (.tup ds) :=
  ⟨.ref (He.ga K x), .ref (He.ga K x), He.glo_ok X G g, rfl, fun H => rep_tup (He.tupB_ok t H) (dvDs_rep e)⟩
theorem gc_int {K : PySem.W.Frag} {h : Heap} {mg : Str → Option Value} {x : Str} {i : Int} (X : K.In h) (G : h.Ns mainGlobals mg) (g : (He.Fa.int x i).ok K = true) : GC K mg x (.int i) := by
  obtain ⟨t, e⟩ := He.int_ok X G g
  exact ⟨.int i, _, e, ⟨t, rfl⟩, fun H => rep_int⟩
theorem gc_str {K : PySem.W.Frag} {h : Heap} {mg : Str → Option Value} {x i : Str} (X : K.In h) (G : h.Ns mainGlobals mg) (g : (He.Fa.str x i).ok K = true) : GC K mg x (.str i) := by
  obtain ⟨t, e⟩ := He.str_ok X G g
  exact ⟨.str i, _, e, ⟨t, rfl⟩, fun H => rep_str⟩
/-- what an exception leaves, at whatever world -/
def CXA (P : Program) : CXT := fun o H s E e s' => ∃ w, L2.CX P w o H s E e s'
theorem fnok_cx {P : Program} {w : World} {K : PySem.W.Frag} {mg : Str → Option Value} {base : Heap} {k : Nat} {f : Addr} {fd : FuncData} {ps : List Str} {sp : Sp} (F : FnOk P w K mg base (L2.CX P w) k f fd ps sp) : FnOk P w K mg base (CXA P) k f fd ps sp :=
  ⟨F.len, fun A outer s H args us vs Q E hr he hb hv hs => codeAny_mono (F.run A outer s H args us vs Q E hr he hb hv hs) fun r s' x => by
    cases r with
    | ok o => cases o <;> exact x
    | error e => exact ⟨w, x⟩⟩
theorem cxa_no {P : Program} (H : Hp) (s : Shared) (e : Value) (s' : Shared) (h : CXA P [] H s (fun _ _ _ => False) e s') : False := by
  obtain ⟨w, a, B, H', cls, d, _, _, _, _, _, _, _, z⟩ := h
  exact z
theorem excT_of {K : PySem.W.Frag} {x : Str} (c : (He.Fa.exc x).ok K = true) : ExcT K (He.ga K x) := by
  obtain ⟨a, b, d, e⟩ := He.exc_ok c
  exact ⟨a, b, d, e⟩
end L3

namespace L3
section
open PySem
open Sem (wp)
open AutoSeq1 (wpAny_loadPart')
theorem meets_enum_tup (l : Addr) (items : Array Value) (n : Nat) (dct : Option Addr) (sl : Array (Option Value)) :
    Meets (Builtin.«enumerate.__new__» ⟨[.type "enumerate", .ref l], []⟩) (fun _ R s => s.heap.get? l = some { cls := .type "tuple", dict := dct, data := .seq items n, slots := sl } ∧
      R (.ok (.ret (.ref (s.heap.push { cls := .type "tuple_iterator", data := .fields #[.ref l, .int 0 0] }).objs.size)))
        { s with heap := (s.heap.push { cls := .type "tuple_iterator", data := .fields #[.ref l, .int 0 0] }).push { cls := .type "enumerate", data := .fields #[.none, .bool false, .ref s.heap.objs.size, rawInt 0, .none, .none] } }) :=
  .of_wp fun prog w A R s h => by
    obtain ⟨hp, g, d, tk, os⟩ := s; obtain ⟨hl, h⟩ := h
    have hsub := sub_enumerate
    have hL : Heap.IsTuple (Shared.heap ⟨hp, g, d, tk, os⟩) l items := ⟨_, hl, rfl, n, rfl⟩
    wp_walk using wpAny_loadPart' hl
    refine wpAny_stack_any fun st => wpAny_pure ?_
    split
    · rename_i c _ _ _ _ _
      cases (c == Value.type "enumerate")
      · wp_walk using wpAny_loadPart' hl, wpAny_pyIter_tuple hL
        exact ⟨_, rfl, h⟩
      · wp_walk using wpAny_loadPart' hl, wpAny_pyIter_tuple hL
        exact ⟨_, rfl, h⟩
    · wp_walk using wpAny_loadPart' hl, wpAny_pyIter_tuple hL
      exact ⟨_, rfl, h⟩
variable {prog : Program} {w : World} {A : Around} {E : Value → Shared → Prop} {s : Shared}
theorem call_enum_tup {l : Addr} {items : Array Value} {Q : Value → Shared → Prop} (hL : s.heap.IsTuple l items)
    (h : ∀ h', IsEnum h' (s.heap.objs.size + 1) s.heap.objs.size 0 .none → h'.IsTupleIter s.heap.objs.size l 0 → h'.objs.size = s.heap.objs.size + 2 →
      (∀ b o, s.heap.get? b = some o → h'.get? b = some o) → Q (.ref (s.heap.objs.size + 1)) { s with heap := h' }) :
    wpAny (model prog w) A (call (.type "enumerate") [.ref l]) Q E s := by
  obtain ⟨⟨c, dct, dt, sl⟩, hl, hc, n, hd⟩ := hL
  replace hc : c = .type "tuple" := hc
  replace hd : dt = .seq items n := hd
  subst hc hd
  refine callType_new F.called_enumerate (by decide) (F.typeCall_enumerate_1 _) (F.newCall_enumerate_1 _) (fun obj => F.args_object_init_2 obj _) F.entry_enumerate_new
    (meets_enum_tup l items n dct sl) ⟨hl, ?_⟩
  have hz : (s.heap.push { cls := .type "tuple_iterator", data := .fields #[.ref l, .int 0 0] }).objs.size = s.heap.objs.size + 1 := Heap.size_push ..
  show _ ∧ _
  rw [hz]
  have he : IsEnum ((s.heap.push { cls := .type "tuple_iterator", data := .fields #[.ref l, .int 0 0] }).push
      { cls := .type "enumerate", data := .fields #[.none, .bool false, .ref s.heap.objs.size, rawInt 0, .none, .none] }) (s.heap.objs.size + 1) s.heap.objs.size 0 .none := by
    have := Heap.get?_push_size (s.heap.push { cls := .type "tuple_iterator", data := .fields #[.ref l, .int 0 0] })
      (o := { cls := .type "enumerate", data := .fields #[.none, .bool false, .ref s.heap.objs.size, rawInt 0, .none, .none] }) rfl
    rw [hz] at this; exact this
  refine ⟨⟨_, he, rfl⟩, h _ he ⟨_, Heap.get?_push_of_some _ (Heap.get?_push_size _ rfl), rfl, rfl⟩ (by rw [Heap.size_push, hz]) fun b o x => Heap.get?_push_of_some _ (Heap.get?_push_of_some _ x)⟩
end
section
open PySem
variable {prog : Program} {w : World} {A : Around} {E : Value → Shared → Prop} {s : Shared}
theorem next_enumT_end {e it l : Addr} {i : Nat} {items : Array Value} {old : Value} {Q : Option Value → Shared → Prop} (hh : A.handled = none)
    (he : IsEnum s.heap e it i old) (hit : s.heap.IsTupleIter it l i) (hl : s.heap.IsTuple l items) (hx : items[i]? = none)
    (hQ : ∀ h', Heap.ExtBut it s.heap h' → Q none { s with heap := h' }) : wpAny (model prog w) A (pyNext (.ref e)) Q E s := by
  have hT : s.TypeIs (.ref e) "enumerate" := ⟨_, he, rfl⟩
  unfold pyNext
  refine wpAny_bind (wpAny_attempt (wpAny_callSpecial?_slot (name := Str.ofString "__next__") hT F.slot_enumerate_next
    (wpAny_call_entry F.slot_enumerate_next hT F.entry_enumerate_next ?_ (F.args_enumerate_next_1 _))))
  show wpAny _ _ (field (.ref e) 2 >>= _) _ _ _
  refine wpAny_bind (wpAny_field he rfl (x := .ref it) rfl ?_)
  refine wpAny_bind (wpAny_nextOf_tuple_end hh hit hl hx fun h' x he' hx' => ?_)
  obtain ⟨o, ho, hc⟩ := hx'
  refine wpAny_bind (wpAny_isInstance (T := "StopIteration") (b := true) ⟨o, ho, hc⟩ isSubtype_stop ?_)
  exact wpAny_pure (hQ _ he')
end
section
open PySem PySem.Spec PyProof.Rows L2
/-- the tuple at a, each item in a new pair with its place -/
def IteT (K : PySem.W.Frag) (a : Addr) : It :=
  ⟨fun i H => ∃ (xs : List V) (x : V), SqT K H a xs ∧ xs[i]? = some x, fun i H v H' => ∃ T x, v = .ref T ∧ H T = none ∧ H' = upd H T (.tup [.int (i : Nat), x]) ∧ ∀ xs, SqT K H a xs → xs[i]? = some x, fun i H => ∃ xs : List V, SqT K H a xs ∧ xs.length ≤ i⟩
theorem turn_enumT {P : Program} {w : World} {K : PySem.W.Frag} {elts : List Expr} {kk : Nat} {tpos : Pos} (a e it : Addr) :
    Turn P w K (.Tuple elts kk tpos) (IteT K a) [e, it] e (fun i h => (∃ old, IsEnum h e it ((i : Nat) : Int) old) ∧ h.IsTupleIter it a i ∧ e ≠ it) where
  mem := by simp
  obj := fun i h st b hb => by
    obtain ⟨⟨old, he⟩, ⟨o, ho, hc, hd⟩, _⟩ := st
    have e' : b = e ∨ b = it := by simpa using hb
    rcases e' with z | z
    · rw [z]; exact ⟨_, he, fun v q => nomatch q⟩
    · rw [z]; exact ⟨o, ho, fun v q => by rw [hd] at q; cases q⟩
  keep := fun i h h' st k => let ⟨⟨old, he⟩, hi, hne⟩ := st; ⟨⟨old, k e (by simp) _ he⟩, hi.at fun o q => k it (by simp) o q, hne⟩
  item := by
    intro X hP hw hK hc i pins s σ H E I hf st hg
    subst hP hw hK
    obtain ⟨⟨old, he⟩, hit, hne⟩ := st
    obtain ⟨xs, x, hq, hx⟩ := hg
    obtain ⟨its, rv, p, hz⟩ := I.tuple hq
    obtain ⟨u, hu, ru⟩ := rv.get hx
    have hel : e < s.heap.objs.size := Heap.lt_size he
    have hil : it < s.heap.objs.size := by obtain ⟨_, q, _⟩ := hit; exact Heap.lt_size q
    have pt : s.heap.IsTuple a its.toArray := p
    have hea : e ≠ a := fun z => by
      obtain ⟨o, ho, hc1, _⟩ := pt
      rw [← z] at ho
      have e3 := Option.some.inj (he.symm.trans ho)
      rw [← e3] at hc1
      simp at hc1
    have hia : a ≠ it := fun z => by
      obtain ⟨o, ho, hc1, _⟩ := pt
      obtain ⟨o', ho', hc2, _⟩ := hit
      rw [z] at ho
      have e3 := Option.some.inj (ho.symm.trans ho')
      rw [e3, hc2] at hc1
      simp at hc1
    have D := Draws.tuple (prog := X.prog) (w := X.w) (A := X.A.in1) (I.ok.hd hc) it a hia its.toArray
    have hlt : i < its.toArray.size := by
      have := (List.getElem?_eq_some_iff.mp hu).1
      simpa using this
    refine wpAny_pyNext_enum_itemD D he ⟨hit, pt⟩ hlt hne (by simp [hne, hea]) fun u' h' tk hP ho hst' hT hsz hk => ?_
    obtain ⟨hit', _⟩ := hst'
    have eu : u' = u := by
      have h1 : its.toArray[i]? = some u' := hP
      rw [List.getElem?_toArray, hu] at h1
      cases h1
      rfl
    subst eu
    refine ⟨_, rfl, wpAny_letOwnedTupleGo_enum (s := { s with heap := h', toks := tk + 1 }) ho fun h'' he' sb => ?_⟩
    have hT2 : h''.get? s.heap.objs.size = some { cls := .type "tuple", data := .seq #[.int i tk, u'] } := (sb.2 _ (Nat.ne_of_gt hel)).trans hT
    have new : ObjOk X.prog X.w (upd H s.heap.objs.size (.tup [.int (i : Nat), x])) h'' s.heap.objs.size (.tup [.int (i : Nat), x]) :=
      ⟨by show 2 ≤ sizeLine; decide, [.int i tk, u'], .cons ⟨_, rfl⟩ (.cons ru .nil), ⟨_, hT2, rfl, _, rfl⟩⟩
    have I1 : Inv X pins σ (upd H s.heap.objs.size (.tup [.int (i : Nat), x])) { s with heap := h'', toks := tk + 1 } :=
      I.turnedNew (ch := [e, it]) (fun b ob hb q => (sb.2 b (fun z => hb (by simp [z]))).trans (hk b ob (fun z => hb (by simp [z])) (fun z => hb (by simp [z])) q)) hf (Nat.le_refl _) new
    refine ⟨.ref s.heap.objs.size, _, I1, rfl, ⟨_, x, rfl, I.hok.fresh (Nat.le_refl _), rfl, fun ys hy => by rw [I.tuple_inj hy hq]; exact hx⟩, ⟨⟨u', ?_⟩, hit'.at fun o q => (sb.2 it (Ne.symm hne)).trans q, hne⟩, fun b hb => ?_⟩
    · have e1 : ((i + 1 : Nat) : Int) = (i : Int) + 1 := by omega
      rw [e1]; exact he'
    · have hb' : b < s.heap.objs.size := by
        have e' : b = e ∨ b = it := by simpa using hb
        rcases e' with z | z
        · rw [z]; exact hel
        · rw [z]; exact hil
      rw [upd_ne (Nat.ne_of_lt hb')]
      exact (hf b hb).1
  done := by
    intro X hP hw hK hc i pins s σ H E I hf st hg
    subst hP hw hK
    obtain ⟨⟨old, he⟩, hit, hne⟩ := st
    obtain ⟨xs, hq, hx⟩ := hg
    obtain ⟨its, rv, p, hz⟩ := I.tuple hq
    have pt : s.heap.IsTuple a its.toArray := p
    obtain ⟨f0, f1, f2, f3, f4, f5⟩ := hf it (by simp)
    have hl := rv.length
    exact next_enumT_end (I.ok.hd hc) he hit pt (by simp; omega) fun h' eb => ⟨rfl, I.turned (t' := s.toks) (fun b o hb q => eb b o hb q) f0 f1 f3 f4 f5⟩
  self := fun A i s Q E st h => let ⟨⟨_, he⟩, _⟩ := st; wpAny_pyIter_enum he h
def iEnumT (K : PySem.W.Frag) (ta : TA) : TI := fun σ H R => ta σ H fun vs H1 => ∃ a xs, vs = [.ref a] ∧ SqT K H1 a xs ∧ R (IteT K a) H1
theorem pi_enumA {X : Cx} {e : Expr} {ta : TA} {p pos tpos : Pos} {elts : List Expr} {kk : Nat} (hg : Gl X "enumerate") (hm : X.mg "enumerate" = none) (ha : PA X [e] ta) (hs : starEach [e] X.env = [(false, eval e X.env)] := by rfl) :
    PI X (.Tuple elts kk tpos) (.Call (.Name "enumerate" p) [e] [] pos) (fun σ H R => ta σ H fun vs H1 => ∃ a xs, vs = [.ref a] ∧ ((SqL X.K H1 a xs ∧ R (Ite X.K a) H1) ∨ (SqT X.K H1 a xs ∧ R (IteT X.K a) H1))) := by
  refine ⟨fun pins s σ H R I h => ?_⟩
  refine Call_ (ld_blt I hg hm boot_enumerate (PyProof.Rows.callWith_type1 (thn (ha.run pos pins s σ H _ I h) fun us s1 ⟨vs, H1, I1, r1, q1⟩ => ?_) hs rfl))
  obtain ⟨a, xs, ex, hq⟩ := q1
  subst ex
  cases r1 with
  | cons r rr =>
    cases rr
    cases r
    have fresh : ∀ b, b ∈ [s1.heap.objs.size + 1, s1.heap.objs.size] → FpOk X pins H1 b := fun b hb => by
      have e' : b = s1.heap.objs.size + 1 ∨ b = s1.heap.objs.size := by simpa using hb
      have hle : s1.heap.objs.size ≤ b := by
        rcases e' with z | z
        · rw [z]; exact Nat.le_add_right _ _
        · rw [z]; exact Nat.le_refl _
      exact I1.fpOk hle (I1.hok.fresh hle)
    rcases hq with ⟨hq, q⟩ | ⟨hq, q⟩
    · obtain ⟨its, rv, p', hz⟩ := I1.list hq
      refine call_enumerate_list p'.isList fun h' he hit hsz hk => wpAny_pyIter_enum he ?_
      have I2 : Inv X pins σ H1 { s1 with heap := h' } := I1.kept (t' := s1.toks) hk
      exact ⟨s1.heap.objs.size + 1, [s1.heap.objs.size + 1, s1.heap.objs.size], _, _, H1, rfl, I2, turn_enum a (s1.heap.objs.size + 1) s1.heap.objs.size, ⟨⟨.none, he⟩, hit, Nat.succ_ne_self _⟩, fresh, q⟩
    · obtain ⟨its, rv, p', hz⟩ := I1.tuple hq
      refine call_enum_tup (show s1.heap.IsTuple a its.toArray from p') fun h' he hit hsz hk => wpAny_pyIter_enum he ?_
      have I2 : Inv X pins σ H1 { s1 with heap := h' } := I1.kept (t' := s1.toks) hk
      exact ⟨s1.heap.objs.size + 1, [s1.heap.objs.size + 1, s1.heap.objs.size], _, _, H1, rfl, I2, turn_enumT a (s1.heap.objs.size + 1) s1.heap.objs.size, ⟨⟨.none, he⟩, hit, Nat.succ_ne_self _⟩, fresh, q⟩
end
end L3

namespace L3
open PySem PySem.Spec L2
section
variable {K : PySem.W.Frag}
/-- l.index(x), flat items -/
def m3Index : M3
  | .ref a, [d], M, Q => ∃ ds j z, M a = some (.lst ds) ∧ flD d = true ∧ ds.all flD = true ∧ ds[j]? = some z ∧ eqF z d = true ∧ (∀ (m : Nat) z', m < j → ds[m]? = some z' → eqF z' d = false) ∧ Q (.int (j : Nat)) M
  | _, _, _, _ => False
theorem ml_index : MtL K (rIndex K) m3Index := fun d es x xs M H Q3 Q k rd re h hq => by
  match d, es, h, rd, re with
  | .ref a, [e], ⟨ds, j, z, e1, f1, f2, e2, e3, e4, q⟩, rd, re =>
    obtain ⟨v, ev, r⟩ := re.one_
    obtain ⟨vs, hv, t⟩ := k a _ e1
    obtain ⟨u, eu, ru⟩ := t.get e2
    have fz : ∀ {m : Nat} {z' : D}, ds[m]? = some z' → flD z' = true := fun {m z'} h => List.all_eq_true.mp f2 z' (List.mem_of_getElem? h)
    refine ⟨a, vs, v, j, u, rd.ref_, ev, SqL.of hv, r.flat f1, t.flat f2, eu, by rw [ru.eqF r (fz e2) f1]; exact e3, fun m u' hm hu' => ?_, hq _ M _ H k .refl rep_int q⟩
    have hm2 : m < ds.length := by
      have h1 := (List.getElem?_eq_some_iff.mp hu').1
      rw [t.len] at h1
      exact h1
    obtain ⟨w, ew, rw'⟩ := t.get (List.getElem?_eq_getElem hm2)
    rw [hu'] at ew
    cases ew
    rw [rw'.eqF r (fz (List.getElem?_eq_getElem hm2)) f1]
    exact e4 m _ hm (List.getElem?_eq_getElem hm2)
theorem m3Index_ref {M : Mm} {Q : VK3} {a : Addr} {d : D} : m3Index (.ref a) [d] M Q = ∃ ds j z, M a = some (.lst ds) ∧ flD d = true ∧ ds.all flD = true ∧ ds[j]? = some z ∧ eqF z d = true ∧ (∀ (m : Nat) z', m < j → ds[m]? = some z' → eqF z' d = false) ∧ Q (.int (j : Nat)) M := rfl
end
/-! ### zip of two tuples, of two lists -/
section
variable {X : Cx} {W : WX} {e e2 : Expr} {p pos tpos : Pos} {elts : List Expr} {kk : Nat}
def zipD (xs ys : List D) : List D := (xs.zip ys).map fun p => .tup [p.1, p.2]
theorem zip_get {xs ys : List D} {i : Nat} {d : D} (h : (zipD xs ys)[i]? = some d) : ∃ x y, xs[i]? = some x ∧ ys[i]? = some y ∧ d = .tup [x, y] := by
  unfold zipD at h
  rw [List.getElem?_map] at h
  cases z : (xs.zip ys)[i]? with
  | none => rw [z] at h; cases h
  | some p =>
    rw [z] at h
    cases h
    have := List.getElem?_zip_eq_some.mp z
    exact ⟨p.1, p.2, this.1, this.2, rfl⟩
theorem zip_lt {xs ys : List D} {i : Nat} (h : i < (zipD xs ys).length) : i < xs.length ∧ i < ys.length := by
  unfold zipD at h
  rw [List.length_map, List.length_zip] at h
  omega
theorem zip_le {xs ys : List D} {i : Nat} (h : (zipD xs ys).length ≤ i) : xs.length ≤ i ∨ ys.length ≤ i := by
  unfold zipD at h
  rw [List.length_map, List.length_zip] at h
  omega
def iZip3 (ta : TA3) : TI3 := fun σ M R X => ta σ M (fun ds M1 => ∃ d e, ds = [d, e] ∧ ∃ xs, itemsD M1 d = some xs ∧ ∃ ys, itemsD M1 e = some ys ∧ isTup d = isTup e ∧ R ⟨zipD xs ys, fun M' => itemsD M' d = some xs ∧ itemsD M' e = some ys⟩ M1) X
theorem itemsD_tup {K : PySem.W.Frag} {M : Mm} {H : Hp} {d : D} {x : V} {ds : List D} (r : Rep K H d x) (h : itemsD M d = some ds) (nt : isTup d = true) : ∃ a vs, x = .ref a ∧ SqT K H a vs ∧ RepL K H ds vs := by
  cases d with
  | tup es =>
    cases h
    exact r.tup_
  | _ => cases nt
theorem itok_zip {K : PySem.W.Frag} {M0 : Mm} {H0 : Hp} {d e : D} {a b : Addr} {xs ys : List D} (r : Rep K H0 d (.ref a)) (r2 : Rep K H0 e (.ref b)) (k0 : MOk K M0 H0) (nt : isTup d = false) (nt2 : isTup e = false) :
    ItOk K M0 H0 ⟨zipD xs ys, fun M' => itemsD M' d = some xs ∧ itemsD M' e = some ys⟩ (Itz K a b) where
  go := fun i M H k f z hi => by
    obtain ⟨h1, h2⟩ := zip_lt hi
    obtain ⟨_, vs, e1, s, t⟩ := itemsD_list k (r.keep (f.kp k0)) z.1 nt
    obtain ⟨_, us, e2, s2, t2⟩ := itemsD_list k (r2.keep (f.kp k0)) z.2 nt2
    cases e1
    cases e2
    exact ⟨vs, us, vs[i]'(by rw [t.len]; exact h1), us[i]'(by rw [t2.len]; exact h2), s, s2, List.getElem?_eq_getElem _, List.getElem?_eq_getElem _⟩
  stop := fun i M H k f z hi => by
    obtain ⟨_, vs, e1, s, t⟩ := itemsD_list k (r.keep (f.kp k0)) z.1 nt
    obtain ⟨_, us, e2, s2, t2⟩ := itemsD_list k (r2.keep (f.kp k0)) z.2 nt2
    cases e1
    cases e2
    exact ⟨vs, us, s, s2, by rw [t.len, t2.len]; exact zip_le hi⟩
  yld := fun i M H x H' d' k f z hi ⟨T, x0, y0, ex, hT, eH, hx, hy⟩ => by
    subst ex eH
    obtain ⟨u, w, h1, h2, ed⟩ := zip_get hi
    subst ed
    obtain ⟨_, vs, e1, s, t⟩ := itemsD_list k (r.keep (f.kp k0)) z.1 nt
    obtain ⟨_, us, e2, s2, t2⟩ := itemsD_list k (r2.keep (f.kp k0)) z.2 nt2
    cases e1
    cases e2
    obtain ⟨v, ev, rv⟩ := t.get h1
    obtain ⟨v2, ev2, rv2⟩ := t2.get h2
    have q1 := hx vs s
    have q2 := hy us s2
    rw [ev] at q1
    rw [ev2] at q2
    cases q1
    cases q2
    obtain ⟨k2, f2⟩ := mok_tup (xs := [x0, y0]) k hT
    exact ⟨k2, f2, rep_newtup k hT (.cons rv (.cons rv2 .nil))⟩
theorem itok_zipT {K : PySem.W.Frag} {M0 : Mm} {H0 : Hp} {d e : D} {a b : Addr} {xs ys : List D} (r : Rep K H0 d (.ref a)) (r2 : Rep K H0 e (.ref b)) (k0 : MOk K M0 H0) (nt : isTup d = true) (nt2 : isTup e = true) :
    ItOk K M0 H0 ⟨zipD xs ys, fun M' => itemsD M' d = some xs ∧ itemsD M' e = some ys⟩ (RZ.ItzT K a b) where
  go := fun i M H k f z hi => by
    obtain ⟨h1, h2⟩ := zip_lt hi
    obtain ⟨_, vs, e1, s, t⟩ := itemsD_tup (r.keep (f.kp k0)) z.1 nt
    obtain ⟨_, us, e2, s2, t2⟩ := itemsD_tup (r2.keep (f.kp k0)) z.2 nt2
    cases e1
    cases e2
    exact ⟨vs, us, vs[i]'(by rw [t.len]; exact h1), us[i]'(by rw [t2.len]; exact h2), s, s2, List.getElem?_eq_getElem _, List.getElem?_eq_getElem _⟩
  stop := fun i M H k f z hi => by
    obtain ⟨_, vs, e1, s, t⟩ := itemsD_tup (r.keep (f.kp k0)) z.1 nt
    obtain ⟨_, us, e2, s2, t2⟩ := itemsD_tup (r2.keep (f.kp k0)) z.2 nt2
    cases e1
    cases e2
    exact ⟨vs, us, s, s2, by rw [t.len, t2.len]; exact zip_le hi⟩
  yld := fun i M H x H' d' k f z hi ⟨T, x0, y0, ex, hT, eH, hx, hy⟩ => by
    subst ex eH
    obtain ⟨u, w, h1, h2, ed⟩ := zip_get hi
    subst ed
    obtain ⟨_, vs, e1, s, t⟩ := itemsD_tup (r.keep (f.kp k0)) z.1 nt
    obtain ⟨_, us, e2, s2, t2⟩ := itemsD_tup (r2.keep (f.kp k0)) z.2 nt2
    cases e1
    cases e2
    obtain ⟨v, ev, rv⟩ := t.get h1
    obtain ⟨v2, ev2, rv2⟩ := t2.get h2
    have q1 := hx vs s
    have q2 := hy us s2
    rw [ev] at q1
    rw [ev2] at q2
    cases q1
    cases q2
    obtain ⟨k2, f2⟩ := mok_tup (xs := [x0, y0]) k hT
    exact ⟨k2, f2, rep_newtup k hT (.cons rv (.cons rv2 .nil))⟩
theorem pi3_zip {ta : TA3} (hg : Gl X "zip") (hm : X.mg "zip" = none) (ha : PA3 X W [e, e2] ta)
    (hs : starEach [e, e2] X.env = (false, eval e X.env) :: starEach [e2] X.env := by rfl) (hpl : (backTo pos (starEach [e2] X.env)).any (·.1) = false := by rfl) :
    PI3 X W (.Tuple elts kk tpos) (.Call (.Name "zip" p) [e, e2] [] pos) (iZip3 ta) :=
  (RZ.pi_zipA hg hm ha hs hpl).imp fun σ H R ⟨σ3, M, R3, X3, rs, q, hq, hx⟩ => by
    refine ⟨σ3, M, _, X3, rs, q, fun ds M1 vs H1 k1 f1 r1 ⟨d, e, ed, xs, i1, ys, i2, et, z⟩ => ?_, hx⟩
    subst ed
    obtain ⟨x, y, ev, rx, ry⟩ := r1.two_
    subst ev
    cases hd : isTup d with
    | false =>
      have he : isTup e = false := et ▸ hd
      obtain ⟨a, us, ea, s, t⟩ := itemsD_list k1 rx i1 hd
      obtain ⟨b, ws, eb, s2, t2⟩ := itemsD_list k1 ry i2 he
      subst ea eb
      exact ⟨a, b, us, ws, rfl, .inl ⟨s, s2, hq _ M1 _ H1 k1 f1 (itok_zip rx ry k1 hd he) z⟩⟩
    | true =>
      have he : isTup e = true := et ▸ hd
      obtain ⟨a, us, ea, s, t⟩ := itemsD_tup rx i1 hd
      obtain ⟨b, ws, eb, s2, t2⟩ := itemsD_tup ry i2 he
      subst ea eb
      exact ⟨a, b, us, ws, rfl, .inr ⟨s, s2, hq _ M1 _ H1 k1 f1 (itok_zipT rx ry k1 hd he) z⟩⟩
theorem lc_zip {ta : TA3} {g : TG3} {tt : TT3} {te : TE3} {vs : List Nat} {σ : St3} {M : Mm} {Q : VK3} {X : XK3} : tLc3 (iZip3 ta) g tt te vs σ M Q X = ta σ M (fun ds M1 => ∃ d e, ds = [d, e] ∧ ∃ xs, itemsD M1 d = some xs ∧ ∃ ys, itemsD M1 e = some ys ∧ isTup d = isTup e ∧ LcB ⟨zipD xs ys, fun M' => itemsD M' d = some xs ∧ itemsD M' e = some ys⟩ g tt te vs σ M1 Q) X := rfl
theorem for_zip {ta : TA3} {g : TG3} {tb : TS3} {D : Ends3} {σ : St3} {M : Mm} : tFor3 (iZip3 ta) g tb D σ M = ta σ M (fun ds M1 => ∃ d e, ds = [d, e] ∧ ∃ xs, itemsD M1 d = some xs ∧ ∃ ys, itemsD M1 e = some ys ∧ isTup d = isTup e ∧ ForB ⟨zipD xs ys, fun M' => itemsD M' d = some xs ∧ itemsD M' e = some ys⟩ g tb D σ M1) (D.xx σ) := rfl
end
/-! ### two things alike, item by item -/
def SameV (M : Mm) : Nat → D → D → Prop
  | 0, _, _ => False
  | n + 1, a, b => (flD a = true ∧ okD a = true ∧ a = b) ∨ (∃ xs ys, a = .tup xs ∧ b = .tup ys ∧ xs.length = ys.length ∧ xs.length ≤ sizeLine ∧ ∀ (i : Nat) x y, xs[i]? = some x → ys[i]? = some y → SameV M n x y) ∨
    (∃ p q xs ys, a = .ref p ∧ b = .ref q ∧ M p = some (.lst xs) ∧ M q = some (.lst ys) ∧ xs.length = ys.length ∧ xs.length ≤ sizeLine ∧ ∀ (i : Nat) x y, xs[i]? = some x → ys[i]? = some y → SameV M n x y)
theorem SameV.flat {M : Mm} {n : Nat} {a : D} (h : flD a = true) (k : okD a = true) : SameV M (n + 1) a a := .inl ⟨h, k, rfl⟩
theorem SameV.int {M : Mm} {n : Nat} {i : Int} : SameV M (n + 1) (.int i) (.int i) := .flat rfl rfl
theorem SameV.pair {M : Mm} {n : Nat} {i j : Int} : SameV M (n + 2) (.tup [.int i, .int j]) (.tup [.int i, .int j]) := .inr (.inl ⟨_, _, rfl, rfl, rfl, (show 2 ≤ sizeLine by decide), fun k x y h1 h2 => by
  rw [h1] at h2
  cases h2
  match k, h1 with
  | 0, h1 => cases h1; exact .int
  | 1, h1 => cases h1; exact .int⟩)
theorem c3Isi_tl {M : Mm} {Q : VK3} {d : D} : c3Isi [d, .tup [.ty "tuple", .ty "list"]] M Q = ∃ t, tyD M d = some t ∧ Q (.bl (isiB t "tuple" || isiB t "list")) M := by
  have e : ∀ t, isiAny t [.ty "tuple", .ty "list"] = some (isiB t "tuple" || isiB t "list") := fun t => by
    simp [isiAny, clsL]
  have u : c3Isi [d, .tup [.ty "tuple", .ty "list"]] M Q = ∃ t b, tyD M d = some t ∧ isiAny t [.ty "tuple", .ty "list"] = some b ∧ Q (.bl b) M := by cases d <;> rfl
  rw [u]
  refine propext ⟨?_, ?_⟩
  · rintro ⟨t, b, h1, h2, q⟩
    rw [e] at h2
    cases h2
    exact ⟨t, h1, q⟩
  · rintro ⟨t, h1, q⟩
    exact ⟨t, _, h1, e t, q⟩
theorem bls_true : ∀ ds : List D, blsD (ds.map fun _ => D.bl true) = some (ds.map fun _ => true)
  | [] => rfl
  | _ :: ds => by rw [List.map_cons, bls_cons, bls_true ds]; rfl
theorem all_true : ∀ ds : List D, (ds.map fun _ => true).all id = true
  | [] => rfl
  | _ :: ds => by rw [List.map_cons, List.all_cons, all_true ds]; rfl
theorem datD_fl {M : Mm} {d : D} (h : flD d = true) (k : okD d = true) : datD M d = some (toP d) := by
  cases d <;> first | (cases h; done) | (simp only [datD, datP, k]; rfl)
theorem eqv_refl_fl {d : D} (h : flD d = true) : PyData.eqv (toP d) (toP d) = true := by
  cases d <;> first | (cases h; done) | simp [toP, PyData.eqv]
theorem mc_bool : (("bool" : String) ∈ clsL) = True := eq_true (by decide)
theorem mc_int : (("int" : String) ∈ clsL) = True := eq_true (by decide)
theorem mc_str : (("str" : String) ∈ clsL) = True := eq_true (by decide)
theorem mc_tuple : (("tuple" : String) ∈ clsL) = True := eq_true (by decide)
theorem mc_list : (("list" : String) ∈ clsL) = True := eq_true (by decide)
theorem mc_dict : (("dict" : String) ∈ clsL) = True := eq_true (by decide)
theorem ib_NoneType_bool : isiB "NoneType" "bool" = false := by decide
theorem ib_NoneType_int : isiB "NoneType" "int" = false := by decide
theorem ib_NoneType_str : isiB "NoneType" "str" = false := by decide
theorem ib_NoneType_tuple : isiB "NoneType" "tuple" = false := by decide
theorem ib_NoneType_list : isiB "NoneType" "list" = false := by decide
theorem ib_NoneType_dict : isiB "NoneType" "dict" = false := by decide
theorem ib_bool_bool : isiB "bool" "bool" = true := by decide
theorem ib_bool_int : isiB "bool" "int" = true := by decide
theorem ib_bool_str : isiB "bool" "str" = false := by decide
theorem ib_bool_tuple : isiB "bool" "tuple" = false := by decide
theorem ib_bool_list : isiB "bool" "list" = false := by decide
theorem ib_bool_dict : isiB "bool" "dict" = false := by decide
theorem ib_int_bool : isiB "int" "bool" = false := by decide
theorem ib_int_int : isiB "int" "int" = true := by decide
theorem ib_int_str : isiB "int" "str" = false := by decide
theorem ib_int_tuple : isiB "int" "tuple" = false := by decide
theorem ib_int_list : isiB "int" "list" = false := by decide
theorem ib_int_dict : isiB "int" "dict" = false := by decide
theorem ib_str_bool : isiB "str" "bool" = false := by decide
theorem ib_str_int : isiB "str" "int" = false := by decide
theorem ib_str_str : isiB "str" "str" = true := by decide
theorem ib_str_tuple : isiB "str" "tuple" = false := by decide
theorem ib_str_list : isiB "str" "list" = false := by decide
theorem ib_str_dict : isiB "str" "dict" = false := by decide
theorem ib_tuple_bool : isiB "tuple" "bool" = false := by decide
theorem ib_tuple_int : isiB "tuple" "int" = false := by decide
theorem ib_tuple_str : isiB "tuple" "str" = false := by decide
theorem ib_tuple_tuple : isiB "tuple" "tuple" = true := by decide
theorem ib_tuple_list : isiB "tuple" "list" = false := by decide
theorem ib_tuple_dict : isiB "tuple" "dict" = false := by decide
theorem ib_list_bool : isiB "list" "bool" = false := by decide
theorem ib_list_int : isiB "list" "int" = false := by decide
theorem ib_list_str : isiB "list" "str" = false := by decide
theorem ib_list_tuple : isiB "list" "tuple" = false := by decide
theorem ib_list_list : isiB "list" "list" = true := by decide
theorem ib_list_dict : isiB "list" "dict" = false := by decide
theorem ib_dict_bool : isiB "dict" "bool" = false := by decide
theorem ib_dict_int : isiB "dict" "int" = false := by decide
theorem ib_dict_str : isiB "dict" "str" = false := by decide
theorem ib_dict_tuple : isiB "dict" "tuple" = false := by decide
theorem ib_dict_list : isiB "dict" "list" = false := by decide
theorem ib_dict_dict : isiB "dict" "dict" = true := by decide
theorem tyD_str {M : Mm} {s : Str} : tyD M (.str s) = some "str" := rfl
theorem tyD_non {M : Mm} : tyD M .non = some "NoneType" := rfl
theorem tyD_rol {M : Mm} {ds : List D} : tyD M (.rol ds) = some "list" := rfl
theorem tyD_lst {M : Mm} {a : Addr} {ds : List D} (h : M a = some (.lst ds)) : tyD M (.ref a) = some "list" := by unfold tyD; simp only [h]
theorem tyD_dK {M : Mm} {a : Addr} {ds} (h : M a = some (.dK ds)) : tyD M (.ref a) = some "dict" := by unfold tyD; simp only [h]
theorem zip_len {xs ys : List D} (h : xs.length = ys.length) : (zipD xs ys).length = xs.length := by
  unfold zipD
  rw [List.length_map, List.length_zip]
  omega
theorem mupd_mupd {M : Mm} {a : Addr} {o o' : MO} : mupd (mupd M a o) a o' = mupd M a o' := funext fun b => by
  unfold mupd
  by_cases h : b = a
  · rw [if_pos h, if_pos h]
  · rw [if_neg h, if_neg h, if_neg h]
/-- a loop that fills one list -/
theorem forB_acc {J : It3} {g : TG3} {tb : TS3} {D : Ends3} {σ : St3} {M : Mm} {l : Addr} {acc0 : List L3.D} (P : Nat → St3 → List L3.D → Prop) (p0 : P 0 σ acc0) (ok : ∀ acc, J.ok (mupd M l (.lst acc)))
    (step : ∀ i d σ' acc (N : St3 → Mm → Prop), J.items[i]? = some d → i < J.items.length → P i σ' acc → (∀ σ2 acc2 M2, MSub (mupd M l (.lst acc2)) M2 → P (i + 1) σ2 acc2 → N σ2 M2) →
      g d σ' (mupd M l (.lst acc)) (fun σ2 M2 => tb { D with nx := N, ct := N, bk := D.nx } σ2 M2) (D.xx σ'))
    (fin : ∀ σ' acc, P J.items.length σ' acc → D.nx σ' (mupd M l (.lst acc))) : ForB J g tb D σ (mupd M l (.lst acc0)) :=
  forB_inv (fun i σ' M' => ∃ acc, M' = mupd M l (.lst acc) ∧ P i σ' acc) ⟨acc0, rfl, p0⟩ (fun i σ' M' _ ⟨acc, e, _⟩ => by rw [e]; exact ok acc)
    (fun i d σ' M' N hd hi ⟨acc, e, p⟩ n => by
      subst e
      refine step i d σ' acc N hd hi p fun σ2 acc2 M2 s p2 => n σ2 M2 ⟨σ2, mupd M l (.lst acc2), .refl _, ⟨s, fun a ha => ?_⟩, acc2, rfl, p2⟩
      by_cases z : a = l
      · rw [z, mupd_same]
        intro w
        cases w
      · rw [mupd_ne z] at ha ⊢
        exact ha) fun σ' M' ⟨acc, e, p⟩ => by
      subst e
      exact fin σ' acc p
/-- a comprehension whose elements draw -/
theorem lcb_h {J : It3} {g : TG3} {te : TE3} {σ : St3} {vs : List Nat} {M1 : Mm} {Q : VK3} {h : Addr} (hk : HandOk M1 h) (A : Nat → List D → Mm → Prop) (a0 : A 0 [] M1) (ok : ∀ M', HStep h M1 M' → J.ok M') (hl : J.items.length ≤ sizeLine)
    (step : ∀ i d acc M' (R : VK3), J.items[i]? = some d → HStep h M1 M' → A i acc M' → (∀ y M'', HStep h M1 M'' → A (i + 1) (acc ++ [y]) M'' → R y M'') → g d (wipe3 σ vs) M' (fun σ2 M2 => te σ2 M2 R F3) F3)
    (fin : ∀ acc M', HStep h M1 M' → A J.items.length acc M' → acc.length = J.items.length → ∀ l, M' l = none → Q (.ref l) (mupd M' l (.lst acc))) : LcB J g tYes3 te vs σ M1 Q := by
  refine ⟨fun i acc M' => HStep h M1 M' ∧ acc.length = i ∧ A i acc M', ⟨.refl hk, rfl, a0⟩, fun i acc M' _ z => ok M' z.1, fun i d acc M' hd ⟨s, e, a⟩ => ?_, fun acc M' ⟨s, e, a⟩ l hl' => fin acc M' s a e l hl'⟩
  refine step i d acc M' _ hd s a fun y M'' s2 a2 => ?_
  have := (List.getElem?_eq_some_iff.mp hd).1
  exact ⟨by omega, M'', .refl s2.dom, s2, by rw [List.length_append, e]; rfl, a2⟩
/-! ### enumerate of a tuple, of a list -/
section
variable {X : Cx} {W : WX} {e : Expr} {p pos tpos : Pos} {elts : List Expr} {kk : Nat}
def enumD (xs : List D) : List D := xs.zipIdx.map fun q => .tup [.int (q.2 : Nat), q.1]
theorem enum_get {xs : List D} {i : Nat} {d : D} (h : (enumD xs)[i]? = some d) : ∃ x, xs[i]? = some x ∧ d = .tup [.int (i : Nat), x] := by
  unfold enumD at h
  rw [List.getElem?_map, List.getElem?_zipIdx] at h
  cases z : xs[i]? with
  | none => rw [z] at h; cases h
  | some x =>
    rw [z] at h
    simp at h
    exact ⟨x, rfl, h.symm⟩
theorem enum_len {xs : List D} : (enumD xs).length = xs.length := by
  unfold enumD
  rw [List.length_map, List.length_zipIdx]
def iEnum3 (ta : TA3) : TI3 := fun σ M R X => ta σ M (fun ds M1 => ∃ d, ds = [d] ∧ ∃ xs, itemsD M1 d = some xs ∧ R ⟨enumD xs, fun M' => itemsD M' d = some xs⟩ M1) X
theorem itok_enum {K : PySem.W.Frag} {M0 : Mm} {H0 : Hp} {d : D} {a : Addr} {xs : List D} (r : Rep K H0 d (.ref a)) (k0 : MOk K M0 H0) (nt : isTup d = false) :
    ItOk K M0 H0 ⟨enumD xs, fun M' => itemsD M' d = some xs⟩ (Ite K a) where
  go := fun i M H k f z hi => by
    obtain ⟨_, vs, e1, s, t⟩ := itemsD_list k (r.keep (f.kp k0)) z nt
    cases e1
    have h1 : i < xs.length := by rw [← enum_len]; exact hi
    exact ⟨vs, vs[i]'(by rw [t.len]; exact h1), s, List.getElem?_eq_getElem _⟩
  stop := fun i M H k f z hi => by
    obtain ⟨_, vs, e1, s, t⟩ := itemsD_list k (r.keep (f.kp k0)) z nt
    cases e1
    exact ⟨vs, s, by rw [t.len, ← enum_len]; exact hi⟩
  yld := fun i M H x H' d' k f z hi ⟨T, x0, ex, hT, eH, hx⟩ => by
    subst ex eH
    obtain ⟨u, h1, ed⟩ := enum_get hi
    subst ed
    obtain ⟨_, vs, e1, s, t⟩ := itemsD_list k (r.keep (f.kp k0)) z nt
    cases e1
    obtain ⟨v, ev, rv⟩ := t.get h1
    have q1 := hx vs s
    rw [ev] at q1
    cases q1
    obtain ⟨k2, f2⟩ := mok_tup (xs := [.int (i : Nat), x0]) k hT
    exact ⟨k2, f2, rep_newtup k hT (.cons rep_int (.cons rv .nil))⟩
theorem itok_enumT {K : PySem.W.Frag} {M0 : Mm} {H0 : Hp} {d : D} {a : Addr} {xs : List D} (r : Rep K H0 d (.ref a)) (k0 : MOk K M0 H0) (nt : isTup d = true) :
    ItOk K M0 H0 ⟨enumD xs, fun M' => itemsD M' d = some xs⟩ (IteT K a) where
  go := fun i M H k f z hi => by
    obtain ⟨_, vs, e1, s, t⟩ := itemsD_tup (r.keep (f.kp k0)) z nt
    cases e1
    have h1 : i < xs.length := by rw [← enum_len]; exact hi
    exact ⟨vs, vs[i]'(by rw [t.len]; exact h1), s, List.getElem?_eq_getElem _⟩
  stop := fun i M H k f z hi => by
    obtain ⟨_, vs, e1, s, t⟩ := itemsD_tup (r.keep (f.kp k0)) z nt
    cases e1
    exact ⟨vs, s, by rw [t.len, ← enum_len]; exact hi⟩
  yld := fun i M H x H' d' k f z hi ⟨T, x0, ex, hT, eH, hx⟩ => by
    subst ex eH
    obtain ⟨u, h1, ed⟩ := enum_get hi
    subst ed
    obtain ⟨_, vs, e1, s, t⟩ := itemsD_tup (r.keep (f.kp k0)) z nt
    cases e1
    obtain ⟨v, ev, rv⟩ := t.get h1
    have q1 := hx vs s
    rw [ev] at q1
    cases q1
    obtain ⟨k2, f2⟩ := mok_tup (xs := [.int (i : Nat), x0]) k hT
    exact ⟨k2, f2, rep_newtup k hT (.cons rep_int (.cons rv .nil))⟩
theorem pi3_enum {ta : TA3} (hg : Gl X "enumerate") (hm : X.mg "enumerate" = none) (ha : PA3 X W [e] ta) (hs : starEach [e] X.env = [(false, eval e X.env)] := by rfl) :
    PI3 X W (.Tuple elts kk tpos) (.Call (.Name "enumerate" p) [e] [] pos) (iEnum3 ta) :=
  (pi_enumA hg hm ha hs).imp fun σ H R ⟨σ3, M, R3, X3, rs, q, hq, hx⟩ => by
    refine ⟨σ3, M, _, X3, rs, q, fun ds M1 vs H1 k1 f1 r1 ⟨d, ed, xs, i1, z⟩ => ?_, hx⟩
    subst ed
    obtain ⟨x, ev, rx⟩ := r1.one_
    subst ev
    cases hd : isTup d with
    | false =>
      obtain ⟨a, us, ea, s, t⟩ := itemsD_list k1 rx i1 hd
      subst ea
      exact ⟨a, us, rfl, .inl ⟨s, hq _ M1 _ H1 k1 f1 (itok_enum rx k1 hd) z⟩⟩
    | true =>
      obtain ⟨a, us, ea, s, t⟩ := itemsD_tup rx i1 hd
      subst ea
      exact ⟨a, us, rfl, .inr ⟨s, hq _ M1 _ H1 k1 f1 (itok_enumT rx k1 hd) z⟩⟩
theorem lc_enum {ta : TA3} {g : TG3} {tt : TT3} {te : TE3} {vs : List Nat} {σ : St3} {M : Mm} {Q : VK3} {X : XK3} : tLc3 (iEnum3 ta) g tt te vs σ M Q X = ta σ M (fun ds M1 => ∃ d, ds = [d] ∧ ∃ xs, itemsD M1 d = some xs ∧ LcB ⟨enumD xs, fun M' => itemsD M' d = some xs⟩ g tt te vs σ M1 Q) X := rfl
theorem for_enum {ta : TA3} {g : TG3} {tb : TS3} {D : Ends3} {σ : St3} {M : Mm} : tFor3 (iEnum3 ta) g tb D σ M = ta σ M (fun ds M1 => ∃ d, ds = [d] ∧ ∃ xs, itemsD M1 d = some xs ∧ ForB ⟨enumD xs, fun M' => itemsD M' d = some xs⟩ g tb D σ M1) (D.xx σ) := rfl
end
/-! ### name op= e -/
section
variable {X : Cx} {W : WX} {e : Expr} {pos : Pos}
def tAug3 (i : Nat) (te : TE3) (r : R3) : TS3 := fun D σ M => ∃ d, σ[i]? = some (some d) ∧ te σ M (fun e M1 => r d e M1 fun z M2 => D.nx (σ.set i (some z)) M2) (D.xx σ)
theorem ps3_aug {i : Nat} {x : Str} {te : TE3} {op : Operator} {ti : TIp} {r : R3} {pos' : Pos} (hN : X.N.Nodup) (hi : X.N[i]? = some x) (hx : Loc X.env.scope x) (he : PE3 X W e te) (ho : PIp X op ti) (hl : OpL X.K ti r)
    (hf : X.fn x = true ∨ X.env.scope.names.lookup x = some .local := by first | exact .inl rfl | exact .inr rfl | assumption) : PS3 X W (.AugAssign (.Name x pos') op e pos) (tAug3 i te r) :=
  (ps_aug hN hi hx he ho hf).imp fun D σ H ⟨σ3, M, D3, rs, ⟨d, ed, q⟩, el⟩ => by
    obtain ⟨v, ev, rv⟩ := rs.get i d ed
    refine ⟨v, ev, σ3, M, _, D3.xx σ3, rs, q, fun e M1 y H1 k1 f1 r1 h1 => ?_, el.qx rs⟩
    refine hl d e v y M1 H1 _ _ k1 (rv.keep (f1.kp rs.mok)) r1 h1 fun z M2 w H2 k2 f2 r2 h2 => ?_
    exact el.nx _ M2 _ H2 ((rs.step k2 (f1.trans f2)).set_ r2 i) (f1.trans f2) h2
abbrev r3AddI : R3 := r3I0 fun i j => .int (i + j)
theorem ipl_add {K : PySem.W.Frag} : OpL K (ipI fun i j => i + j) r3AddI := fun d e x y M H Q3 Q k rd re h hq => by
  obtain ⟨i, j, rfl, rfl, q⟩ := r3I0_inv h
  exact ⟨i, j, rd.int_, re.int_, hq _ M _ H k .refl rep_int q⟩
theorem ipl_sub {K : PySem.W.Frag} : OpL K (ipI fun i j => i - j) r3Sub := fun d e x y M H Q3 Q k rd re h hq => by
  obtain ⟨i, j, rfl, rfl, q⟩ := r3I0_inv h
  exact ⟨i, j, rd.int_, re.int_, hq _ M _ H k .refl rep_int q⟩
end
theorem q_tAug3 (i : Nat) (te : TE3) (r : R3) (D : Ends3) (σ : St3) (M : Mm) : tAug3 i te r D σ M = ∃ d, σ[i]? = some (some d) ∧ te σ M (fun e M1 => r d e M1 fun z M2 => D.nx (σ.set i (some z)) M2) (D.xx σ) := rfl
theorem mupd_self {M : Mm} {l : Addr} {o : MO} (h : M l = some o) : mupd M l o = M := funext fun b => by
  unfold mupd
  by_cases z : b = l
  · rw [if_pos z, z, h]
  · rw [if_neg z]
/-- a while loop over one list -/
theorem while_acc {c : TT3} {tb : TS3} {D : Ends3} {σ : St3} {M : Mm} {l : Addr} {acc0 : List L3.D} (P : St3 → List L3.D → Prop) (μ : St3 → List L3.D → Nat) (p0 : P σ acc0)
    (step : ∀ σ' acc (N : St3 → Mm → Prop), P σ' acc → (∀ σ2 acc2 M2, MSub (mupd M l (.lst acc2)) M2 → P σ2 acc2 → μ σ2 acc2 < μ σ' acc → N σ2 M2) →
      c σ' (mupd M l (.lst acc)) (fun b M2 => if b = true then tb { D with nx := N, ct := N, bk := D.nx } σ' M2 else D.nx σ' M2) (D.xx σ')) : tWhile3 c tb D σ (mupd M l (.lst acc0)) :=
  ⟨fun σ' M' => ∃ acc, M' = mupd M l (.lst acc) ∧ P σ' acc, fun σ' M' => match M' l with
    | some (.lst acc) => μ σ' acc
    | _ => 0, ⟨acc0, rfl, p0⟩, fun σ' M' ⟨acc, e, p⟩ => by
    subst e
    refine step σ' acc _ p fun σ2 acc2 M2 s p2 lt => ⟨σ2, mupd M l (.lst acc2), .refl _, ⟨s, fun a ha => ?_⟩, ⟨acc2, rfl, p2⟩, ?_⟩
    · by_cases z : a = l
      · rw [z, mupd_same]
        intro w
        cases w
      · rw [mupd_ne z] at ha ⊢
        exact ha
    · simp only [mupd_same]
      exact lt⟩
theorem c3Tuple_it {d : D} {M : Mm} {Q : VK3} : c3Tuple [d] M Q = ∃ ds, itemsD M d = some ds ∧ Q (.tup ds) M := rfl
theorem c3Min2_int {i j : Int} {M : Mm} {Q : VK3} : c3Min2 [.int i, .int j] M Q = Q (.int (if j < i then j else i)) M := rfl
theorem c3Max2_int {i j : Int} {M : Mm} {Q : VK3} : c3Max2 [.int i, .int j] M Q = Q (.int (if j > i then j else i)) M := rfl
theorem m3Pop_ref {a : Addr} {M : Mm} {Q : VK3} : m3Pop (.ref a) [] M Q = ∃ ds d, M a = some (.lst ds) ∧ ds[ds.length - 1]? = some d ∧ Q d (mupd M a (.lst ds.dropLast)) := rfl
end L3

namespace L3
open PySem PySem.Spec L2
/-! ### numbers of a ground: fractions and rests -/
inductive Nu where
  | q (r : Rat)
  | m (a : Int)
  deriving DecidableEq
def nuD : Nu → D
  | .q r => .tup [.int r.num, .int (r.den : Nat)]
  | .m a => .tup [.int a, .int 1]
/-- x is a number of the ground p -/
def NuOk (p : Int) : Nu → Prop
  | .q _ => p = 0
  | .m a => 0 < p ∧ 0 ≤ a ∧ a < p
def Sz (n : Nat) : Nu → Prop
  | .q r => r.num.natAbs < 2 ^ n ∧ r.den < 2 ^ n
  | .m _ => True
def powL (p b : Int) : Nat → Int
  | 0 => 1
  | n + 1 => powL p b n * b % p
def invL (p b : Int) : Int := powL p b (p - 2).toNat
def addN (p : Int) : Nu → Nu → Nu
  | .q a, .q b => .q (a + b)
  | .m a, .m b => .m ((a + b) % p)
  | x, _ => x
def subN (p : Int) : Nu → Nu → Nu
  | .q a, .q b => .q (a - b)
  | .m a, .m b => .m ((a - b) % p)
  | x, _ => x
def mulN (p : Int) : Nu → Nu → Nu
  | .q a, .q b => .q (a * b)
  | .m a, .m b => .m (a * b % p)
  | x, _ => x
def invN (p : Int) : Nu → Nu
  | .q a => .q a⁻¹
  | .m a => .m (invL p a)
def overN (p : Int) (x y : Nu) : Nu := mulN p x (invN p y)
def zeroN (p : Int) : Nu := if p = 0 then .q 0 else .m 0
def isZ : Nu → Bool
  | .q a => decide (a = 0)
  | .m a => decide (a = 0)
theorem gcd_pos {t b : Int} (hb : b ≠ 0) : 0 < Nat.gcd t.natAbs b.natAbs := Nat.gcd_pos_of_pos_right _ (by omega)
theorem q_made {t b : Int} (hb : 0 < b) : D.tup [.int (t.fdiv (Nat.gcd t.natAbs b.natAbs : Nat)), .int (b.fdiv (Nat.gcd t.natAbs b.natAbs : Nat))] = nuD (.q (Rat.divInt t b)) := by
  have e : Rat.divInt t b = mkRat t b.natAbs := by
    have : b = ((b.natAbs : Nat) : Int) := by omega
    conv => lhs; rw [this]
    rfl
  have hn : b.natAbs ≠ 0 := by omega
  rw [e]
  simp only [nuD, Rat.num_mkRat, Rat.den_mkRat, if_neg hn]
  rw [Int.fdiv_eq_ediv_of_nonneg _ (by omega), Int.fdiv_eq_ediv_of_nonneg _ (by omega), Nat.gcd_comm]
  congr 3
  rw [show b = ((b.natAbs : Nat) : Int) by omega]
  simp
theorem q_lowest {t b : Int} (hb : b < 0) : D.tup [.int (t.fdiv (-(Nat.gcd t.natAbs b.natAbs : Nat))), .int (b.fdiv (-(Nat.gcd t.natAbs b.natAbs : Nat)))] = nuD (.q (Rat.divInt t b)) := by
  have h := q_made (t := -t) (b := -b) (by omega)
  rw [Int.natAbs_neg, Int.natAbs_neg] at h
  have e : Rat.divInt (-t) (-b) = Rat.divInt t b := by
    rw [Rat.neg_divInt_neg]
  rw [e] at h
  rw [← h]
  have f : ∀ x g : Int, x.fdiv (-g) = (-x).fdiv g := fun x g => by
    have := Int.neg_fdiv_neg (-x) g
    rw [Int.neg_neg] at this
    exact this
  rw [f, f]
theorem q_self (r : Rat) : Rat.divInt r.num (r.den : Nat) = r := Rat.num_divInt_den r
theorem q_add (a b : Rat) : Rat.divInt (a.num * (b.den : Nat) + b.num * (a.den : Nat)) ((a.den : Nat) * (b.den : Nat) : Int) = a + b := by
  rw [← Rat.divInt_add_divInt _ _ (by have := a.den_nz; omega) (by have := b.den_nz; omega), q_self, q_self]
theorem q_sub (a b : Rat) : Rat.divInt (a.num * (b.den : Nat) - b.num * (a.den : Nat)) ((a.den : Nat) * (b.den : Nat) : Int) = a - b := by
  rw [← Rat.divInt_sub_divInt _ _ (by have := a.den_nz; omega) (by have := b.den_nz; omega), q_self, q_self]
theorem q_mul (a b : Rat) : Rat.divInt (a.num * b.num) ((a.den : Nat) * (b.den : Nat) : Int) = a * b := by
  rw [← Rat.divInt_mul_divInt, q_self, q_self]
theorem q_inv (b : Rat) : Rat.divInt (b.den : Nat) b.num = b⁻¹ := by
  rw [← Rat.inv_divInt, q_self]
theorem q_over (a b : Rat) : Rat.divInt (a.num * (b.den : Nat)) ((a.den : Nat) * b.num) = a / b := by
  rw [← Rat.divInt_mul_divInt, q_self, q_inv, Rat.div_def]
theorem den_pos (a : Rat) : (0 : Int) < (a.den : Nat) := by have := a.den_nz; omega
theorem nuD_inj {x y : Nu} {p : Int} (hx : NuOk p x) (hy : NuOk p y) (h : nuD x = nuD y) : x = y := by
  cases x with
  | q a =>
    cases y with
    | q b =>
      simp only [nuD, D.tup.injEq, List.cons.injEq, D.int.injEq, and_true] at h
      rw [Rat.ext h.1 (by omega)]
    | m b => exact absurd hx (by have := hy.1; simp only [NuOk]; omega)
  | m a =>
    cases y with
    | q b => exact absurd hy (by have := hx.1; simp only [NuOk]; omega)
    | m b =>
      simp only [nuD, D.tup.injEq, List.cons.injEq, D.int.injEq, and_true] at h
      rw [h]
theorem isNum_nu {p : Int} {x : Nu} (h : NuOk p x) : isNumB p (nuD x) = true := by
  cases x with
  | q a =>
    have e : p = 0 := h
    subst e
    have := den_pos a
    have c := a.reduced
    simp only [nuD, isNumB]
    rw [if_neg (by decide), decide_eq_true this]
    simp only [Bool.true_and, decide_eq_true_eq, Int.natAbs_natCast]
    exact c
  | m a =>
    obtain ⟨h0, h1, h2⟩ := h
    simp only [nuD, isNumB]
    rw [if_pos h0]
    simp only [Bool.and_eq_true, decide_eq_true_eq, and_true]
    omega
theorem nu_of {p : Int} {d : D} (hp : 0 ≤ p) (h : isNumB p d = true) : ∃ x, d = nuD x ∧ NuOk p x := by
  match d, h with
  | .tup [.int a, .int b], h =>
    simp only [isNumB] at h
    by_cases z : 0 < p
    · rw [if_pos z] at h
      simp only [Bool.and_eq_true, decide_eq_true_eq] at h
      exact ⟨.m a, by rw [h.2]; rfl, z, h.1.1, by omega⟩
    · rw [if_neg z] at h
      simp only [Bool.and_eq_true, decide_eq_true_eq] at h
      refine ⟨.q ⟨a, b.natAbs, by omega, h.2⟩, ?_, by simp only [NuOk]; omega⟩
      simp only [nuD]
      rw [show ((b.natAbs : Nat) : Int) = b by omega]
theorem NuOk.mod {p : Int} (hp : 0 < p) (i : Int) : NuOk p (.m (i % p)) := ⟨hp, Int.emod_nonneg _ (by omega), Int.emod_lt_of_pos _ hp⟩
theorem ok_add {p : Int} {x y : Nu} (hx : NuOk p x) (hy : NuOk p y) : NuOk p (addN p x y) := by
  cases x <;> cases y <;> first | exact hx | exact NuOk.mod hx.1 _
theorem ok_sub {p : Int} {x y : Nu} (hx : NuOk p x) (hy : NuOk p y) : NuOk p (subN p x y) := by
  cases x <;> cases y <;> first | exact hx | exact NuOk.mod hx.1 _
theorem ok_mul {p : Int} {x y : Nu} (hx : NuOk p x) (hy : NuOk p y) : NuOk p (mulN p x y) := by
  cases x <;> cases y <;> first | exact hx | exact NuOk.mod hx.1 _
theorem inv_table : ∀ p ∈ primesL, ∀ b ∈ List.range p.toNat, b = 0 ∨ (((b : Nat) : Int) * invL p b % p = 1 ∧ 0 ≤ invL p b ∧ invL p b < p) := by decide +kernel
theorem inv_ok {p b : Int} (hp : p ∈ primesL) (h0 : 0 < b) (h1 : b < p) : b * invL p b % p = 1 ∧ 0 ≤ invL p b ∧ invL p b < p := by
  have := inv_table p hp b.toNat (List.mem_range.mpr (by omega))
  rw [show ((b.toNat : Nat) : Int) = b by omega] at this
  rcases this with z | z
  · omega
  · exact z
/-- p is a ground -/
def Gd (p : Int) : Prop := p = 0 ∨ p ∈ primesL
theorem Gd.lt {p : Int} (h : Gd p) : 0 ≤ p ∧ p < 100 := by
  have hb : ∀ p ∈ primesL, 0 ≤ p ∧ p < 100 := by decide
  rcases h with rfl | h
  · exact ⟨by decide, by decide⟩
  · exact hb p h
theorem Gd.gr {p : Int} (h : Gd p) : isGr (.int p) = true := by
  rcases h with rfl | h
  · rfl
  · simp [isGr, h]
theorem gd_of {p : Int} (h : isGr (.int p) = true) : Gd p := by
  simpa [isGr, Gd] using h
theorem ok_inv {p : Int} {y : Nu} (hp : Gd p) (hy : NuOk p y) (hz : isZ y = false) : NuOk p (invN p y) := by
  cases y with
  | q a => exact hy
  | m b =>
    have hb : b ≠ 0 := of_decide_eq_false hz
    rcases hp with rfl | hp
    · exact absurd hy.1 (by decide)
    · have := inv_ok hp (by have := hy.2.1; omega) hy.2.2
      exact ⟨hy.1, this.2⟩
theorem ok_over {p : Int} {x y : Nu} (hp : Gd p) (hx : NuOk p x) (hy : NuOk p y) (hz : isZ y = false) : NuOk p (overN p x y) := ok_mul hx (ok_inv hp hy hz)

/-! sizes -/
theorem divInt_sz {t b : Int} (hb : b ≠ 0) : (Rat.divInt t b).num.natAbs ≤ t.natAbs ∧ (Rat.divInt t b).den ≤ b.natAbs := by
  have key : ∀ t b : Int, 0 < b → (Rat.divInt t b).num.natAbs ≤ t.natAbs ∧ (Rat.divInt t b).den ≤ b.natAbs := fun t b hb => by
    have h := q_made (t := t) hb
    have g := gcd_pos (t := t) (b := b) (by omega)
    simp only [nuD, D.tup.injEq, List.cons.injEq, D.int.injEq, and_true] at h
    rw [Int.fdiv_eq_ediv_of_nonneg _ (by omega), Int.fdiv_eq_ediv_of_nonneg _ (by omega)] at h
    obtain ⟨h1, h2⟩ := h
    constructor
    · rw [← h1]
      exact Int.natAbs_ediv_le_natAbs t _
    · have : ((Rat.divInt t b).den : Int) ≤ b := by
        rw [← h2]
        exact Int.ediv_le_self _ (by omega)
      omega
  rcases Int.lt_or_gt_of_ne hb with z | z
  · have := key (-t) (-b) (by omega)
    rw [Rat.neg_divInt_neg, Int.natAbs_neg, Int.natAbs_neg] at this
    exact this
  · exact key t b z
theorem mul_lt2 {a b n m : Nat} (ha : a < 2 ^ n) (hb : b < 2 ^ m) : a * b < 2 ^ (n + m) := by
  rw [Nat.pow_add]
  exact Nat.mul_lt_mul'' ha hb
theorem add_lt2 {a b n m k : Nat} (ha : a < 2 ^ n) (hb : b < 2 ^ m) (h1 : n < k) (h2 : m < k) : a + b < 2 ^ k := by
  have e1 : 2 ^ n ≤ 2 ^ (k - 1) := Nat.pow_le_pow_right (by decide) (by omega)
  have e2 : 2 ^ m ≤ 2 ^ (k - 1) := Nat.pow_le_pow_right (by decide) (by omega)
  have e3 : 2 ^ k = 2 ^ (k - 1) + 2 ^ (k - 1) := by
    have : k = (k - 1) + 1 := by omega
    conv => lhs; rw [this, Nat.pow_succ]
    omega
  omega
theorem Sz.mono {n m : Nat} {x : Nu} (h : Sz n x) (hm : n ≤ m) : Sz m x := by
  cases x with
  | q a => exact ⟨Nat.lt_of_lt_of_le h.1 (Nat.pow_le_pow_right (by decide) hm), Nat.lt_of_lt_of_le h.2 (Nat.pow_le_pow_right (by decide) hm)⟩
  | m a => trivial
theorem sz_div {t b : Int} {n m : Nat} (hb : b ≠ 0) (h1 : t.natAbs < 2 ^ n) (h2 : b.natAbs < 2 ^ m) (h3 : n ≤ k) (h4 : m ≤ k) : Sz k (.q (Rat.divInt t b)) := by
  have := divInt_sz (t := t) hb
  exact ⟨Nat.lt_of_lt_of_le (Nat.lt_of_le_of_lt this.1 h1) (Nat.pow_le_pow_right (by decide) h3), Nat.lt_of_lt_of_le (Nat.lt_of_le_of_lt this.2 h2) (Nat.pow_le_pow_right (by decide) h4)⟩
theorem sz_add {p : Int} {n m : Nat} {x y : Nu} (hx : Sz n x) (hy : Sz m y) : Sz (n + m + 1) (addN p x y) := by
  cases x with
  | m a => cases y <;> trivial
  | q a =>
    cases y with
    | m b => exact hx.mono (by omega)
    | q b =>
      have e := q_add a b
      simp only [addN]
      rw [← e]
      refine sz_div (n := n + m + 1) (m := n + m) ?_ ?_ ?_ (Nat.le_refl _) (by omega)
      · have := Int.mul_pos (den_pos a) (den_pos b); omega
      · have h1 := mul_lt2 hx.1 hy.2
        have h2 := mul_lt2 hy.1 hx.2
        refine Nat.lt_of_le_of_lt (Int.natAbs_add_le _ _) ?_
        rw [Int.natAbs_mul, Int.natAbs_mul, Int.natAbs_natCast, Int.natAbs_natCast]
        exact add_lt2 h1 h2 (by omega) (by omega)
      · rw [Int.natAbs_mul, Int.natAbs_natCast, Int.natAbs_natCast]
        exact mul_lt2 hx.2 hy.2
theorem sz_sub {p : Int} {n m : Nat} {x y : Nu} (hx : Sz n x) (hy : Sz m y) : Sz (n + m + 1) (subN p x y) := by
  cases x with
  | m a => cases y <;> trivial
  | q a =>
    cases y with
    | m b => exact hx.mono (by omega)
    | q b =>
      have e := q_sub a b
      simp only [subN]
      rw [← e]
      refine sz_div (n := n + m + 1) (m := n + m) ?_ ?_ ?_ (Nat.le_refl _) (by omega)
      · have := Int.mul_pos (den_pos a) (den_pos b); omega
      · have h1 := mul_lt2 hx.1 hy.2
        have h2 := mul_lt2 hy.1 hx.2
        refine Nat.lt_of_le_of_lt (Int.natAbs_sub_le _ _) ?_
        rw [Int.natAbs_mul, Int.natAbs_mul, Int.natAbs_natCast, Int.natAbs_natCast]
        exact add_lt2 h1 h2 (by omega) (by omega)
      · rw [Int.natAbs_mul, Int.natAbs_natCast, Int.natAbs_natCast]
        exact mul_lt2 hx.2 hy.2
theorem sz_mul {p : Int} {n m : Nat} {x y : Nu} (hx : Sz n x) (hy : Sz m y) : Sz (n + m) (mulN p x y) := by
  cases x with
  | m a => cases y <;> trivial
  | q a =>
    cases y with
    | m b => exact hx.mono (by omega)
    | q b =>
      have e := q_mul a b
      simp only [mulN]
      rw [← e]
      refine sz_div (n := n + m) (m := n + m) ?_ ?_ ?_ (Nat.le_refl _) (Nat.le_refl _)
      · have := Int.mul_pos (den_pos a) (den_pos b); omega
      · rw [Int.natAbs_mul]
        exact mul_lt2 hx.1 hy.1
      · rw [Int.natAbs_mul, Int.natAbs_natCast, Int.natAbs_natCast]
        exact mul_lt2 hx.2 hy.2
theorem sz_inv {p : Int} {n : Nat} {x : Nu} (hx : Sz n x) (hz : isZ x = false) : Sz n (invN p x) := by
  cases x with
  | m a => trivial
  | q a =>
    have hz' : a ≠ 0 := of_decide_eq_false hz
    simp only [invN]
    rw [← q_inv a]
    refine sz_div (n := n) (m := n) (fun e => hz' (Rat.num_eq_zero.mp e)) ?_ hx.1 (Nat.le_refl _) (Nat.le_refl _)
    rw [Int.natAbs_natCast]
    exact hx.2
theorem sz_over {p : Int} {n m : Nat} {x y : Nu} (hx : Sz n x) (hy : Sz m y) (hz : isZ y = false) : Sz (n + m) (overN p x y) := sz_mul hx (sz_inv hy hz)
theorem mulOk_sz {i j : Int} {n m : Nat} (hi : i.natAbs < 2 ^ n) (hj : j.natAbs < 2 ^ m) (h : n + m ≤ 100000) : MulOk i j := by
  refine .inr ?_
  have b : ∀ (x : Int) (n : Nat), x.natAbs < 2 ^ n → Builtin.Int.intBits x ≤ n + 1 := fun x n hx => by
    have h1 : Builtin.Int.intBits x ≤ x.natAbs.log2 + 1 := by
      unfold Builtin.Int.intBits
      split <;> omega
    have h2 : x.natAbs.log2 ≤ n := by
      by_cases z : n = 0
      · subst z
        have : x.natAbs = 0 := by
          have : x.natAbs < 1 := hx
          omega
        rw [this]
        decide
      · exact Nat.le_of_lt (PySem.Flt.log2_lt_of (by omega : 0 < n) hx)
    omega
  have h1 := b i n hi
  have h2 := b j m hj
  unfold CMulX
  omega

/-- what the program's made gives -/
def mkN (p t b : Int) : Nu := if 0 < p then .m (t % p) else .q (Rat.divInt t b)
theorem mkN_add {p : Int} {x y : Nu} (hx : NuOk p x) (hy : NuOk p y) : ∃ a b c d : Int, nuD x = .tup [.int a, .int b] ∧ nuD y = .tup [.int c, .int d] ∧ mkN p (a * d + c * b) (b * d) = addN p x y ∧ mkN p (a * d - c * b) (b * d) = subN p x y ∧ mkN p (a * c) (b * d) = mulN p x y ∧ 0 < b * d ∧
    (∀ n m, Sz n x → Sz m y → 7 ≤ n → 7 ≤ m → a.natAbs < 2 ^ n ∧ b.natAbs < 2 ^ n ∧ c.natAbs < 2 ^ m ∧ d.natAbs < 2 ^ m ∨ 0 < p ∧ a.natAbs < p.natAbs ∧ b = 1 ∧ c.natAbs < p.natAbs ∧ d = 1) := by
  cases x with
  | q u =>
    have e : p = 0 := hx
    cases y with
    | q v =>
      refine ⟨_, _, _, _, rfl, rfl, ?_, ?_, ?_, Int.mul_pos (den_pos u) (den_pos v), fun n m h1 h2 _ _ => .inl ⟨h1.1, by rw [Int.natAbs_natCast]; exact h1.2, h2.1, by rw [Int.natAbs_natCast]; exact h2.2⟩⟩
      · simp only [mkN, if_neg (show ¬ 0 < p by omega), addN]
        rw [q_add]
      · simp only [mkN, if_neg (show ¬ 0 < p by omega), subN]
        rw [q_sub]
      · simp only [mkN, if_neg (show ¬ 0 < p by omega), mulN]
        rw [q_mul]
    | m v => exact absurd hy.1 (by omega)
  | m u =>
    cases y with
    | q v => exact absurd hx.1 (by have : p = 0 := hy; omega)
    | m v =>
      obtain ⟨h0, h1, h2⟩ := hx
      obtain ⟨_, h3, h4⟩ := hy
      refine ⟨_, _, _, _, rfl, rfl, ?_, ?_, ?_, by decide, fun n m _ _ _ _ => .inr ⟨h0, by omega, rfl, by omega, rfl⟩⟩
      · simp only [mkN, if_pos h0, addN, Int.mul_one]
      · simp only [mkN, if_pos h0, subN, Int.mul_one]
      · simp only [mkN, if_pos h0, mulN]
theorem nu_inv {r : Rat} (h : r ≠ 0) : nuD (.q r⁻¹) = if 0 < r.num then .tup [.int (r.den : Nat), .int r.num] else .tup [.int (-((r.den : Nat) : Int)), .int (-r.num)] := by
  have hn : r.num ≠ 0 := fun e => h (Rat.num_eq_zero.mp e)
  have g : Nat.gcd (((r.den : Nat) : Int)).natAbs r.num.natAbs = 1 := by
    rw [Int.natAbs_natCast, Nat.gcd_comm]
    exact r.reduced
  rw [← q_inv]
  by_cases z : 0 < r.num
  · rw [if_pos z, ← q_made z, g]
    simp
  · rw [if_neg z, ← q_lowest (by omega), g]
    have f : ∀ x : Int, x.fdiv (-((1 : Nat) : Int)) = -x := fun x => by
      have := Int.neg_fdiv_neg (-x) 1
      rw [Int.neg_neg] at this
      rw [show (-((1 : Nat) : Int)) = -1 from rfl, this]
      simp
    rw [f, f]
theorem eqv_pair (a b c d : Int) : PyData.eqv (.tuple [.int a, .int b]) (.tuple [.int c, .int d]) = (decide (a = c) && decide (b = d)) := by
  have h1 := eqv_int a c
  have h2 := eqv_int b d
  simp only [PyData.eqv] at h1 h2
  simp only [PyData.eqv, PyData.eqvAll, Bool.and_true, h1, h2]
theorem datD_pair {M : Mm} (a b : Int) : datD M (.tup [.int a, .int b]) = some (.tuple [.int a, .int b]) := by
  simp only [datD, datP, okD, okDs, dpD, dpDs, toP, toPs]
  rfl
theorem eq_pair {a b c d : Int} {M : Mm} {Q : VK3} : r3Eq (.tup [.int a, .int b]) (.tup [.int c, .int d]) M Q = Q (.bl (decide (a = c) && decide (b = d))) M := by
  unfold r3Eq
  rw [datD_pair, datD_pair, ← eqv_pair]
  exact propext ⟨fun ⟨p, q, e1, e2, z⟩ => by cases e1; cases e2; exact z, fun z => ⟨_, _, rfl, rfl, z⟩⟩
theorem ne_pair {a b c d : Int} {M : Mm} {Q : VK3} : r3Ne (.tup [.int a, .int b]) (.tup [.int c, .int d]) M Q = Q (.bl (!(decide (a = c) && decide (b = d)))) M := by
  unfold r3Ne
  rw [datD_pair, datD_pair, ← eqv_pair]
  exact propext ⟨fun ⟨p, q, e1, e2, z⟩ => by cases e1; cases e2; exact z, fun z => ⟨_, _, rfl, rfl, z⟩⟩
theorem nu_pair (x : Nu) : ∃ a b : Int, nuD x = .tup [.int a, .int b] := by cases x <;> exact ⟨_, _, rfl⟩
theorem eq_nu {p : Int} {x y : Nu} {M : Mm} {Q : VK3} (hx : NuOk p x) (hy : NuOk p y) : r3Eq (nuD x) (nuD y) M Q = Q (.bl (decide (x = y))) M := by
  obtain ⟨a, b, e1⟩ := nu_pair x
  obtain ⟨c, d, e2⟩ := nu_pair y
  rw [e1, e2, eq_pair]
  have : (decide (a = c) && decide (b = d)) = decide (x = y) := by
    by_cases z : x = y
    · subst z
      rw [e1] at e2
      simp only [D.tup.injEq, List.cons.injEq, D.int.injEq, and_true] at e2
      simp [e2.1, e2.2]
    · rw [decide_eq_false z, Bool.and_eq_false_iff]
      by_cases w : a = c
      · refine .inr (decide_eq_false fun w2 => z (nuD_inj hx hy ?_))
        rw [e1, e2, w, w2]
      · exact .inl (decide_eq_false w)
  rw [this]
theorem ne_nu {p : Int} {x y : Nu} {M : Mm} {Q : VK3} (hx : NuOk p x) (hy : NuOk p y) : r3Ne (nuD x) (nuD y) M Q = Q (.bl (!decide (x = y))) M := by
  obtain ⟨a, b, e1⟩ := nu_pair x
  obtain ⟨c, d, e2⟩ := nu_pair y
  rw [e1, e2, ne_pair]
  have : (decide (a = c) && decide (b = d)) = decide (x = y) := by
    by_cases z : x = y
    · subst z
      rw [e1] at e2
      simp only [D.tup.injEq, List.cons.injEq, D.int.injEq, and_true] at e2
      simp [e2.1, e2.2]
    · rw [decide_eq_false z, Bool.and_eq_false_iff]
      by_cases w : a = c
      · refine .inr (decide_eq_false fun w2 => z (nuD_inj hx hy ?_))
        rw [e1, e2, w, w2]
      · exact .inl (decide_eq_false w)
  rw [this]
theorem isZ_pair {p : Int} {y : Nu} {a b : Int} (hy : NuOk p y) (e : nuD y = .tup [.int a, .int b]) : (decide (a = 0) && decide (b = 1)) = isZ y ∧ decide (a = 0) = isZ y := by
  cases y with
  | q r =>
    simp only [nuD, D.tup.injEq, List.cons.injEq, D.int.injEq, and_true] at e
    obtain ⟨rfl, rfl⟩ := e
    by_cases z : r = 0
    · subst z
      exact ⟨rfl, rfl⟩
    · have : ¬ r.num = 0 := fun w => z (Rat.num_eq_zero.mp w)
      simp only [isZ, decide_eq_false this, decide_eq_false z, Bool.false_and, and_self]
  | m r =>
    simp only [nuD, D.tup.injEq, List.cons.injEq, D.int.injEq, and_true] at e
    obtain ⟨rfl, rfl⟩ := e
    simp only [isZ, decide_true, Bool.and_true, and_self]
theorem eq_nought {p : Int} {y : Nu} {M : Mm} {Q : VK3} (hy : NuOk p y) : r3Eq (nuD y) (.tup [.int 0, .int 1]) M Q = Q (.bl (isZ y)) M := by
  obtain ⟨c, d, e⟩ := nu_pair y
  rw [← (isZ_pair hy e).1, e, eq_pair]
theorem ne_nought {p : Int} {y : Nu} {M : Mm} {Q : VK3} (hy : NuOk p y) : r3Ne (nuD y) (.tup [.int 0, .int 1]) M Q = Q (.bl (!isZ y)) M := by
  obtain ⟨c, d, e⟩ := nu_pair y
  rw [← (isZ_pair hy e).1, e, ne_pair]
theorem hasTy_nu {M : Mm} {x : Nu} : HasTy M (nuD x) := by cases x <;> exact hasTy_tup
theorem ty1_nu {M : Mm} {x : Nu} : Ty1 M (nuD x) := by
  obtain ⟨a, b, e⟩ := nu_pair x
  rw [e]
  exact .tup (by simp only [List.mem_cons, List.not_mem_nil, or_false]; rintro x (rfl | rfl) <;> exact hasTy_int)
def wordsL : List Str := ["add", "sub", "mul", "over"]
def wordOk : D → Bool
  | .str s => decide (s ∈ wordsL)
  | _ => false
def isNoughtD : D → Bool
  | .tup [.int a, .int b] => decide (a = 0) && decide (b = 1)
  | _ => false
theorem isNoughtD_nu {p : Int} {y : Nu} (hy : NuOk p y) : isNoughtD (nuD y) = isZ y := by
  obtain ⟨c, d, e⟩ := nu_pair y
  rw [← (isZ_pair hy e).1, e]
  rfl
theorem strs_any (s : Str) : ∀ l : List Str, ((l.map D.str).any fun x => eqF x (.str s)) = decide (s ∈ l)
  | [] => by simp
  | i :: l => by
    rw [List.map_cons, List.any_cons, strs_any s l]
    simp only [eqF, List.mem_cons]
    by_cases h : i = s
    · simp [h]
    · have : ¬ s = i := fun z => h z.symm
      simp [h, this]
theorem strs_fl : ∀ l : List Str, (l.map D.str).all flD = true
  | [] => rfl
  | _ :: l => by rw [List.map_cons, List.all_cons, strs_fl l]; rfl
theorem in_strs {neg : Bool} {s : Str} {l : List Str} {M : Mm} {Q : VK3} : r3In neg (.str s) (.tup (l.map D.str)) M Q = Q (.bl (if neg then !decide (s ∈ l) else decide (s ∈ l))) M := by
  unfold r3In
  refine propext ⟨?_, ?_⟩
  · rintro ⟨ds, e, h1, h2, q⟩
    cases e
    rw [strs_any] at q
    exact q
  · intro q
    refine ⟨_, rfl, rfl, strs_fl l, ?_⟩
    rw [strs_any]
    exact q
theorem dS_add {M : Mm} : datD M (.str "add") = some (.str "add") := datD_str (by decide +kernel)
theorem dS_sub {M : Mm} : datD M (.str "sub") = some (.str "sub") := datD_str (by decide +kernel)
theorem dS_mul {M : Mm} : datD M (.str "mul") = some (.str "mul") := datD_str (by decide +kernel)
theorem dS_over {M : Mm} : datD M (.str "over") = some (.str "over") := datD_str (by decide +kernel)
theorem w_add_sub : ((Str.ofString "add") = (Str.ofString "sub")) = False := eq_false (by decide +kernel)
theorem w_add_mul : ((Str.ofString "add") = (Str.ofString "mul")) = False := eq_false (by decide +kernel)
theorem w_add_over : ((Str.ofString "add") = (Str.ofString "over")) = False := eq_false (by decide +kernel)
theorem w_sub_add : ((Str.ofString "sub") = (Str.ofString "add")) = False := eq_false (by decide +kernel)
theorem w_sub_mul : ((Str.ofString "sub") = (Str.ofString "mul")) = False := eq_false (by decide +kernel)
theorem w_sub_over : ((Str.ofString "sub") = (Str.ofString "over")) = False := eq_false (by decide +kernel)
theorem w_mul_add : ((Str.ofString "mul") = (Str.ofString "add")) = False := eq_false (by decide +kernel)
theorem w_mul_sub : ((Str.ofString "mul") = (Str.ofString "sub")) = False := eq_false (by decide +kernel)
theorem w_mul_over : ((Str.ofString "mul") = (Str.ofString "over")) = False := eq_false (by decide +kernel)
theorem w_over_add : ((Str.ofString "over") = (Str.ofString "add")) = False := eq_false (by decide +kernel)
theorem w_over_sub : ((Str.ofString "over") = (Str.ofString "sub")) = False := eq_false (by decide +kernel)
theorem w_over_mul : ((Str.ofString "over") = (Str.ofString "mul")) = False := eq_false (by decide +kernel)
def opN (s : Str) (p : Int) (x y : Nu) : Nu := if s = "add" then addN p x y else if s = "sub" then subN p x y else if s = "mul" then mulN p x y else overN p x y
/-! algebra -/
theorem emul_l (a b p : Int) : a % p * b % p = a * b % p := by rw [Int.mul_emod, Int.emod_emod, ← Int.mul_emod]
theorem emul_r (a b p : Int) : a * (b % p) % p = a * b % p := by rw [Int.mul_emod, Int.emod_emod, ← Int.mul_emod]
theorem emod_eq {p a b : Int} (h : (a - b) % p = 0) : a % p = b % p := Int.emod_eq_emod_iff_emod_sub_eq_zero.mpr h
theorem addN_comm {p : Int} {x y : Nu} (hx : NuOk p x) (hy : NuOk p y) : addN p x y = addN p y x := by
  cases x <;> cases y
  · simp only [addN]; rw [Rat.add_comm]
  · exact absurd hx (by have := hy.1; simp only [NuOk]; omega)
  · exact absurd hy (by have := hx.1; simp only [NuOk]; omega)
  · simp only [addN]; rw [Int.add_comm]
theorem mulN_comm {p : Int} {x y : Nu} (hx : NuOk p x) (hy : NuOk p y) : mulN p x y = mulN p y x := by
  cases x <;> cases y
  · simp only [mulN]; rw [Rat.mul_comm]
  · exact absurd hx (by have := hy.1; simp only [NuOk]; omega)
  · exact absurd hy (by have := hx.1; simp only [NuOk]; omega)
  · simp only [mulN]; rw [Int.mul_comm]
theorem addN_sub {p : Int} {x y : Nu} (hx : NuOk p x) (hy : NuOk p y) : subN p (addN p x y) y = x := by
  cases x <;> cases y
  · simp only [addN, subN]; congr 1; grind
  · exact absurd hx (by have := hy.1; simp only [NuOk]; omega)
  · exact absurd hy (by have := hx.1; simp only [NuOk]; omega)
  · rename_i a b
    simp only [addN, subN]
    congr 1
    rw [Int.emod_sub_emod]
    rw [show a + b - b = a by omega]
    exact Int.emod_eq_of_lt hx.2.1 hx.2.2
theorem mulN_add {p : Int} {x y z : Nu} (hx : NuOk p x) (hy : NuOk p y) (hz : NuOk p z) : mulN p (addN p x y) z = addN p (mulN p x z) (mulN p y z) := by
  cases x <;> cases y <;> cases z
  · simp only [addN, mulN]; congr 1; grind
  all_goals first
    | (exfalso; simp only [NuOk] at hx hy hz; omega; done)
    | skip
  rename_i a b c
  simp only [addN, mulN]
  congr 1
  rw [emul_l, Int.emod_add_emod, Int.add_emod_emod, Int.add_mul]
theorem mul_over {p : Int} {x y : Nu} (hp : Gd p) (hx : NuOk p x) (hy : NuOk p y) (h : isZ y = false) : overN p (mulN p x y) y = x := by
  cases x <;> cases y
  · rename_i a b
    have hz : b ≠ 0 := of_decide_eq_false h
    simp only [overN, invN, mulN]; congr 1; grind
  · exact absurd hx (by have := hy.1; simp only [NuOk]; omega)
  · exact absurd hy (by have := hx.1; simp only [NuOk]; omega)
  · rename_i a b
    have hz : b ≠ 0 := of_decide_eq_false h
    simp only [overN, invN, mulN]
    congr 1
    have hp' : p ∈ primesL := by
      rcases hp with rfl | hp
      · exact absurd hx.1 (by decide)
      · exact hp
    have t := (inv_ok hp' (by have := hy.2.1; omega) hy.2.2).1
    rw [emul_l, Int.mul_assoc, ← emul_r, t, Int.mul_one]
    exact Int.emod_eq_of_lt hx.2.1 hx.2.2
theorem rest_iff {p r c : Int} (h0 : 0 ≤ r) (h1 : r < p) : (r - c) % p = 0 ↔ r = c % p := by
  constructor
  · intro h
    have := emod_eq h
    rw [Int.emod_eq_of_lt h0 h1] at this
    exact this
  · intro h
    rw [h, Int.emod_sub_emod, Int.sub_self, Int.zero_emod]
theorem over_iff {p r i j : Int} (hp : p ∈ primesL) (h0 : 0 ≤ r) (h1 : r < p) (j0 : 0 < j) (j1 : j < p) : (r * j - i) % p = 0 ↔ r = i * invL p j % p := by
  have t := (inv_ok hp j0 j1).1
  constructor
  · intro h
    have e := emod_eq h
    have : r % p = i * invL p j % p := by
      rw [← emul_l i, ← e, emul_l, Int.mul_assoc, ← emul_r, t, Int.mul_one]
    rw [Int.emod_eq_of_lt h0 h1] at this
    exact this
  · intro h
    apply Int.emod_eq_emod_iff_emod_sub_eq_zero.mp
    rw [h, emul_l, Int.mul_assoc, Int.mul_comm (invL p j), ← emul_r, t, Int.mul_one]
def nuP : Nu → PyData
  | .q r => .tuple [.int r.num, .int (r.den : Nat)]
  | .m a => .tuple [.int a, .int 1]
theorem datD_nu {M : Mm} {x : Nu} : datD M (nuD x) = some (nuP x) := by
  cases x <;> exact datD_pair _ _
theorem eqv_nu {p : Int} {x y : Nu} (hx : NuOk p x) (hy : NuOk p y) : PyData.eqv (nuP x) (nuP y) = decide (x = y) := by
  have h := eq_nu (M := fun _ => none) (Q := fun d _ => d = .bl (PyData.eqv (nuP x) (nuP y))) hx hy
  have : r3Eq (nuD x) (nuD y) (fun _ => none) (fun d _ => d = .bl (PyData.eqv (nuP x) (nuP y))) := ⟨_, _, datD_nu, datD_nu, rfl⟩
  rw [h] at this
  exact (D.bl.inj this).symm
theorem opN_add {p : Int} {x y : Nu} : opN (Str.ofString "add") p x y = addN p x y := rfl
theorem opN_sub {p : Int} {x y : Nu} : opN (Str.ofString "sub") p x y = subN p x y := by simp only [opN, w_sub_add, if_false, if_true]
theorem opN_mul {p : Int} {x y : Nu} : opN (Str.ofString "mul") p x y = mulN p x y := by simp only [opN, w_mul_add, w_mul_sub, if_false, if_true]
theorem opN_over {p : Int} {x y : Nu} : opN (Str.ofString "over") p x y = overN p x y := by simp only [opN, w_over_add, w_over_sub, w_over_mul, if_false]
end L3

namespace L3
open PySem PySem.Spec L2
/-! ### things of known kinds all through their tuples -/
mutual
def tyA (M : Mm) : D → Prop
  | .tup ds => ds.length ≤ 1000000 ∧ tyAs M ds
  | .ref a => HasTy M (.ref a)
  | .ty _ => False
  | _ => True
def tyAs (M : Mm) : List D → Prop
  | [] => True
  | d :: ds => tyA M d ∧ tyAs M ds
end
theorem tyAs_all {M : Mm} : ∀ {ds : List D}, tyAs M ds ↔ ∀ x ∈ ds, tyA M x
  | [] => by simp [tyAs]
  | d :: ds => by
    simp only [tyAs, List.mem_cons, forall_eq_or_imp]
    rw [tyAs_all]
theorem tyA_tup {M : Mm} {ds : List D} : tyA M (.tup ds) ↔ ds.length ≤ 1000000 ∧ ∀ x ∈ ds, tyA M x := by
  rw [← tyAs_all]
  simp only [tyA]
theorem tyA.ty {M : Mm} {d : D} (h : tyA M d) : HasTy M d := by
  cases d with
  | ref a => simpa only [tyA] using h
  | ty n => simp only [tyA] at h
  | _ => exact ⟨_, rfl⟩
theorem tyA.ty1 {M : Mm} {d : D} (h : tyA M d) : Ty1 M d := ⟨h.ty, fun ds e x hx => by
  subst e
  exact ((tyA_tup.mp h).2 x hx).ty⟩
theorem tyA.len {M : Mm} {ds : List D} (h : tyA M (.tup ds)) : ds.length ≤ 1000000 := (tyA_tup.mp h).1
theorem tyA.mem {M : Mm} {ds : List D} {x : D} (h : tyA M (.tup ds)) (hx : x ∈ ds) : tyA M x := (tyA_tup.mp h).2 x hx
theorem tyA_int {M : Mm} {i : Int} : tyA M (.int i) := by simp only [tyA]
theorem tyA_bl {M : Mm} {i : Bool} : tyA M (.bl i) := by simp only [tyA]
theorem tyA_non {M : Mm} : tyA M .non := by simp only [tyA]
theorem tyA_str {M : Mm} {s : Str} : tyA M (.str s) := by simp only [tyA]
theorem tyA_lst {M : Mm} {a : Addr} {ds : List D} (h : M a = some (.lst ds)) : tyA M (.ref a) := by
  simp only [tyA]
  exact hasTy_lst h
theorem tyA_dK {M : Mm} {a : Addr} {ds} (h : M a = some (.dK ds)) : tyA M (.ref a) := by
  simp only [tyA]
  exact hasTy_dK h
mutual
theorem tyA_step {h : Addr} {M M' : Mm} (s : HStep h M M') : ∀ d : D, tyA M d → tyA M' d
  | .tup ds, t => by
    simp only [tyA] at t ⊢
    exact ⟨t.1, tyAs_step s ds t.2⟩
  | .ref a, t => by
    simp only [tyA] at t ⊢
    exact t.step s
  | .ty _, t => by simp only [tyA] at t
  | .non, _ => by simp only [tyA]
  | .bl _, _ => by simp only [tyA]
  | .int _, _ => by simp only [tyA]
  | .str _, _ => by simp only [tyA]
  | .rol _, _ => by simp only [tyA]
theorem tyAs_step {h : Addr} {M M' : Mm} (s : HStep h M M') : ∀ ds : List D, tyAs M ds → tyAs M' ds
  | [], _ => by simp only [tyAs]
  | d :: ds, t => by
    simp only [tyAs] at t ⊢
    exact ⟨tyA_step s d t.1, tyAs_step s ds t.2⟩
end
theorem tyA.step {h : Addr} {M M' : Mm} {d : D} (t : tyA M d) (s : HStep h M M') : tyA M' d := tyA_step s d t
mutual
theorem tyA_sub {M M' : Mm} (s : MSub M M') : ∀ d : D, tyA M d → tyA M' d
  | .tup ds, t => by
    simp only [tyA] at t ⊢
    exact ⟨t.1, tyAs_sub s ds t.2⟩
  | .ref a, t => by
    simp only [tyA] at t ⊢
    exact t.sub s
  | .ty _, t => by simp only [tyA] at t
  | .non, _ => by simp only [tyA]
  | .bl _, _ => by simp only [tyA]
  | .int _, _ => by simp only [tyA]
  | .str _, _ => by simp only [tyA]
  | .rol _, _ => by simp only [tyA]
theorem tyAs_sub {M M' : Mm} (s : MSub M M') : ∀ ds : List D, tyAs M ds → tyAs M' ds
  | [], _ => by simp only [tyAs]
  | d :: ds, t => by
    simp only [tyAs] at t ⊢
    exact ⟨tyA_sub s d t.1, tyAs_sub s ds t.2⟩
end
theorem tyA_nu {M : Mm} {x : Nu} : tyA M (nuD x) := by
  cases x <;> simp [nuD, tyA, tyAs]
theorem atI_last {α : Type} {ds : List α} {x : α} (h : ds.getLast? = some x) : atI ds (-1) = some x := by
  have hl : ds ≠ [] := fun e => by rw [e] at h; cases h
  have hp : 0 < ds.length := List.length_pos_iff.mpr hl
  unfold atI
  have e : ixN ds.length (-1) = some (ds.length - 1) := by
    unfold ixN
    rw [if_neg (by omega), if_pos (by omega)]
    congr 1
    omega
  rw [e]
  rw [List.getLast?_eq_getElem?] at h
  exact h
/-! ### polynomials -/
def polyD (xs : List Nu) : D := .tup (xs.map nuD)
theorem tyA_poly {M : Mm} {xs : List Nu} (h : xs.length ≤ 1000000) : tyA M (polyD xs) := tyA_tup.mpr ⟨by rw [List.length_map]; exact h, fun x hx => by
  obtain ⟨n, _, rfl⟩ := List.mem_map.mp hx
  exact tyA_nu⟩
def lastOk (ds : List D) : Bool := match ds.getLast? with
  | none => true
  | some d => !isNoughtD d
def isPolyB (p : Int) : D → Bool
  | .tup ds => ds.all (isNumB p) && lastOk ds
  | _ => false
/-- a polynomial of the ground p -/
structure PolyOk (p : Int) (xs : List Nu) : Prop where
  all : ∀ x ∈ xs, NuOk p x
  last : ∀ x, xs.getLast? = some x → isZ x = false
theorem isPoly_poly {p : Int} {xs : List Nu} (h : PolyOk p xs) : isPolyB p (polyD xs) = true := by
  simp only [polyD, isPolyB, Bool.and_eq_true, List.all_eq_true]
  refine ⟨fun d hd => ?_, ?_⟩
  · obtain ⟨x, hx, rfl⟩ := List.mem_map.mp hd
    exact isNum_nu (h.all x hx)
  · unfold lastOk
    rw [List.getLast?_map]
    cases e : xs.getLast? with
    | none => rfl
    | some x =>
      show (!isNoughtD (nuD x)) = true
      rw [isNoughtD_nu (h.all x (List.mem_of_getLast? e)), h.last x e]
      rfl
theorem poly_of {p : Int} {d : D} (hp : 0 ≤ p) (h : isPolyB p d = true) : ∃ xs, d = polyD xs ∧ PolyOk p xs := by
  cases d with
  | tup ds =>
    simp only [isPolyB, Bool.and_eq_true, List.all_eq_true] at h
    obtain ⟨h1, h2⟩ := h
    have : ∃ xs : List Nu, ds = xs.map nuD ∧ ∀ x ∈ xs, NuOk p x := by
      clear h2
      induction ds with
      | nil => exact ⟨[], rfl, fun x hx => absurd hx (by simp)⟩
      | cons d ds ih =>
        obtain ⟨xs, e, hx⟩ := ih fun x hx => h1 x (List.mem_cons_of_mem _ hx)
        obtain ⟨x, e2, hx2⟩ := nu_of hp (h1 d List.mem_cons_self)
        exact ⟨x :: xs, by rw [e, e2]; rfl, fun y hy => by
          rcases List.mem_cons.mp hy with z | z
          · rw [z]; exact hx2
          · exact hx y z⟩
    obtain ⟨xs, rfl, hx⟩ := this
    refine ⟨xs, rfl, hx, fun x e => ?_⟩
    unfold lastOk at h2
    rw [List.getLast?_map, e] at h2
    have h3 : (!isNoughtD (nuD x)) = true := h2
    rw [isNoughtD_nu (hx x (List.mem_of_getLast? e))] at h3
    simpa using h3
  | _ => cases h
theorem cutD_take {ds : List D} {n : Nat} : cutD ds none (some (n : Int)) = ds.take n := by
  unfold cutD
  rw [HT.sIx_none, List.drop_zero, Nat.sub_zero, HT.sIx_nat]
  rw [List.take_eq_take_iff]
  omega
theorem cutD_drop {ds : List D} {n : Nat} (h : n ≤ ds.length) : cutD ds (some (n : Int)) none = ds.drop n := by
  unfold cutD
  rw [HT.sIx_none, HT.sIx_nat, Nat.min_eq_left h]
  exact List.take_of_length_le (by rw [List.length_drop]; omega)
def trimL (xs : List Nu) : List Nu := (xs.reverse.dropWhile isZ).reverse
theorem trimL_nil : trimL [] = [] := rfl
theorem trimL_snoc {xs : List Nu} {x : Nu} : trimL (xs ++ [x]) = if isZ x = true then trimL xs else xs ++ [x] := by
  unfold trimL
  rw [List.reverse_append, List.reverse_cons, List.reverse_nil, List.nil_append, List.cons_append, List.nil_append, List.dropWhile_cons]
  by_cases h : isZ x = true
  · rw [if_pos h, if_pos h]
  · rw [if_neg h, if_neg h]
    simp
theorem trimL_ok {p : Int} : ∀ {xs : List Nu}, (∀ x ∈ xs, NuOk p x) → PolyOk p (trimL xs) := by
  intro xs h
  refine ⟨fun x hx => h x ?_, fun x e => ?_⟩
  · unfold trimL at hx
    rw [List.mem_reverse] at hx
    exact List.mem_reverse.mp ((List.dropWhile_sublist _).mem hx)
  · unfold trimL at e
    rw [List.getLast?_reverse] at e
    have := List.head?_dropWhile_not isZ xs.reverse
    rw [e] at this
    simpa using this
theorem r3Mul_ref {a : Addr} {j : Int} {M : Mm} {Q : VK3} : r3Mul (.ref a) (.int j) M Q = ∃ xs, M a = some (.lst xs) ∧ -(2 ^ 63) ≤ j ∧ j < 2 ^ 63 ∧ xs.length * j.toNat ≤ sizeLine ∧ ∀ l, M l = none → Q (.ref l) (mupd M l (.lst (List.replicate j.toNat xs).flatten)) := rfl
theorem rep_one {α : Type} {x : α} : ∀ n : Nat, (List.replicate n [x]).flatten = List.replicate n x
  | 0 => rfl
  | n + 1 => by rw [List.replicate_succ, List.flatten_cons, rep_one n]; rfl
/-! products -/
def coefN (p : Int) (xs ys : List Nu) : Nat → Nat → Nu
  | 0, _ => zeroN p
  | k + 1, at_ => if k ≤ at_ ∧ at_ - k < ys.length then addN p (coefN p xs ys k at_) (mulN p (xs.getD k (zeroN p)) (ys.getD (at_ - k) (zeroN p))) else coefN p xs ys k at_
def mulL (p : Int) (xs ys : List Nu) : List Nu := if xs.length = 0 ∨ ys.length = 0 then [] else (List.range (xs.length + ys.length - 1)).map (coefN p xs ys xs.length)
theorem zero_ok {p : Int} (h : 0 ≤ p) : NuOk p (zeroN p) := by
  unfold zeroN
  by_cases z : p = 0
  · rw [if_pos z]; exact z
  · rw [if_neg z]; exact ⟨by omega, by decide, by omega⟩
theorem zero_sz {p : Int} {n : Nat} : Sz (n + 1) (zeroN p) := by
  unfold zeroN
  by_cases z : p = 0
  · rw [if_pos z]
    have : 1 < 2 ^ (n + 1) := Nat.one_lt_two_pow (by omega)
    exact ⟨by show 0 < 2 ^ (n + 1); omega, this⟩
  · rw [if_neg z]; trivial
theorem zero_nu {p : Int} : nuD (zeroN p) = .tup [.int 0, .int 1] := by
  unfold zeroN
  by_cases z : p = 0
  · rw [if_pos z]; rfl
  · rw [if_neg z]; rfl
theorem getD_ok {p : Int} {xs : List Nu} (hp : 0 ≤ p) (h : ∀ x ∈ xs, NuOk p x) (k : Nat) : NuOk p (xs.getD k (zeroN p)) := by
  rw [List.getD_eq_getElem?_getD]
  cases e : xs[k]? with
  | none => exact zero_ok hp
  | some x => exact h x (List.mem_of_getElem? e)
theorem getD_sz {p : Int} {s : Nat} {xs : List Nu} (h : ∀ x ∈ xs, Sz (s + 1) x) (k : Nat) : Sz (s + 1) (xs.getD k (zeroN p)) := by
  rw [List.getD_eq_getElem?_getD]
  cases e : xs[k]? with
  | none => exact zero_sz
  | some x => exact h x (List.mem_of_getElem? e)
theorem coef_ok {p : Int} {xs ys : List Nu} (hp : 0 ≤ p) (hx : ∀ x ∈ xs, NuOk p x) (hy : ∀ x ∈ ys, NuOk p x) : ∀ k at_, NuOk p (coefN p xs ys k at_)
  | 0, _ => zero_ok hp
  | k + 1, at_ => by
    unfold coefN
    split
    · exact ok_add (coef_ok hp hx hy k at_) (ok_mul (getD_ok hp hx k) (getD_ok hp hy _))
    · exact coef_ok hp hx hy k at_
theorem coef_sz {p : Int} {s t : Nat} {xs ys : List Nu} (hx : ∀ x ∈ xs, Sz (s + 1) x) (hy : ∀ x ∈ ys, Sz (t + 1) x) : ∀ k at_, Sz (k * (s + t + 3) + 1) (coefN p xs ys k at_)
  | 0, _ => by
    have := zero_sz (p := p) (n := 0)
    exact this.mono (by omega)
  | k + 1, at_ => by
    have ih := coef_sz (p := p) hx hy k at_
    unfold coefN
    split
    · have := sz_add (p := p) ih (sz_mul (p := p) (getD_sz (p := p) hx k) (getD_sz (p := p) hy (at_ - k)))
      refine this.mono ?_
      rw [Nat.succ_mul]
      omega
    · refine ih.mono ?_
      rw [Nat.succ_mul]
      omega
end L3

namespace L3
open PySem PySem.Spec L2 PyProof.Rows HT
/-! ### x[::-1] of a tuple or a list -/
section
variable {prog : Program} {w : World} {A : Around} {E : Value → Shared → Prop} {s : Shared}
theorem slice_places_rev (n : Nat) : Builtin.Slice.slicePlaces ((n : Int) - 1) (-1) (-1) = n := by
  unfold Builtin.Slice.slicePlaces
  have h1 : ¬ ((-1 : Int) > 0) := by decide
  simp only [h1, if_false]
  by_cases h : (n : Int) - 1 > -1
  · rw [if_pos h]
    have e : ((n : Int) - 1 - -1 - 1) / (- -1) + 1 = (n : Int) := by
      rw [show (- -1 : Int) = 1 by decide, Int.ediv_one]
      omega
    rw [e]
    rfl
  · rw [if_neg h]
    omega
theorem slice_adj_rev (n : Nat) : Builtin.Slice.sliceAdjust none none (-1) (n : Int) = ((n : Int) - 1, -1) := rfl
theorem slice_applied_rev {sl : Addr} {vs : Value} {n : Nat} {Q : Int × Int × Nat → Shared → Prop} (hs : s.heap.IsSliceOf sl .none .none vs) (ps : IsPart vs (some (-1)))
    (h : Q ((n : Int) - 1, -1, n) s) : wpAny (model prog w) A (Builtin.Slice.sliceApplied (.ref sl) (pure (n : Int))) Q E s := by
  obtain ⟨os, hos, hcs, hds⟩ := id hs
  unfold Builtin.Slice.sliceApplied Builtin.Slice.sliceFields
  refine wpAny_bind (wpAny_bind (wpAny_field hos hds (x := .none) rfl (wpAny_bind (wpAny_field hos hds (x := .none) rfl (wpAny_bind (wpAny_field hos hds (x := vs) rfl (wpAny_pure ?_)))))))
  refine wpAny_bind (slicePart_ ps ?_)
  show wpAny _ _ (if ((-1 : Int) == 0) = true then _ else _) _ _ s
  rw [if_neg (by decide)]
  refine wpAny_bind (slicePart_ .none (wpAny_bind (slicePart_ .none (wpAny_bind (wpAny_pure ?_)))))
  show wpAny _ _ (match Builtin.Slice.sliceAdjust none none (-1) (n : Int) with | (lo, hi) => pure (lo, (-1 : Int), Builtin.Slice.slicePlaces lo hi (-1))) _ _ s
  rw [slice_adj_rev n]
  show wpAny _ _ (pure ((n : Int) - 1, (-1 : Int), Builtin.Slice.slicePlaces ((n : Int) - 1) (-1) (-1))) _ _ s
  rw [slice_places_rev]
  exact wpAny_pure h
theorem pick_rev (xs : Array Value) : ((List.range xs.size).filterMap fun (k : Nat) => xs[(((xs.size : Int) - 1) + (k : Int) * (-1)).toNat]?).toArray = xs.toList.reverse.toArray := by
  have e : ((List.range xs.size).filterMap fun (k : Nat) => xs[(((xs.size : Int) - 1) + (k : Int) * (-1)).toNat]?) = ((List.range xs.size).map fun k => xs.size - 1 - k).filterMap (xs[·]?) := by
    rw [List.filterMap_map]
    congr 1
    funext k
    show _ = xs[xs.size - 1 - k]?
    have : (((xs.size : Int) - 1) + (k : Int) * (-1)).toNat = xs.size - 1 - k := by omega
    rw [this]
  rw [e, PySem.W.krv_range, List.filterMap_reverse, PySem.W.krv_all]
theorem getItem_tuple_rev {t sl : Addr} {items : Array Value} {vs : Value} {Q : Value → Shared → Prop} (ht : IsTup s.heap t items) (hs : s.heap.IsSliceOf sl .none .none vs) (ps : IsPart vs (some (-1)))
    (h : Q (.ref s.heap.objs.size) { s with heap := s.heap.push { cls := .type "tuple", data := .seq items.toList.reverse.toArray } })
    (hsz : items.size ≤ sizeLine) : wpAny (model prog w) A (getItem (.ref t) (.ref sl)) Q E s := by
  have htake : sizeOk (.seq items.toList.reverse.toArray) := by
    show items.toList.reverse.toArray.size ≤ sizeLine
    rw [List.size_toArray, List.length_reverse, Array.length_toList]
    omega
  obtain ⟨os, hos, hcs, hds⟩ := id hs
  have hTs : s.TypeIs (.ref sl) "slice" := ⟨os, hos, hcs⟩
  unfold getItem
  try with_reducible refine wpAny_holding ?_
  first | refine wpAny_bind (wpAny_pure ?_) | skip
  refine wpAny_bind (wpAny_sequenceKey ht.typeIs (by decide) ?_)
  refine wpAny_bind (wpAny_callSpecial?_slot (name := Str.ofString "__getitem__") ht.typeIs PyProof.Rows.slot_tuple_getitem
    (wpAny_call_entry PyProof.Rows.slot_tuple_getitem ht.typeIs entry_tuple_getitem ?_ (args_tuple_getitem _ _)))
  show wpAny _ _ (Builtin.Tuple.tupleItemsOf (.ref t) >>= _) _ _ s
  refine wpAny_bind (tupleItemsOf_ ht ?_)
  refine wpAny_bind (wpAny_typeOf hTs ?_)
  rw [if_pos (by decide)]
  refine wpAny_bind (slice_applied_rev hs ps ?_)
  have hno : ¬ ((((items.size : Int) - 1) == 0 && (-1 : Int) == 1 && items.size == items.size) = true) := by
    rw [show ((-1 : Int) == 1) = false by decide, Bool.and_false, Bool.false_and]
    exact Bool.false_ne_true
  show wpAny _ _ (if (((items.size : Int) - 1) == 0 && (-1 : Int) == 1 && items.size == items.size) = true then _ else _) _ _ s
  rw [if_neg hno, pick_rev]
  first
    | exact wpAny_bind (m := Builtin.Tuple.tupleExact _) (wpAny_newObj_type (wpAny_pure ⟨_, rfl, wpAny_pure h⟩) htake)
    | exact wpAny_bind (m := Builtin.Tuple.tupleExact _) (wpAny_newObj_type (wpAny_bind (wpAny_pure (wpAny_pure ⟨_, rfl, wpAny_pure h⟩))) htake)
    | exact wpAny_bind (wpAny_bind (m := Builtin.Tuple.tupleExact _) (wpAny_newObj_type (wpAny_pure (wpAny_pure ⟨_, rfl, wpAny_pure h⟩)) htake))
    | exact wpAny_bind (wpAny_bind (m := Builtin.Tuple.tupleExact _) (wpAny_newObj_type (wpAny_pure ⟨_, rfl, wpAny_pure h⟩) htake))
end
/-- x[::-1] at the V level -/
def rRevV (K : PySem.W.Frag) : V → Hp → VK → Prop := fun x H Q => (∃ a xs, x = .ref a ∧ SqT K H a xs ∧ ∀ p, H p = none → Q (.ref p) (upd H p (.tup xs.reverse))) ∨ (∃ a xs, x = .ref a ∧ SqL K H a xs ∧ ∀ p, H p = none → Q (.ref p) (upd H p (.lst xs.reverse)))
section
variable {X : Cx}
theorem pe_revV {e : Expr} {te : TE} {k : Nat} {p1 p2 p3 pos : Pos} (he : PE X e te) : PE X (.Subscript e (.Slice none none (some (.UnaryOp .USub (.Constant (.int 1) k p1) p2)) p3) pos) (fun σ H Q => te σ H fun x H1 => rRevV X.K x H1 Q) := by
  refine ⟨fun pins s σ H Q I h => ?_⟩
  refine Subscript_ (thn (he.run pins s σ H _ I h) fun v s1 ⟨x, H1, I1, r1, q1⟩ => ?_)
  have hst : PO X (some (.UnaryOp .USub (.Constant (.int 1) k p1) p2)) (tPart (tUn (rU fun i => .int (-i)) (tC (.int 1)))) := po_some (pe_un un_neg pe_int)
  refine wpAny_Slice (thn (po_none.run pins s1 σ H1 (fun o H2 => o = none ∧ H2 = H1) I1 ⟨rfl, rfl⟩) fun vl s2 ⟨l, H2, I2, pl, el, e2⟩ => ?_)
  subst el e2
  refine thn (po_none.run pins s2 σ H2 (fun o H3 => o = none ∧ H3 = H2) I2 ⟨rfl, rfl⟩) fun vu s3 ⟨u, H3, I3, pu, eu, e3⟩ => ?_
  subst eu e3
  refine thn (hst.run pins s3 σ H3 (fun o H4 => o = some (-1) ∧ H4 = H3) I3 ⟨1, rfl, -1, rfl, rfl, rfl⟩) fun vs s4 ⟨o, H4, I4, ps, eo, e4⟩ => ?_
  subst eo e4
  have I5 : Inv X pins σ H4 { s4 with heap := s4.heap.push { cls := .type "slice", data := .fields #[vl, vu, vs] } } := I4.kept (t' := s4.toks) fun b ob q => Heap.get?_push_of_some _ q
  rcases q1 with ⟨a, xs, ex, hx, q⟩ | ⟨a, xs, ex, hx, q⟩
  · subst ex
    cases r1
    cases pl
    cases pu
    obtain ⟨its, r, ht, hz⟩ := I5.tuple hx
    have hlen := r.length
    show wpAny (model X.prog X.w) X.A (subscriptTail e (.Slice none none (some (.UnaryOp .USub (.Constant (.int 1) k p1) p2)) p3) (.ref a) (.ref s4.heap.objs.size)) (EP X pins σ Q) X.xe { s4 with heap := s4.heap.push { cls := .type "slice", data := .fields #[.none, .none, vs] } }
    refine tail_any (ops := [.ref a, .ref s4.heap.objs.size]) ht.typeIs (PyProof.Rows.slot_tuple_getitem.lookup) ?_ (by with_unfolding_all rfl)
    refine getItem_tuple_rev ht (Heap.IsSliceOf.new _ .none .none vs) ps ?_ (by rw [List.size_toArray]; omega)
    refine ⟨.ref _, _, I5.laid (t' := s4.toks) (o := .tup xs.reverse) (fun b ob q => Heap.get?_push_of_some _ q) (Nat.le_refl _) ?_, rfl, q _ (I5.hok.fresh (Nat.le_refl _))⟩
    exact ⟨by rw [List.length_reverse]; exact hz, _, r.reverse, IsTup.new _ _⟩
  · subst ex
    cases r1
    obtain ⟨its, r, ht, hz⟩ := I5.list hx
    have hlen := r.length
    show wpAny (model X.prog X.w) X.A (subscriptTail e (.Slice none none (some (.UnaryOp .USub (.Constant (.int 1) k p1) p2)) p3) (.ref a) (.ref s4.heap.objs.size)) (EP X pins σ Q) X.xe { s4 with heap := s4.heap.push { cls := .type "slice", data := .fields #[vl, vu, vs] } }
    refine tail_any (ops := [.ref a, .ref s4.heap.objs.size]) ht.isList.typeIs (PySem.slot_list_getitem.lookup) ?_ (by with_unfolding_all rfl)
    refine wpAny_getItem_list_slice ht.isList (Heap.IsSliceOf.new _ vl vu vs) pl pu ps (by decide) ?_ (by rw [List.size_toArray]; omega)
    rw [PySem.W.krv_pick]
    refine ⟨.ref _, _, I5.laid (t' := s4.toks) (o := .lst xs.reverse) (fun b ob q => Heap.get?_push_of_some _ q) (Nat.le_refl _) ?_, rfl, q _ (I5.hok.fresh (Nat.le_refl _))⟩
    exact ⟨by rw [List.length_reverse]; exact hz, _, 0, r.reverse, Heap.get?_push_size _ rfl⟩
end
/-! at the D level -/
def r3Rev : D → Mm → VK3 → Prop
  | .tup ds, M, Q => Q (.tup ds.reverse) M
  | d, M, Q => ∃ ds, itemsD M d = some ds ∧ ∀ l, M l = none → Q (.ref l) (mupd M l (.lst ds.reverse))
def tRev3 (te : TE3) : TE3 := fun σ M Q X => te σ M (fun d M1 => r3Rev d M1 Q) X
theorem q_tRev3 {te : TE3} {σ : St3} {M : Mm} {Q : VK3} {X : XK3} : tRev3 te σ M Q X = te σ M (fun d M1 => r3Rev d M1 Q) X := rfl
theorem r3Rev_tup {ds : List D} {M : Mm} {Q : VK3} : r3Rev (.tup ds) M Q = Q (.tup ds.reverse) M := rfl
theorem r3Rev_ref {a : Addr} {M : Mm} {Q : VK3} : r3Rev (.ref a) M Q = ∃ ds, itemsD M (.ref a) = some ds ∧ ∀ l, M l = none → Q (.ref l) (mupd M l (.lst ds.reverse)) := rfl
theorem RepL.reverse {K : PySem.W.Frag} {H : Hp} : ∀ {ds : List D} {vs : List V}, RepL K H ds vs → RepL K H ds.reverse vs.reverse
  | [], vs, r => by
    have := r.nil_
    subst this
    exact .nil
  | d :: ds, vs, r => by
    obtain ⟨v, us, e, h, t⟩ := r.cons_
    subst e
    rw [List.reverse_cons, List.reverse_cons]
    exact t.reverse.append (.cons h .nil)
theorem rvl {K : PySem.W.Frag} : ∀ d x M H Q3 Q, MOk K M H → Rep K H d x → r3Rev d M Q3 → qE K M H Q3 Q → rRevV K x H Q := fun d x M H Q3 Q k rd h hq => by
  have lists : (∃ ds, itemsD M d = some ds ∧ ∀ l, M l = none → Q3 (.ref l) (mupd M l (.lst ds.reverse))) → (∀ ds, d ≠ .tup ds) → ∃ a xs, x = .ref a ∧ SqL K H a xs ∧ ∀ p, H p = none → Q (.ref p) (upd H p (.lst xs.reverse)) := fun ⟨ds, e, q⟩ hn => by
    cases d with
    | tup es => exact absurd rfl (hn es)
    | rol es =>
      obtain ⟨b, us, eb, q2, t2⟩ := rd.rol_
      cases e
      refine ⟨b, us, eb, q2.sq, fun p hp => ?_⟩
      obtain ⟨k2, f2⟩ := mok_newlst k hp t2.reverse
      exact hq _ _ _ _ k2 f2 rep_ref (q p (k.none_of hp))
    | ref b =>
      unfold itemsD at e
      cases eb : M b with
      | none => simp only [eb] at e; cases e
      | some m =>
        simp only [eb] at e
        cases m with
        | lst es =>
          cases e
          obtain ⟨us, q2, t2⟩ := k b _ eb
          refine ⟨b, us, rd.ref_, SqL.of q2, fun p hp => ?_⟩
          obtain ⟨k2, f2⟩ := mok_newlst k hp t2.reverse
          exact hq _ _ _ _ k2 f2 rep_ref (q p (k.none_of hp))
        | _ => cases e
    | _ => cases e
  cases d with
  | tup ds =>
    obtain ⟨a, vs, ea, s, t⟩ := rd.tup_
    refine .inl ⟨a, vs, ea, s, fun p hp => ?_⟩
    obtain ⟨k2, f2⟩ := mok_tup (xs := vs.reverse) k hp
    exact hq _ M _ _ k2 f2 (rep_newtup k hp t.reverse) h
  | _ => exact .inr (lists h fun _ z => nomatch z)
section
variable {X : Cx} {W : WX} {pos p1 p2 p3 : Pos} {e : Expr} {te : TE3} {k : Nat}
theorem pe3_rev (he : PE3 X W e te) : PE3 X W (.Subscript e (.Slice none none (some (.UnaryOp .USub (.Constant (.int 1) k p1) p2)) p3) pos) (tRev3 te) :=
  (pe_revV he).imp fun σ H Q ⟨σ3, M, Q3, X3, rs, q, hq, hx⟩ => ⟨σ3, M, _, X3, rs, q, fun d M1 x H1 k1 f1 r1 h1 => rvl d x M1 H1 Q3 Q k1 r1 h1 (hq.step f1), hx⟩
end
theorem r3Sl_tup {ds : List D} {lo hi : Option Int} {M : Mm} {Q : VK3} : r3Sl (.tup ds) lo hi M Q = Q (.tup (cutD ds lo hi)) M := rfl
theorem c3List_tup {ds : List D} {M : Mm} {Q : VK3} : c3List [.tup ds] M Q = ∀ l, M l = none → Q (.ref l) (mupd M l (.lst ds)) := propext ⟨fun ⟨es, e, q⟩ => by cases e; exact q, fun q => ⟨ds, rfl, q⟩⟩
theorem c3List_ref {a : Addr} {M : Mm} {Q : VK3} : c3List [.ref a] M Q = ∃ ds, itemsD M (.ref a) = some ds ∧ ∀ l, M l = none → Q (.ref l) (mupd M l (.lst ds)) := rfl
theorem r3IsNot_bl {a b : Bool} {M : Mm} {Q : VK3} : r3IsNot (.bl a) (.bl b) M Q = Q (.bl (!decide (a = b))) M := rfl
theorem r3Is_bl {a b : Bool} {M : Mm} {Q : VK3} : r3Is (.bl a) (.bl b) M Q = Q (.bl (decide (a = b))) M := rfl
end L3

namespace L3
open PySem PySem.Spec L2
/-! ### sums over a ring, and polynomials at a point -/
section
variable {α : Type} [Lean.Grind.CommRing α]
def sumA (f : Nat → α) : Nat → α
  | 0 => 0
  | n + 1 => sumA f n + f n
def pwA (y : α) : Nat → α
  | 0 => 1
  | n + 1 => pwA y n * y
theorem sumA_add (f g : Nat → α) : ∀ n, sumA (fun t => f t + g t) n = sumA f n + sumA g n
  | 0 => by simp only [sumA]; grind
  | n + 1 => by simp only [sumA]; rw [sumA_add f g n]; grind
theorem sumA_mul (c : α) (f : Nat → α) : ∀ n, sumA (fun t => c * f t) n = c * sumA f n
  | 0 => by simp only [sumA]; grind
  | n + 1 => by simp only [sumA]; rw [sumA_mul c f n]; grind
theorem sumA_congr {f g : Nat → α} : ∀ {n : Nat}, (∀ t, t < n → f t = g t) → sumA f n = sumA g n
  | 0, _ => rfl
  | n + 1, h => by
    simp only [sumA]
    rw [sumA_congr (n := n) fun t ht => h t (by omega), h n (by omega)]
theorem sumA_zero : ∀ n, sumA (fun _ => (0 : α)) n = 0
  | 0 => rfl
  | n + 1 => by simp only [sumA]; rw [sumA_zero n]; grind
theorem sumA_front (f : Nat → α) : ∀ n, sumA f (n + 1) = f 0 + sumA (fun t => f (t + 1)) n
  | 0 => by simp only [sumA]; grind
  | n + 1 => by
    have := sumA_front f n
    have e : sumA f (n + 1 + 1) = sumA f (n + 1) + f (n + 1) := rfl
    rw [e, this]
    simp only [sumA]
    grind
theorem sumA_flip (f : Nat → α) : ∀ n, sumA f n = sumA (fun t => f (n - 1 - t)) n
  | 0 => rfl
  | n + 1 => by
    rw [sumA_front (fun t => f (n + 1 - 1 - t)) n]
    simp only [sumA]
    rw [sumA_flip f n]
    have : sumA (fun t => f (n + 1 - 1 - (t + 1))) n = sumA (fun t => f (n - 1 - t)) n := sumA_congr fun t ht => by
      show f _ = f _
      congr 1
      omega
    rw [this]
    have : f (n + 1 - 1 - 0) = f n := by congr 1
    rw [this]
    grind
theorem sumA_more {f : Nat → α} {n : Nat} : ∀ {m : Nat}, n ≤ m → (∀ t, n ≤ t → t < m → f t = 0) → sumA f m = sumA f n
  | 0, h, _ => by
    have : n = 0 := by omega
    subst this
    rfl
  | m + 1, h, z => by
    by_cases e : n = m + 1
    · subst e; rfl
    · simp only [sumA]
      rw [sumA_more (m := m) (by omega) fun t h1 h2 => z t h1 (by omega), z m (by omega) (by omega)]
      grind
theorem pwA_add (y : α) (m : Nat) : ∀ n, pwA y (m + n) = pwA y m * pwA y n
  | 0 => by simp only [pwA, Nat.add_zero]; grind
  | n + 1 => by
    have : pwA y (m + (n + 1)) = pwA y (m + n) * y := rfl
    rw [this, pwA_add y m n]
    simp only [pwA]
    grind
/-- a polynomial at a point -/
def evA (y : α) (xs : List α) : α := xs.foldr (fun x acc => acc * y + x) 0
theorem evA_cons (y x : α) (xs : List α) : evA y (x :: xs) = evA y xs * y + x := rfl
theorem evA_snoc (y x : α) : ∀ xs : List α, evA y (xs ++ [x]) = evA y xs + x * pwA y xs.length
  | [] => by simp only [List.nil_append, evA, List.foldr_cons, List.foldr_nil, List.length_nil, pwA]; grind
  | a :: xs => by
    rw [List.cons_append, evA_cons, evA_cons, evA_snoc y x xs, List.length_cons]
    simp only [pwA]
    grind
theorem evA_range (y : α) (f : Nat → α) : ∀ n, evA y ((List.range n).map f) = sumA (fun t => f t * pwA y t) n
  | 0 => rfl
  | n + 1 => by
    rw [List.range_succ, List.map_append, List.map_cons, List.map_nil, evA_snoc, evA_range y f n, List.length_map, List.length_range]
    rfl
theorem map_getD_range {β : Type} (d : β) (xs : List β) : (List.range xs.length).map (fun t => xs.getD t d) = xs := by
  apply List.ext_getElem
  · simp
  · intro i h1 h2
    rw [List.getElem_map, List.getElem_range, List.getD_eq_getElem?_getD, List.getElem?_eq_getElem h2]
    rfl
theorem evA_sum (y : α) (xs : List α) : evA y xs = sumA (fun t => xs.getD t 0 * pwA y t) xs.length := by
  have := evA_range y (fun t => xs.getD t 0) xs.length
  rw [map_getD_range] at this
  exact this
/-- the numbers of a product -/
def cfA (xs ys : List α) : Nat → Nat → α
  | 0, _ => 0
  | k + 1, t => if k ≤ t ∧ t - k < ys.length then cfA xs ys k t + xs.getD k 0 * ys.getD (t - k) 0 else cfA xs ys k t
def prA (xs ys : List α) : List α := (List.range (xs.length + ys.length - 1)).map (cfA xs ys xs.length)
theorem getD_out {xs : List α} {k : Nat} (h : xs.length ≤ k) : xs.getD k 0 = 0 := by
  rw [List.getD_eq_getElem?_getD, List.getElem?_eq_none h]
  rfl
theorem cfA_sum (xs ys : List α) (t : Nat) : ∀ k, cfA xs ys k t = sumA (fun j => if j ≤ t then xs.getD j 0 * ys.getD (t - j) 0 else 0) k
  | 0 => rfl
  | k + 1 => by
    unfold cfA
    simp only [sumA]
    rw [cfA_sum xs ys t k]
    by_cases h : k ≤ t
    · by_cases h2 : t - k < ys.length
      · rw [if_pos ⟨h, h2⟩, if_pos h]
      · rw [if_neg (fun z => h2 z.2), if_pos h, getD_out (by omega : ys.length ≤ t - k)]
        grind
    · rw [if_neg (fun z => h z.1), if_neg h]
      grind
theorem cfA_conv (xs ys : List α) (t : Nat) : cfA xs ys xs.length t = sumA (fun j => xs.getD j 0 * ys.getD (t - j) 0) (t + 1) := by
  rw [cfA_sum]
  by_cases h : xs.length ≤ t + 1
  · rw [sumA_congr (g := fun j => xs.getD j 0 * ys.getD (t - j) 0) fun j hj => by
      show (if j ≤ t then _ else _) = _
      rw [if_pos (by omega)]]
    refine (sumA_more h fun j h1 _ => ?_).symm
    show xs.getD j 0 * _ = 0
    rw [getD_out h1]
    grind
  · rw [sumA_more (n := t + 1) (m := xs.length) (by omega) fun j h1 _ => by
      show (if j ≤ t then _ else _) = _
      rw [if_neg (by omega)]]
    exact sumA_congr fun j hj => by
      show (if j ≤ t then _ else _) = _
      rw [if_pos (by omega)]
theorem cfA_comm (xs ys : List α) (t : Nat) : cfA xs ys xs.length t = cfA ys xs ys.length t := by
  rw [cfA_conv, cfA_conv, sumA_flip]
  refine sumA_congr fun j hj => ?_
  show xs.getD (t + 1 - 1 - j) 0 * ys.getD (t - (t + 1 - 1 - j)) 0 = ys.getD j 0 * xs.getD (t - j) 0
  rw [show t + 1 - 1 - j = t - j by omega, show t - (t - j) = j by omega]
  grind
theorem prA_comm (xs ys : List α) : prA xs ys = prA ys xs := by
  unfold prA
  rw [Nat.add_comm]
  exact List.map_congr_left fun t _ => cfA_comm xs ys t
theorem sumA_shift (y c : α) (ys : List α) (k : Nat) : ∀ N, sumA (fun t => (if k ≤ t ∧ t - k < ys.length then c * ys.getD (t - k) 0 else 0) * pwA y t) N = c * pwA y k * sumA (fun t => ys.getD t 0 * pwA y t) (min ys.length (N - k))
  | 0 => by
    have : min ys.length (0 - k) = 0 := by omega
    rw [this]
    simp only [sumA]
    grind
  | N + 1 => by
    simp only [sumA]
    rw [sumA_shift y c ys k N]
    by_cases h : k ≤ N
    · by_cases h2 : N - k < ys.length
      · rw [if_pos ⟨h, h2⟩]
        have e1 : min ys.length (N - k) = N - k := by omega
        have e2 : min ys.length (N + 1 - k) = (N - k) + 1 := by omega
        rw [e1, e2]
        simp only [sumA]
        have e3 : pwA y N = pwA y k * pwA y (N - k) := by
          rw [← pwA_add]
          congr 1
          omega
        rw [e3]
        grind
      · rw [if_neg (fun z => h2 z.2)]
        have e1 : min ys.length (N - k) = ys.length := by omega
        have e2 : min ys.length (N + 1 - k) = ys.length := by omega
        rw [e1, e2]
        grind
    · rw [if_neg (fun z => h z.1)]
      have e1 : min ys.length (N - k) = 0 := by omega
      have e2 : min ys.length (N + 1 - k) = 0 := by omega
      rw [e1, e2]
      grind
theorem ev_cf (y : α) (xs ys : List α) (N : Nat) : ∀ k, k + ys.length ≤ N + 1 → ys.length ≠ 0 → sumA (fun t => cfA xs ys k t * pwA y t) N = sumA (fun t => xs.getD t 0 * pwA y t) k * sumA (fun t => ys.getD t 0 * pwA y t) ys.length
  | 0, _, _ => by
    rw [sumA_congr (g := fun _ => (0 : α)) fun t _ => by
      show (0 : α) * _ = 0
      grind, sumA_zero]
    simp only [sumA]
    grind
  | k + 1, h, h0 => by
    have ih := ev_cf y xs ys N k (by omega) h0
    have e : sumA (fun t => cfA xs ys (k + 1) t * pwA y t) N = sumA (fun t => cfA xs ys k t * pwA y t + (if k ≤ t ∧ t - k < ys.length then xs.getD k 0 * ys.getD (t - k) 0 else 0) * pwA y t) N := sumA_congr fun t _ => by
      show cfA xs ys (k + 1) t * _ = _
      conv => lhs; unfold cfA
      by_cases z : k ≤ t ∧ t - k < ys.length
      · rw [if_pos z, if_pos z]; grind
      · rw [if_neg z, if_neg z]; grind
    rw [e, sumA_add, ih, sumA_shift]
    have e2 : min ys.length (N - k) = ys.length := by omega
    rw [e2]
    simp only [sumA]
    grind
theorem ev_pr (y : α) (xs ys : List α) (h1 : xs.length ≠ 0) (h2 : ys.length ≠ 0) : evA y (prA xs ys) = evA y xs * evA y ys := by
  unfold prA
  rw [evA_range, ev_cf y xs ys _ xs.length (by omega) h2, evA_sum, evA_sum]
end
/-! numbers of a ground as values of a ring -/
structure Gro (p : Int) (α : Type) [Lean.Grind.CommRing α] (φ : α → Nu) : Prop where
  zero : φ 0 = zeroN p
  add : ∀ a b, addN p (φ a) (φ b) = φ (a + b)
  mul : ∀ a b, mulN p (φ a) (φ b) = φ (a * b)
  all : ∀ x, NuOk p x → ∃ a, φ a = x
theorem gro_q : Gro 0 Rat Nu.q := ⟨rfl, fun _ _ => rfl, fun _ _ => rfl, fun x h => by
  cases x with
  | q a => exact ⟨a, rfl⟩
  | m a => exact absurd h.1 (by decide)⟩
theorem gro_m {p : Int} (hp : 0 < p) : Gro p Int (fun i => Nu.m (i % p)) := ⟨by
  show Nu.m (0 % p) = _
  unfold zeroN
  rw [if_neg (by omega), Int.zero_emod], fun a b => by
  show Nu.m ((a % p + b % p) % p) = _
  rw [← Int.add_emod], fun a b => by
  show Nu.m ((a % p) * (b % p) % p) = _
  rw [← Int.mul_emod], fun x h => by
  cases x with
  | q a => exact absurd (show p = 0 from h) (by omega)
  | m a => exact ⟨a, by show Nu.m (a % p) = _; rw [Int.emod_eq_of_lt h.2.1 h.2.2]⟩⟩
theorem all_map {α : Type} {φ : α → Nu} {p : Int} (ha : ∀ x, NuOk p x → ∃ a, φ a = x) : ∀ {xs : List Nu}, (∀ x ∈ xs, NuOk p x) → ∃ as : List α, as.map φ = xs
  | [], _ => ⟨[], rfl⟩
  | x :: xs, h => by
    obtain ⟨as, e⟩ := all_map ha (xs := xs) fun y hy => h y (List.mem_cons_of_mem _ hy)
    obtain ⟨a, e2⟩ := ha x (h x List.mem_cons_self)
    exact ⟨a :: as, by rw [List.map_cons, e, e2]⟩
theorem getD_map {α β : Type} (φ : α → β) (d : α) (xs : List α) (k : Nat) : (xs.map φ).getD k (φ d) = φ (xs.getD k d) := by
  rw [List.getD_eq_getElem?_getD, List.getD_eq_getElem?_getD, List.getElem?_map]
  cases xs[k]? <;> rfl
/-- a polynomial at a number -/
def worthN (p : Int) (y : Nu) (xs : List Nu) : Nu := xs.reverse.foldl (fun acc x => addN p (mulN p acc y) x) (zeroN p)
section
variable {p : Int} {α : Type} [Lean.Grind.CommRing α] {φ : α → Nu}
theorem worth_map (g : Gro p α φ) (y : α) : ∀ xs : List α, worthN p (φ y) (xs.map φ) = φ (evA y xs)
  | [] => g.zero.symm
  | x :: xs => by
    have ih := worth_map g y xs
    unfold worthN at ih ⊢
    rw [List.foldl_reverse] at ih ⊢
    rw [List.map_cons, List.foldr_cons, ih, g.mul, g.add]
    rfl
theorem coef_map (g : Gro p α φ) (xs ys : List α) (t : Nat) : ∀ k, coefN p (xs.map φ) (ys.map φ) k t = φ (cfA xs ys k t)
  | 0 => g.zero.symm
  | k + 1 => by
    unfold coefN cfA
    rw [coef_map g xs ys t k, ← g.zero, getD_map, getD_map, List.length_map]
    by_cases z : k ≤ t ∧ t - k < ys.length
    · rw [if_pos z, if_pos z, g.mul, g.add]
    · rw [if_neg z, if_neg z]
theorem mul_map (g : Gro p α φ) (xs ys : List α) (h1 : xs.length ≠ 0) (h2 : ys.length ≠ 0) : mulL p (xs.map φ) (ys.map φ) = (prA xs ys).map φ := by
  unfold mulL prA
  rw [List.length_map, List.length_map, if_neg (by omega), List.map_map]
  exact List.map_congr_left fun t _ => coef_map g xs ys t _
end
theorem mulL_nil_l {p : Int} {ys : List Nu} : mulL p [] ys = [] := by unfold mulL; rw [if_pos (.inl rfl)]
theorem mulL_nil_r {p : Int} {xs : List Nu} : mulL p xs [] = [] := by unfold mulL; rw [if_pos (.inr rfl)]
theorem zero_mul {p : Int} {x : Nu} (hx : NuOk p x) : mulN p (zeroN p) x = zeroN p := by
  unfold zeroN
  cases x with
  | q a =>
    have e : p = 0 := hx
    rw [if_pos e]
    simp only [mulN, Rat.zero_mul]
  | m a =>
    have := hx.1
    rw [if_neg (by omega)]
    simp only [mulN, Int.zero_mul, Int.zero_emod]
theorem mul_zero {p : Int} {x : Nu} (hx : NuOk p x) (hp : 0 ≤ p) : mulN p x (zeroN p) = zeroN p := by
  rw [mulN_comm hx (zero_ok hp), zero_mul hx]
theorem zero_add' {p : Int} {x : Nu} (hx : NuOk p x) : addN p (zeroN p) x = x := by
  unfold zeroN
  cases x with
  | q a =>
    have e : p = 0 := hx
    rw [if_pos e]
    simp only [addN, Rat.zero_add]
  | m a =>
    have := hx.1
    rw [if_neg (by omega)]
    simp only [addN, Int.zero_add]
    rw [Int.emod_eq_of_lt hx.2.1 hx.2.2]
theorem isZ_zero {p : Int} {x : Nu} (hx : NuOk p x) : isZ x = true ↔ x = zeroN p := by
  unfold zeroN
  cases x with
  | q a =>
    have e : p = 0 := hx
    rw [if_pos e]
    simp [isZ]
  | m a =>
    have := hx.1
    rw [if_neg (by omega)]
    simp [isZ]
theorem mul_nz {p : Int} {x y : Nu} (hp : Gd p) (hx : NuOk p x) (hy : NuOk p y) (zx : isZ x = false) (zy : isZ y = false) : isZ (mulN p x y) = false := by
  cases h : isZ (mulN p x y) with
  | false => rfl
  | true =>
    have e := (isZ_zero (ok_mul hx hy)).mp h
    have o := mul_over hp hx hy zy
    rw [e] at o
    unfold overN at o
    rw [zero_mul (ok_inv hp hy zy)] at o
    rw [(isZ_zero hx).mpr o.symm] at zx
    cases zx
theorem coef_last0 {p : Int} {xs ys : List Nu} (t : Nat) : ∀ k, k + ys.length ≤ t + 1 → coefN p xs ys k t = zeroN p
  | 0, _ => rfl
  | k + 1, h => by
    unfold coefN
    rw [if_neg (by omega), coef_last0 t k (by omega)]
theorem getLast_range_map {β : Type} (f : Nat → β) {n : Nat} (h : n ≠ 0) : ((List.range n).map f).getLast? = some (f (n - 1)) := by
  obtain ⟨m, rfl⟩ : ∃ m, n = m + 1 := ⟨n - 1, by omega⟩
  rw [List.range_succ, List.map_append, List.map_cons, List.map_nil, List.getLast?_append, List.getLast?_singleton]
  rfl
theorem mul_poly {p : Int} {xs ys : List Nu} (hp : Gd p) (hx : PolyOk p xs) (hy : PolyOk p ys) : PolyOk p (mulL p xs ys) := by
  refine ⟨fun x h => ?_, fun x h => ?_⟩
  · unfold mulL at h
    split at h
    · cases h
    · obtain ⟨t, _, rfl⟩ := List.mem_map.mp h
      exact coef_ok hp.lt.1 hx.all hy.all _ _
  · unfold mulL at h
    split at h
    · cases h
    · rename_i z
      rw [getLast_range_map _ (by omega)] at h
      cases h
      obtain ⟨n, en⟩ : ∃ n, xs.length = n + 1 := ⟨xs.length - 1, by omega⟩
      obtain ⟨m, em⟩ : ∃ m, ys.length = m + 1 := ⟨ys.length - 1, by omega⟩
      have hn : n < xs.length := by omega
      have hm : m < ys.length := by omega
      rw [en, em]
      have e1 : n + 1 + (m + 1) - 1 - 1 = n + m := by omega
      rw [e1]
      unfold coefN
      rw [if_pos ⟨by omega, by omega⟩, coef_last0 (n + m) n (by omega), show n + m - n = m by omega]
      have a1 : xs.getD n (zeroN p) = xs[n] := by rw [List.getD_eq_getElem?_getD, List.getElem?_eq_getElem hn]; rfl
      have a2 : ys.getD m (zeroN p) = ys[m] := by rw [List.getD_eq_getElem?_getD, List.getElem?_eq_getElem hm]; rfl
      rw [a1, a2]
      have o1 := hx.all xs[n] (List.getElem_mem hn)
      have o2 := hy.all ys[m] (List.getElem_mem hm)
      rw [zero_add' (ok_mul o1 o2)]
      refine mul_nz hp o1 o2 (hx.last _ ?_) (hy.last _ ?_)
      · rw [List.getLast?_eq_getElem?, en, show n + 1 - 1 = n from rfl, List.getElem?_eq_getElem hn]
      · rw [List.getLast?_eq_getElem?, em, show m + 1 - 1 = m from rfl, List.getElem?_eq_getElem hm]
theorem trimL_of {p : Int} {xs : List Nu} (h : PolyOk p xs) : trimL xs = xs := by
  rcases List.eq_nil_or_concat xs with rfl | ⟨ys, x, rfl⟩
  · rfl
  · rw [List.concat_eq_append] at h ⊢
    rw [trimL_snoc, if_neg]
    rw [h.last x (by rw [List.getLast?_append, List.getLast?_singleton]; rfl)]
    exact Bool.false_ne_true
theorem gd_cases {p : Int} (h : Gd p) : p = 0 ∨ 0 < p := by have := h.lt.1; omega
theorem mulL_comm {p : Int} {xs ys : List Nu} (hp : Gd p) (hx : ∀ x ∈ xs, NuOk p x) (hy : ∀ x ∈ ys, NuOk p x) : mulL p xs ys = mulL p ys xs := by
  by_cases z : xs.length = 0 ∨ ys.length = 0
  · unfold mulL
    rw [if_pos z, if_pos (by omega)]
  · rcases gd_cases hp with rfl | h
    · obtain ⟨as, rfl⟩ := all_map gro_q.all hx
      obtain ⟨bs, rfl⟩ := all_map gro_q.all hy
      rw [List.length_map, List.length_map] at z
      rw [mul_map gro_q _ _ (by omega) (by omega), mul_map gro_q _ _ (by omega) (by omega), prA_comm]
    · obtain ⟨as, rfl⟩ := all_map (gro_m h).all hx
      obtain ⟨bs, rfl⟩ := all_map (gro_m h).all hy
      rw [List.length_map, List.length_map] at z
      rw [mul_map (gro_m h) _ _ (by omega) (by omega), mul_map (gro_m h) _ _ (by omega) (by omega), prA_comm]
theorem worth_ok {p : Int} {y : Nu} (hp : 0 ≤ p) (hy : NuOk p y) {xs : List Nu} (hx : ∀ x ∈ xs, NuOk p x) : NuOk p (worthN p y xs) := by
  unfold worthN
  rw [List.foldl_reverse]
  induction xs with
  | nil => exact zero_ok hp
  | cons x xs ih =>
    rw [List.foldr_cons]
    exact ok_add (ok_mul (ih fun z hz => hx z (List.mem_cons_of_mem _ hz)) hy) (hx x List.mem_cons_self)
theorem worth_mul {p : Int} {xs ys : List Nu} {y : Nu} (hp : Gd p) (hx : ∀ x ∈ xs, NuOk p x) (hy : ∀ x ∈ ys, NuOk p x) (hz : NuOk p y) : worthN p y (mulL p xs ys) = mulN p (worthN p y xs) (worthN p y ys) := by
  have p0 := hp.lt.1
  by_cases z : xs.length = 0
  · have : xs = [] := List.length_eq_zero_iff.mp z
    subst this
    rw [mulL_nil_l]
    exact (zero_mul (worth_ok p0 hz hy)).symm
  by_cases z2 : ys.length = 0
  · have : ys = [] := List.length_eq_zero_iff.mp z2
    subst this
    rw [mulL_nil_r]
    exact (mul_zero (worth_ok p0 hz hx) p0).symm
  rcases gd_cases hp with rfl | h
  · obtain ⟨as, rfl⟩ := all_map gro_q.all hx
    obtain ⟨bs, rfl⟩ := all_map gro_q.all hy
    obtain ⟨c, rfl⟩ := gro_q.all _ hz
    rw [List.length_map] at z z2
    rw [mul_map gro_q _ _ z z2, worth_map gro_q, worth_map gro_q, worth_map gro_q, gro_q.mul, ev_pr _ _ _ z z2]
  · obtain ⟨as, rfl⟩ := all_map (gro_m h).all hx
    obtain ⟨bs, rfl⟩ := all_map (gro_m h).all hy
    obtain ⟨c, e⟩ := (gro_m h).all _ hz
    subst e
    rw [List.length_map] at z z2
    rw [mul_map (gro_m h) _ _ z z2]
    have w := worth_map (gro_m h) c
    rw [w, w, w]
    have m := (gro_m h).mul (evA c as) (evA c bs)
    rw [m, ev_pr _ _ _ z z2]
end L3

namespace L3
open PySem PySem.Spec L2
end L3

namespace L3
open PySem PySem.Spec L2
def c_PRIMES : D := .tup [.int 2, .int 3, .int 5, .int 7, .int 11, .int 13, .int 17, .int 19, .int 23, .int 29, .int 31, .int 37, .int 41, .int 43, .int 47, .int 53, .int 59, .int 61, .int 67, .int 71, .int 73, .int 79, .int 83, .int 89, .int 97]
def c_NOUGHT : D := .tup [.int 0, .int 1]
def sp__law_hand (K : PySem.W.Frag) : Sp3 := spA1 fun a M Q X => ∃ ns : List Int, a = .rol (ns.map D.int) ∧ ∀ h M', M h = none → MSub M M' → HandOk M' h → Q (.ref h) M'
abbrev N__law_hand : List Str := ["script", "cells", "cell"]
def tr__law_hand (K : PySem.W.Frag) : TS3 := (tSeq3 (tAsg3 (tLc3 (iSeq3 (tSl3 r3Sl (tVar3 0) tNoPart3 (tPart3 (tC3 (.int 63))))) (gName3 2) tYes3 (tCB3 c3Abs (tCons3 (tCB3 c3Int (tCons3 (tVar3 2) tNil3)) tNil3)) [2]) (gName3 1)) (tRet3 (tLst3 (tCons3 (tVar3 1) (tCons3 (tC3 (.int 0)) (tCons3 (tC3 (.int 0)) (tCons3 (tOp3 r3Add (tC3 (.int 1)) (tCB3 c3Len (tCons3 (tVar3 1) tNil3))) (tCons3 (tC3 (.int 0)) tNil3))))))))
theorem rd__law_hand (K : PySem.W.Frag) : ∀ ds M Q E, sp__law_hand K ds M Q E → tr__law_hand K (endF M Q E) (start3 N__law_hand ds) M := by
  rintro ds M Q E ⟨a, rfl, ns, rfl, q⟩
  unfold tr__law_hand
  simp only [start3, List.map_cons, List.map_nil, List.length_cons, List.length_nil, List.cons_append, List.nil_append, List.replicate_succ, List.replicate_zero, Nat.reduceAdd, Nat.reduceSub, Nat.zero_add]
  simp -implicitDefEqProofs only [r3Sl, ↓ex_bl, ↓ex_int, ↓ex_str, ↓ex_ref, ↓ex_tup, ↓ex_some, ↓ex_eq, ↓ex_eq', ↓ex_1, ↓ex_2, ↓ex_3, ↓ex_4, ↓ex_5, ↓ite_tt, ↓ite_ff, ↓v3_0, ↓v3_s, ↓eq_int, ↓ne_int, ↓eq_bl, ↓ne_bl, ↓eq_pair, ↓ne_pair, eqv_bool, eqv_str, ↓pow_lit, ↓ix_t0, ↓ix_t1, ↓ix_tup, ↓ix_it, ↓q_tC3, ↓q_tOp3, ↓q_tUn3, ↓q_tTest3, ↓q_tChain3, ↓q_tTruth3, ↓q_tAnd3, ↓q_tOr3, ↓q_tNot3, ↓q_tAndV3, ↓q_tOrV3, ↓q_tNotV3, ↓q_tIf3, ↓q_tNil3, ↓q_tCons3, ↓q_tTup3, ↓q_tLst3, ↓q_tNoPart3, ↓q_tPart3, ↓q_tSl3, ↓q_tRev3, ↓r3Rev_tup, ↓r3IsNot_bl, ↓r3Is_bl, ↓r3Sl_tup, ↓c3List_tup, ↓c3List_ref, ↓q_tCB3, ↓q_tBM3, ↓q_tBM03, ↓q_tNext3, ↓q_tSeq3, ↓q_tDrop3, ↓q_tRet3, ↓q_tRetN3, ↓q_tIfS3, ↓q_gName3, ↓gnil_eq, ↓gcons_eq, ↓q_gTup3, ↓q_gSub3, ↓q_tAsg3, ↓q_tPar3, ↓q_tYes3, ↓q_tCall3, ↓q_tTryAs3, ↓q_goneE_nx, ↓q_goneE_rt, ↓q_c3IsE, ↓is_bl, ↓c3Str_int, ↓q_tRaise3, ↓q_spA0, ↓q_spA1, ↓q_spA2, ↓q_spA3, ↓q_spA4, ↓q_spA5, ↓q_endF_rt, ↓q_endF_nx, ↓q_endF_xx, r3Lt, r3Le, r3Gt, r3Ge, r3Mod, r3Div, r3Pow, r3Sub, ↓r3I_int, ↓r3I0_int, ↓r3Add_int, ↓r3Add_tup, ↓r3Add_ref, ↓r3Mul_int, ↓r3Mul_ref, datD_non, ↓datD_bl, ↓datD_int, eqv_int, ↓items_tup, ↓items_rol, ↓items_new, ↓len_new, ↓mupd_same, L3.MO.lst.injEq, List.length_cons, List.length_nil, Nat.reduceAdd, Nat.zero_add, sizeLine_eq, Nat.reduceLeDiff, Nat.reducePow, Int.reduceLT, Int.reduceLE, Int.reducePow, Int.reduceToNat, Int.reduceNeg, Int.reduceAdd, Int.cast_ofNat_Int, Int.reduceSub, Int.reduceMul, Nat.reduceMul, Nat.reduceLT, cpow_lit, List.length_append, List.length_map, ↓u3Neg_int, fdiv_pos, ↓q_tDict0, ix_1_0, ix_2_0, ix_2_1, ix_3_0, ix_3_1, ix_3_2, ix_4_0, ix_4_1, ix_4_2, ix_4_3, ix_5_0, ix_5_1, ix_5_2, ix_5_3, ix_5_4, decide_eq_false_iff_not, ↓lc_seq, ↓lc_r1, ↓lc_r2, ↓for_seq, ↓for_r1, ↓for_r2, ↓c3Tuple_it, ↓c3Min2_int, ↓c3Max2_int, ↓m3Pop_ref, ↓lc_zip, ↓for_zip, ↓lc_enum, ↓for_enum, ↓q_tAug3, r3AddI, ↓datD_pair, datD_pair, eqv_pair, ↓m3Index_ref, wipe3, ↓len_tup, ↓len_rol, ↓c3Len_tup, ↓c3Len_rol, ↓c3Len_ref, ↓c3Int_int, ↓c3Int_bl, ↓c3Abs_int, ↓c3All_ref, ↓c3Any_ref, ↓c3Isi_tl, ↓c3Isi_ty, ↓m3Append_ref, ↓s3Lst_ref, ↓r3Is_non, ↓r3IsNot_non, atI_0, atI_1, atI_2, atI_3, atI_4, tyD_tup, tyD_int, tyD_bl, mc_bool, mc_int, mc_str, mc_tuple, mc_list, mc_dict, ib_NoneType_bool, ib_NoneType_int, ib_NoneType_str, ib_NoneType_tuple, ib_NoneType_list, ib_NoneType_dict, ib_bool_bool, ib_bool_int, ib_bool_str, ib_bool_tuple, ib_bool_list, ib_bool_dict, ib_int_bool, ib_int_int, ib_int_str, ib_int_tuple, ib_int_list, ib_int_dict, ib_str_bool, ib_str_int, ib_str_str, ib_str_tuple, ib_str_list, ib_str_dict, ib_tuple_bool, ib_tuple_int, ib_tuple_str, ib_tuple_tuple, ib_tuple_list, ib_tuple_dict, ib_list_bool, ib_list_int, ib_list_str, ib_list_tuple, ib_list_list, ib_list_dict, ib_dict_bool, ib_dict_int, ib_dict_str, ib_dict_tuple, ib_dict_list, ib_dict_dict, tyD_str, tyD_non, tyD_rol, Bool.or_false, Bool.false_or, Bool.or_true, Bool.true_or, ↓truD_bl, ↓truD_int, List.getElem?_cons_zero, List.getElem?_cons_succ, List.set_cons_zero, List.set_cons_succ, Option.some.injEq, L3.D.bl.injEq, L3.D.int.injEq, L3.D.ref.injEq, L3.D.tup.injEq, L3.D.ty.injEq, L3.D.str.injEq, List.cons.injEq, and_true, true_and, exists_eq_left, exists_eq_left', exists_eq, exists_eq', exists_and_left, exists_and_right, exists_const, and_assoc, exists_eq_right_right, exists_eq_right, ↓ite_both, decide_eq_true_eq, reduceCtorEq, false_and, and_false, exists_false, not_false_eq_true, not_true_eq_false, Bool.false_eq_true, implies_true, forall_const, true_implies, false_implies, Bool.not_eq_true, Bool.not_true, Bool.not_false, decide_true, decide_false, Bool.not_eq_true', Bool.not_eq_false', Bool.not_eq_false, if_true, if_false, Bool.and_true, Bool.true_and, Bool.and_false, Bool.false_and, r3Eq, r3Ne]
  intro l hl
  have ec : cutD (ns.map D.int) none (some 63) = (ns.take 63).map D.int := by
    have : HT.sIx (ns.map D.int).length (ns.map D.int).length (some 63) = min 63 ns.length := by
      rw [List.length_map]
      exact HT.sIx_nat _ _ 63
    unfold cutD
    rw [this, HT.sIx_none, List.drop_zero, Nat.sub_zero, ← List.map_take]
    congr 1
    rw [List.take_eq_take_iff]
    omega
  rw [ec]
  refine lcb_map (fun d => match d with | .int i => .int (i.natAbs : Int) | d => d) items_new ?_ ?_ ?_
  · rw [List.length_map, List.length_take]
    exact Nat.le_trans (Nat.min_le_left _ _) (by decide)
  · intro i d R hd hR
    obtain ⟨n, rfl⟩ : ∃ n, d = .int n := by
      rw [List.getElem?_map] at hd
      cases z : (ns.take 63)[i]? with
      | none => rw [z] at hd; cases hd
      | some n => rw [z] at hd; exact ⟨n, (Option.some.inj hd).symm⟩
    simp -implicitDefEqProofs only [↓ex_bl, ↓ex_int, ↓ex_str, ↓ex_ref, ↓ex_tup, ↓ex_some, ↓ex_eq, ↓ex_eq', ↓ex_1, ↓ex_2, ↓ex_3, ↓ex_4, ↓ex_5, ↓ite_tt, ↓ite_ff, ↓v3_0, ↓v3_s, ↓eq_int, ↓ne_int, ↓eq_bl, ↓ne_bl, ↓eq_pair, ↓ne_pair, eqv_bool, eqv_str, ↓pow_lit, ↓ix_t0, ↓ix_t1, ↓ix_tup, ↓ix_it, ↓q_tC3, ↓q_tOp3, ↓q_tUn3, ↓q_tTest3, ↓q_tChain3, ↓q_tTruth3, ↓q_tAnd3, ↓q_tOr3, ↓q_tNot3, ↓q_tAndV3, ↓q_tOrV3, ↓q_tNotV3, ↓q_tIf3, ↓q_tNil3, ↓q_tCons3, ↓q_tTup3, ↓q_tLst3, ↓q_tNoPart3, ↓q_tPart3, ↓q_tSl3, ↓q_tRev3, ↓r3Rev_tup, ↓r3IsNot_bl, ↓r3Is_bl, ↓r3Sl_tup, ↓c3List_tup, ↓c3List_ref, ↓q_tCB3, ↓q_tBM3, ↓q_tBM03, ↓q_tNext3, ↓q_tSeq3, ↓q_tDrop3, ↓q_tRet3, ↓q_tRetN3, ↓q_tIfS3, ↓q_gName3, ↓gnil_eq, ↓gcons_eq, ↓q_gTup3, ↓q_gSub3, ↓q_tAsg3, ↓q_tPar3, ↓q_tYes3, ↓q_tCall3, ↓q_tTryAs3, ↓q_goneE_nx, ↓q_goneE_rt, ↓q_c3IsE, ↓is_bl, ↓c3Str_int, ↓q_tRaise3, ↓q_spA0, ↓q_spA1, ↓q_spA2, ↓q_spA3, ↓q_spA4, ↓q_spA5, ↓q_endF_rt, ↓q_endF_nx, ↓q_endF_xx, r3Lt, r3Le, r3Gt, r3Ge, r3Mod, r3Div, r3Pow, r3Sub, ↓r3I_int, ↓r3I0_int, ↓r3Add_int, ↓r3Add_tup, ↓r3Add_ref, ↓r3Mul_int, ↓r3Mul_ref, datD_non, ↓datD_bl, ↓datD_int, eqv_int, ↓items_tup, ↓items_rol, ↓items_new, ↓len_new, ↓mupd_same, L3.MO.lst.injEq, List.length_cons, List.length_nil, Nat.reduceAdd, Nat.zero_add, sizeLine_eq, Nat.reduceLeDiff, Nat.reducePow, Int.reduceLT, Int.reduceLE, Int.reducePow, Int.reduceToNat, Int.reduceNeg, Int.reduceAdd, Int.cast_ofNat_Int, Int.reduceSub, Int.reduceMul, Nat.reduceMul, Nat.reduceLT, cpow_lit, List.length_append, List.length_map, ↓u3Neg_int, fdiv_pos, ↓q_tDict0, ix_1_0, ix_2_0, ix_2_1, ix_3_0, ix_3_1, ix_3_2, ix_4_0, ix_4_1, ix_4_2, ix_4_3, ix_5_0, ix_5_1, ix_5_2, ix_5_3, ix_5_4, decide_eq_false_iff_not, ↓lc_seq, ↓lc_r1, ↓lc_r2, ↓for_seq, ↓for_r1, ↓for_r2, ↓c3Tuple_it, ↓c3Min2_int, ↓c3Max2_int, ↓m3Pop_ref, ↓lc_zip, ↓for_zip, ↓lc_enum, ↓for_enum, ↓q_tAug3, r3AddI, ↓datD_pair, datD_pair, eqv_pair, ↓m3Index_ref, wipe3, ↓len_tup, ↓len_rol, ↓c3Len_tup, ↓c3Len_rol, ↓c3Len_ref, ↓c3Int_int, ↓c3Int_bl, ↓c3Abs_int, ↓c3All_ref, ↓c3Any_ref, ↓c3Isi_tl, ↓c3Isi_ty, ↓m3Append_ref, ↓s3Lst_ref, ↓r3Is_non, ↓r3IsNot_non, atI_0, atI_1, atI_2, atI_3, atI_4, tyD_tup, tyD_int, tyD_bl, mc_bool, mc_int, mc_str, mc_tuple, mc_list, mc_dict, ib_NoneType_bool, ib_NoneType_int, ib_NoneType_str, ib_NoneType_tuple, ib_NoneType_list, ib_NoneType_dict, ib_bool_bool, ib_bool_int, ib_bool_str, ib_bool_tuple, ib_bool_list, ib_bool_dict, ib_int_bool, ib_int_int, ib_int_str, ib_int_tuple, ib_int_list, ib_int_dict, ib_str_bool, ib_str_int, ib_str_str, ib_str_tuple, ib_str_list, ib_str_dict, ib_tuple_bool, ib_tuple_int, ib_tuple_str, ib_tuple_tuple, ib_tuple_list, ib_tuple_dict, ib_list_bool, ib_list_int, ib_list_str, ib_list_tuple, ib_list_list, ib_list_dict, ib_dict_bool, ib_dict_int, ib_dict_str, ib_dict_tuple, ib_dict_list, ib_dict_dict, tyD_str, tyD_non, tyD_rol, Bool.or_false, Bool.false_or, Bool.or_true, Bool.true_or, ↓truD_bl, ↓truD_int, List.getElem?_cons_zero, List.getElem?_cons_succ, List.set_cons_zero, List.set_cons_succ, Option.some.injEq, L3.D.bl.injEq, L3.D.int.injEq, L3.D.ref.injEq, L3.D.tup.injEq, L3.D.ty.injEq, L3.D.str.injEq, List.cons.injEq, and_true, true_and, exists_eq_left, exists_eq_left', exists_eq, exists_eq', exists_and_left, exists_and_right, exists_const, and_assoc, exists_eq_right_right, exists_eq_right, ↓ite_both, decide_eq_true_eq, reduceCtorEq, false_and, and_false, exists_false, not_false_eq_true, not_true_eq_false, Bool.false_eq_true, implies_true, forall_const, true_implies, false_implies, Bool.not_eq_true, Bool.not_true, Bool.not_false, decide_true, decide_false, Bool.not_eq_true', Bool.not_eq_false', Bool.not_eq_false, if_true, if_false, Bool.and_true, Bool.true_and, Bool.and_false, Bool.false_and, r3Eq, r3Ne]
    exact hR
  · intro c hc
    have ev : ((ns.take 63).map D.int).map (fun d => match d with | .int i => .int (i.natAbs : Int) | d => d) = ((ns.take 63).map fun i => (i.natAbs : Int)).map D.int := by
      rw [List.map_map, List.map_map]
      rfl
    rw [ev]
    simp -implicitDefEqProofs only [↓ex_bl, ↓ex_int, ↓ex_str, ↓ex_ref, ↓ex_tup, ↓ex_some, ↓ex_eq, ↓ex_eq', ↓ex_1, ↓ex_2, ↓ex_3, ↓ex_4, ↓ex_5, ↓ite_tt, ↓ite_ff, ↓v3_0, ↓v3_s, ↓eq_int, ↓ne_int, ↓eq_bl, ↓ne_bl, ↓eq_pair, ↓ne_pair, eqv_bool, eqv_str, ↓pow_lit, ↓ix_t0, ↓ix_t1, ↓ix_tup, ↓ix_it, ↓q_tC3, ↓q_tOp3, ↓q_tUn3, ↓q_tTest3, ↓q_tChain3, ↓q_tTruth3, ↓q_tAnd3, ↓q_tOr3, ↓q_tNot3, ↓q_tAndV3, ↓q_tOrV3, ↓q_tNotV3, ↓q_tIf3, ↓q_tNil3, ↓q_tCons3, ↓q_tTup3, ↓q_tLst3, ↓q_tNoPart3, ↓q_tPart3, ↓q_tSl3, ↓q_tRev3, ↓r3Rev_tup, ↓r3IsNot_bl, ↓r3Is_bl, ↓r3Sl_tup, ↓c3List_tup, ↓c3List_ref, ↓q_tCB3, ↓q_tBM3, ↓q_tBM03, ↓q_tNext3, ↓q_tSeq3, ↓q_tDrop3, ↓q_tRet3, ↓q_tRetN3, ↓q_tIfS3, ↓q_gName3, ↓gnil_eq, ↓gcons_eq, ↓q_gTup3, ↓q_gSub3, ↓q_tAsg3, ↓q_tPar3, ↓q_tYes3, ↓q_tCall3, ↓q_tTryAs3, ↓q_goneE_nx, ↓q_goneE_rt, ↓q_c3IsE, ↓is_bl, ↓c3Str_int, ↓q_tRaise3, ↓q_spA0, ↓q_spA1, ↓q_spA2, ↓q_spA3, ↓q_spA4, ↓q_spA5, ↓q_endF_rt, ↓q_endF_nx, ↓q_endF_xx, r3Lt, r3Le, r3Gt, r3Ge, r3Mod, r3Div, r3Pow, r3Sub, ↓r3I_int, ↓r3I0_int, ↓r3Add_int, ↓r3Add_tup, ↓r3Add_ref, ↓r3Mul_int, ↓r3Mul_ref, datD_non, ↓datD_bl, ↓datD_int, eqv_int, ↓items_tup, ↓items_rol, ↓items_new, ↓len_new, ↓mupd_same, L3.MO.lst.injEq, List.length_cons, List.length_nil, Nat.reduceAdd, Nat.zero_add, sizeLine_eq, Nat.reduceLeDiff, Nat.reducePow, Int.reduceLT, Int.reduceLE, Int.reducePow, Int.reduceToNat, Int.reduceNeg, Int.reduceAdd, Int.cast_ofNat_Int, Int.reduceSub, Int.reduceMul, Nat.reduceMul, Nat.reduceLT, cpow_lit, List.length_append, List.length_map, ↓u3Neg_int, fdiv_pos, ↓q_tDict0, ix_1_0, ix_2_0, ix_2_1, ix_3_0, ix_3_1, ix_3_2, ix_4_0, ix_4_1, ix_4_2, ix_4_3, ix_5_0, ix_5_1, ix_5_2, ix_5_3, ix_5_4, decide_eq_false_iff_not, ↓lc_seq, ↓lc_r1, ↓lc_r2, ↓for_seq, ↓for_r1, ↓for_r2, ↓c3Tuple_it, ↓c3Min2_int, ↓c3Max2_int, ↓m3Pop_ref, ↓lc_zip, ↓for_zip, ↓lc_enum, ↓for_enum, ↓q_tAug3, r3AddI, ↓datD_pair, datD_pair, eqv_pair, ↓m3Index_ref, wipe3, ↓len_tup, ↓len_rol, ↓c3Len_tup, ↓c3Len_rol, ↓c3Len_ref, ↓c3Int_int, ↓c3Int_bl, ↓c3Abs_int, ↓c3All_ref, ↓c3Any_ref, ↓c3Isi_tl, ↓c3Isi_ty, ↓m3Append_ref, ↓s3Lst_ref, ↓r3Is_non, ↓r3IsNot_non, atI_0, atI_1, atI_2, atI_3, atI_4, tyD_tup, tyD_int, tyD_bl, mc_bool, mc_int, mc_str, mc_tuple, mc_list, mc_dict, ib_NoneType_bool, ib_NoneType_int, ib_NoneType_str, ib_NoneType_tuple, ib_NoneType_list, ib_NoneType_dict, ib_bool_bool, ib_bool_int, ib_bool_str, ib_bool_tuple, ib_bool_list, ib_bool_dict, ib_int_bool, ib_int_int, ib_int_str, ib_int_tuple, ib_int_list, ib_int_dict, ib_str_bool, ib_str_int, ib_str_str, ib_str_tuple, ib_str_list, ib_str_dict, ib_tuple_bool, ib_tuple_int, ib_tuple_str, ib_tuple_tuple, ib_tuple_list, ib_tuple_dict, ib_list_bool, ib_list_int, ib_list_str, ib_list_tuple, ib_list_list, ib_list_dict, ib_dict_bool, ib_dict_int, ib_dict_str, ib_dict_tuple, ib_dict_list, ib_dict_dict, tyD_str, tyD_non, tyD_rol, Bool.or_false, Bool.false_or, Bool.or_true, Bool.true_or, ↓truD_bl, ↓truD_int, List.getElem?_cons_zero, List.getElem?_cons_succ, List.set_cons_zero, List.set_cons_succ, Option.some.injEq, L3.D.bl.injEq, L3.D.int.injEq, L3.D.ref.injEq, L3.D.tup.injEq, L3.D.ty.injEq, L3.D.str.injEq, List.cons.injEq, and_true, true_and, exists_eq_left, exists_eq_left', exists_eq, exists_eq', exists_and_left, exists_and_right, exists_const, and_assoc, exists_eq_right_right, exists_eq_right, ↓ite_both, decide_eq_true_eq, reduceCtorEq, false_and, and_false, exists_false, not_false_eq_true, not_true_eq_false, Bool.false_eq_true, implies_true, forall_const, true_implies, false_implies, Bool.not_eq_true, Bool.not_true, Bool.not_false, decide_true, decide_false, Bool.not_eq_true', Bool.not_eq_false', Bool.not_eq_false, if_true, if_false, Bool.and_true, Bool.true_and, Bool.and_false, Bool.false_and, r3Eq, r3Ne]
    intro h hh
    have s1 : MSub M (mupd M l (.lst ((ns.take 63).map D.int))) := MSub.new .refl hl
    have s2 := s1.new (o := .lst (((ns.take 63).map fun i => (i.natAbs : Int)).map D.int)) hc
    have s3 := s2.new (o := .lst [D.ref c, .int 0, .int 0, .int (1 + ((ns.take 63).length : Nat)), .int 0]) hh
    have nh : M h = none := by
      cases z : M h with
      | none => rfl
      | some m => rw [s2 h m z] at hh; cases hh
    have nch : c ≠ h := fun z => by rw [← z, mupd_same] at hh; cases hh
    refine HStep.ret' s3 (q h _ nh s3 ⟨c, (ns.take 63).map fun i => (i.natAbs : Int), 0, 0, _, 0, nch, mupd_same, ?_, Int.le_refl _⟩)
    rw [mupd_ne nch]
    exact mupd_same

abbrev sp__law_draw (K : PySem.W.Frag) : Sp3 := spDraw
abbrev N__law_draw : List Str := ["hand", "many", "cell", "digit", "number"]
def tr__law_draw (K : PySem.W.Frag) : TS3 := (tCut3 (tIfS3 (tAnd3 (tTest3 (tOp3 r3Eq (tOp3 r3Ix (tVar3 0) (tC3 (.int 2))) (tC3 (.int 0)))) (tTest3 (tOp3 r3Lt (tOp3 r3Ix (tVar3 0) (tC3 (.int 1))) (tCB3 c3Len (tCons3 (tOp3 r3Ix (tVar3 0) (tC3 (.int 0))) tNil3))))) (tSeq3 (tAsg3 (tOp3 r3Ix (tOp3 r3Ix (tVar3 0) (tC3 (.int 0))) (tOp3 r3Ix (tVar3 0) (tC3 (.int 1)))) (gName3 2)) (tSeq3 (tAsg3 (tOp3 r3Add (tOp3 r3Ix (tVar3 0) (tC3 (.int 1))) (tC3 (.int 1))) (gSub3 (tVar3 0) (tC3 (.int 1)) s3Lst)) (tSeq3 (tAsg3 (tOp3 r3Mod (tCB3 c3Int (tCons3 (tOp3 r3Add (tOp3 r3Add (tOp3 r3Mul (tOp3 r3Ix (tVar3 0) (tC3 (.int 3))) (tC3 (.int 69621))) (tVar3 2)) (tC3 (.int 11))) tNil3)) (tC3 (.int 2147483629))) (gSub3 (tVar3 0) (tC3 (.int 3)) s3Lst)) (tIfS3 (tTest3 (tOp3 r3Ge (tVar3 2) (tOp3 r3Pow (tC3 (.int 10)) (tC3 (.int 18))))) (tAsg3 (tVar3 2) (gSub3 (tVar3 0) (tC3 (.int 2)) s3Lst)) tNext3)))) tNext3) (tSeq3 (tIfS3 (tTest3 (tOp3 r3Gt (tOp3 r3Ix (tVar3 0) (tC3 (.int 2))) (tC3 (.int 0)))) (tSeq3 (tAsg3 (tOp3 r3Mod (tCB3 c3Int (tCons3 (tOp3 r3Ix (tVar3 0) (tC3 (.int 2))) tNil3)) (tVar3 1)) (gName3 3)) (tSeq3 (tAsg3 (tOp3 r3Div (tOp3 r3Ix (tVar3 0) (tC3 (.int 2))) (tVar3 1)) (gSub3 (tVar3 0) (tC3 (.int 2)) s3Lst)) (tRet3 (tVar3 3)))) tNext3) (tSeq3 (tAsg3 (tOp3 r3Add (tOp3 r3Ix (tVar3 0) (tC3 (.int 4))) (tC3 (.int 1))) (gSub3 (tVar3 0) (tC3 (.int 4)) s3Lst)) (tSeq3 (tAsg3 (tOp3 r3Mod (tCB3 c3Int (tCons3 (tOp3 r3Mul (tCB3 c3Int (tCons3 (tOp3 r3Add (tOp3 r3Ix (tVar3 0) (tC3 (.int 3))) (tOp3 r3Mul (tC3 (.int 7919)) (tOp3 r3Ix (tVar3 0) (tC3 (.int 4))))) tNil3)) (tC3 (.int 48271))) tNil3)) (tC3 (.int 2147483647))) (gName3 4)) (tSeq3 (tAsg3 (tOp3 r3Mod (tCB3 c3Int (tCons3 (tOp3 r3Mul (tVar3 4) (tOp3 r3Add (tOp3 r3Div (tVar3 4) (tC3 (.int 1009))) (tC3 (.int 69621)))) tNil3)) (tC3 (.int 2147483647))) (gName3 4)) (tSeq3 (tAsg3 (tOp3 r3Mod (tCB3 c3Int (tCons3 (tOp3 r3Mul (tVar3 4) (tOp3 r3Add (tOp3 r3Div (tVar3 4) (tC3 (.int 2003))) (tC3 (.int 40692)))) tNil3)) (tC3 (.int 2147483399))) (gName3 4)) (tRet3 (tOp3 r3Mod (tCB3 c3Int (tCons3 (tOp3 r3Div (tVar3 4) (tC3 (.int 16))) tNil3)) (tVar3 1)))))))))
theorem hand_set {M : Mm} {h c : Addr} {cs : List Int} {a b x y a' b' x' y' : Int} (n : c ≠ h) (e1 : M h = some (.lst [.ref c, .int a, .int b, .int x, .int y])) (e2 : M c = some (.lst (cs.map D.int))) (z : 0 ≤ a') :
    HStep h M (mupd M h (.lst [.ref c, .int a', .int b', .int x', .int y'])) :=
  ⟨⟨c, cs, a', b', x', y', n, mupd_same, by rw [mupd_ne n]; exact e2, z⟩, fun p m q e => by rw [mupd_ne q]; exact e⟩
theorem rd__law_draw (K : PySem.W.Frag) : ∀ ds M Q E, sp__law_draw K ds M Q E → tr__law_draw K (endF M Q E) (start3 N__law_draw ds) M := by
  rintro ds M Q E ⟨d1, d2, rfl, h, rfl, n, rfl, n0, n1, hk, q⟩
  unfold tr__law_draw tCut3
  simp only [start3, List.map_cons, List.map_nil, List.length_cons, List.length_nil, List.cons_append, List.nil_append, List.replicate_succ, List.replicate_zero, Nat.reduceAdd, Nat.reduceSub, Nat.zero_add]
  refine ⟨fun σ' M' => σ' = [some (.ref h), some (.int n), none, none, none] ∧ HStep h M M', ?_, ?_⟩
  · have s0 : HStep h M M := .refl hk
    obtain ⟨c, cs, a, b, x, y, nc, e1, e2, z⟩ := hk
    have out : ∀ v M', HStep h M M' → Nx3 M (fun σ' M' => σ' = [some (.ref h), some (.int n), none, none, none] ∧ HStep h M M') [some (.ref h), some (.int n), v, none, none] M' :=
      fun v M' s => ⟨[some (.ref h), some (.int n), none, none, none], M', wks_cons (.inr rfl) (wks_cons (.inr rfl) (wks_cons (.inl rfl) (wks_cons (.inr rfl) (wks_cons (.inr rfl) wks_nil)))), .refl s.dom, rfl, s⟩
    simp -implicitDefEqProofs only [items_ref e1, len_ref e2, items_ref e2, e1, List.length_map, ↓ex_bl, ↓ex_int, ↓ex_str, ↓ex_ref, ↓ex_tup, ↓ex_some, ↓ex_eq, ↓ex_eq', ↓ex_1, ↓ex_2, ↓ex_3, ↓ex_4, ↓ex_5, ↓ite_tt, ↓ite_ff, ↓v3_0, ↓v3_s, ↓eq_int, ↓ne_int, ↓eq_bl, ↓ne_bl, ↓eq_pair, ↓ne_pair, eqv_bool, eqv_str, ↓pow_lit, ↓ix_t0, ↓ix_t1, ↓ix_tup, ↓ix_it, ↓q_tC3, ↓q_tOp3, ↓q_tUn3, ↓q_tTest3, ↓q_tChain3, ↓q_tTruth3, ↓q_tAnd3, ↓q_tOr3, ↓q_tNot3, ↓q_tAndV3, ↓q_tOrV3, ↓q_tNotV3, ↓q_tIf3, ↓q_tNil3, ↓q_tCons3, ↓q_tTup3, ↓q_tLst3, ↓q_tNoPart3, ↓q_tPart3, ↓q_tSl3, ↓q_tRev3, ↓r3Rev_tup, ↓r3IsNot_bl, ↓r3Is_bl, ↓r3Sl_tup, ↓c3List_tup, ↓c3List_ref, ↓q_tCB3, ↓q_tBM3, ↓q_tBM03, ↓q_tNext3, ↓q_tSeq3, ↓q_tDrop3, ↓q_tRet3, ↓q_tRetN3, ↓q_tIfS3, ↓q_gName3, ↓gnil_eq, ↓gcons_eq, ↓q_gTup3, ↓q_gSub3, ↓q_tAsg3, ↓q_tPar3, ↓q_tYes3, ↓q_tCall3, ↓q_tTryAs3, ↓q_goneE_nx, ↓q_goneE_rt, ↓q_c3IsE, ↓is_bl, ↓c3Str_int, ↓q_tRaise3, ↓q_spA0, ↓q_spA1, ↓q_spA2, ↓q_spA3, ↓q_spA4, ↓q_spA5, ↓q_endF_rt, ↓q_endF_nx, ↓q_endF_xx, r3Lt, r3Le, r3Gt, r3Ge, r3Mod, r3Div, r3Pow, r3Sub, ↓r3I_int, ↓r3I0_int, ↓r3Add_int, ↓r3Add_tup, ↓r3Add_ref, ↓r3Mul_int, ↓r3Mul_ref, datD_non, ↓datD_bl, ↓datD_int, eqv_int, ↓items_tup, ↓items_rol, ↓items_new, ↓len_new, ↓mupd_same, L3.MO.lst.injEq, List.length_cons, List.length_nil, Nat.reduceAdd, Nat.zero_add, sizeLine_eq, Nat.reduceLeDiff, Nat.reducePow, Int.reduceLT, Int.reduceLE, Int.reducePow, Int.reduceToNat, Int.reduceNeg, Int.reduceAdd, Int.cast_ofNat_Int, Int.reduceSub, Int.reduceMul, Nat.reduceMul, Nat.reduceLT, cpow_lit, List.length_append, List.length_map, ↓u3Neg_int, fdiv_pos, ↓q_tDict0, ix_1_0, ix_2_0, ix_2_1, ix_3_0, ix_3_1, ix_3_2, ix_4_0, ix_4_1, ix_4_2, ix_4_3, ix_5_0, ix_5_1, ix_5_2, ix_5_3, ix_5_4, decide_eq_false_iff_not, ↓lc_seq, ↓lc_r1, ↓lc_r2, ↓for_seq, ↓for_r1, ↓for_r2, ↓c3Tuple_it, ↓c3Min2_int, ↓c3Max2_int, ↓m3Pop_ref, ↓lc_zip, ↓for_zip, ↓lc_enum, ↓for_enum, ↓q_tAug3, r3AddI, ↓datD_pair, datD_pair, eqv_pair, ↓m3Index_ref, wipe3, ↓len_tup, ↓len_rol, ↓c3Len_tup, ↓c3Len_rol, ↓c3Len_ref, ↓c3Int_int, ↓c3Int_bl, ↓c3Abs_int, ↓c3All_ref, ↓c3Any_ref, ↓c3Isi_tl, ↓c3Isi_ty, ↓m3Append_ref, ↓s3Lst_ref, ↓r3Is_non, ↓r3IsNot_non, atI_0, atI_1, atI_2, atI_3, atI_4, tyD_tup, tyD_int, tyD_bl, mc_bool, mc_int, mc_str, mc_tuple, mc_list, mc_dict, ib_NoneType_bool, ib_NoneType_int, ib_NoneType_str, ib_NoneType_tuple, ib_NoneType_list, ib_NoneType_dict, ib_bool_bool, ib_bool_int, ib_bool_str, ib_bool_tuple, ib_bool_list, ib_bool_dict, ib_int_bool, ib_int_int, ib_int_str, ib_int_tuple, ib_int_list, ib_int_dict, ib_str_bool, ib_str_int, ib_str_str, ib_str_tuple, ib_str_list, ib_str_dict, ib_tuple_bool, ib_tuple_int, ib_tuple_str, ib_tuple_tuple, ib_tuple_list, ib_tuple_dict, ib_list_bool, ib_list_int, ib_list_str, ib_list_tuple, ib_list_list, ib_list_dict, ib_dict_bool, ib_dict_int, ib_dict_str, ib_dict_tuple, ib_dict_list, ib_dict_dict, tyD_str, tyD_non, tyD_rol, Bool.or_false, Bool.false_or, Bool.or_true, Bool.true_or, ↓truD_bl, ↓truD_int, List.getElem?_cons_zero, List.getElem?_cons_succ, List.set_cons_zero, List.set_cons_succ, Option.some.injEq, L3.D.bl.injEq, L3.D.int.injEq, L3.D.ref.injEq, L3.D.tup.injEq, L3.D.ty.injEq, L3.D.str.injEq, List.cons.injEq, and_true, true_and, exists_eq_left, exists_eq_left', exists_eq, exists_eq', exists_and_left, exists_and_right, exists_const, and_assoc, exists_eq_right_right, exists_eq_right, ↓ite_both, decide_eq_true_eq, reduceCtorEq, false_and, and_false, exists_false, not_false_eq_true, not_true_eq_false, Bool.false_eq_true, implies_true, forall_const, true_implies, false_implies, Bool.not_eq_true, Bool.not_true, Bool.not_false, decide_true, decide_false, Bool.not_eq_true', Bool.not_eq_false', Bool.not_eq_false, if_true, if_false, Bool.and_true, Bool.true_and, Bool.and_false, Bool.false_and, r3Eq, r3Ne]
    refine ⟨fun _ => ⟨fun hl => ?_, fun _ => out _ _ s0⟩, fun _ => out _ _ s0⟩
    obtain ⟨v, ev, _⟩ := atI_map_int z hl
    refine ⟨_, ev, ?_⟩
    simp -implicitDefEqProofs only [↓ex_bl, ↓ex_int, ↓ex_str, ↓ex_ref, ↓ex_tup, ↓ex_some, ↓ex_eq, ↓ex_eq', ↓ex_1, ↓ex_2, ↓ex_3, ↓ex_4, ↓ex_5, ↓ite_tt, ↓ite_ff, ↓v3_0, ↓v3_s, ↓eq_int, ↓ne_int, ↓eq_bl, ↓ne_bl, ↓eq_pair, ↓ne_pair, eqv_bool, eqv_str, ↓pow_lit, ↓ix_t0, ↓ix_t1, ↓ix_tup, ↓ix_it, ↓q_tC3, ↓q_tOp3, ↓q_tUn3, ↓q_tTest3, ↓q_tChain3, ↓q_tTruth3, ↓q_tAnd3, ↓q_tOr3, ↓q_tNot3, ↓q_tAndV3, ↓q_tOrV3, ↓q_tNotV3, ↓q_tIf3, ↓q_tNil3, ↓q_tCons3, ↓q_tTup3, ↓q_tLst3, ↓q_tNoPart3, ↓q_tPart3, ↓q_tSl3, ↓q_tRev3, ↓r3Rev_tup, ↓r3IsNot_bl, ↓r3Is_bl, ↓r3Sl_tup, ↓c3List_tup, ↓c3List_ref, ↓q_tCB3, ↓q_tBM3, ↓q_tBM03, ↓q_tNext3, ↓q_tSeq3, ↓q_tDrop3, ↓q_tRet3, ↓q_tRetN3, ↓q_tIfS3, ↓q_gName3, ↓gnil_eq, ↓gcons_eq, ↓q_gTup3, ↓q_gSub3, ↓q_tAsg3, ↓q_tPar3, ↓q_tYes3, ↓q_tCall3, ↓q_tTryAs3, ↓q_goneE_nx, ↓q_goneE_rt, ↓q_c3IsE, ↓is_bl, ↓c3Str_int, ↓q_tRaise3, ↓q_spA0, ↓q_spA1, ↓q_spA2, ↓q_spA3, ↓q_spA4, ↓q_spA5, ↓q_endF_rt, ↓q_endF_nx, ↓q_endF_xx, r3Lt, r3Le, r3Gt, r3Ge, r3Mod, r3Div, r3Pow, r3Sub, ↓r3I_int, ↓r3I0_int, ↓r3Add_int, ↓r3Add_tup, ↓r3Add_ref, ↓r3Mul_int, ↓r3Mul_ref, datD_non, ↓datD_bl, ↓datD_int, eqv_int, ↓items_tup, ↓items_rol, ↓items_new, ↓len_new, ↓mupd_same, L3.MO.lst.injEq, List.length_cons, List.length_nil, Nat.reduceAdd, Nat.zero_add, sizeLine_eq, Nat.reduceLeDiff, Nat.reducePow, Int.reduceLT, Int.reduceLE, Int.reducePow, Int.reduceToNat, Int.reduceNeg, Int.reduceAdd, Int.cast_ofNat_Int, Int.reduceSub, Int.reduceMul, Nat.reduceMul, Nat.reduceLT, cpow_lit, List.length_append, List.length_map, ↓u3Neg_int, fdiv_pos, ↓q_tDict0, ix_1_0, ix_2_0, ix_2_1, ix_3_0, ix_3_1, ix_3_2, ix_4_0, ix_4_1, ix_4_2, ix_4_3, ix_5_0, ix_5_1, ix_5_2, ix_5_3, ix_5_4, decide_eq_false_iff_not, ↓lc_seq, ↓lc_r1, ↓lc_r2, ↓for_seq, ↓for_r1, ↓for_r2, ↓c3Tuple_it, ↓c3Min2_int, ↓c3Max2_int, ↓m3Pop_ref, ↓lc_zip, ↓for_zip, ↓lc_enum, ↓for_enum, ↓q_tAug3, r3AddI, ↓datD_pair, datD_pair, eqv_pair, ↓m3Index_ref, wipe3, ↓len_tup, ↓len_rol, ↓c3Len_tup, ↓c3Len_rol, ↓c3Len_ref, ↓c3Int_int, ↓c3Int_bl, ↓c3Abs_int, ↓c3All_ref, ↓c3Any_ref, ↓c3Isi_tl, ↓c3Isi_ty, ↓m3Append_ref, ↓s3Lst_ref, ↓r3Is_non, ↓r3IsNot_non, atI_0, atI_1, atI_2, atI_3, atI_4, tyD_tup, tyD_int, tyD_bl, mc_bool, mc_int, mc_str, mc_tuple, mc_list, mc_dict, ib_NoneType_bool, ib_NoneType_int, ib_NoneType_str, ib_NoneType_tuple, ib_NoneType_list, ib_NoneType_dict, ib_bool_bool, ib_bool_int, ib_bool_str, ib_bool_tuple, ib_bool_list, ib_bool_dict, ib_int_bool, ib_int_int, ib_int_str, ib_int_tuple, ib_int_list, ib_int_dict, ib_str_bool, ib_str_int, ib_str_str, ib_str_tuple, ib_str_list, ib_str_dict, ib_tuple_bool, ib_tuple_int, ib_tuple_str, ib_tuple_tuple, ib_tuple_list, ib_tuple_dict, ib_list_bool, ib_list_int, ib_list_str, ib_list_tuple, ib_list_list, ib_list_dict, ib_dict_bool, ib_dict_int, ib_dict_str, ib_dict_tuple, ib_dict_list, ib_dict_dict, tyD_str, tyD_non, tyD_rol, Bool.or_false, Bool.false_or, Bool.or_true, Bool.true_or, ↓truD_bl, ↓truD_int, List.getElem?_cons_zero, List.getElem?_cons_succ, List.set_cons_zero, List.set_cons_succ, Option.some.injEq, L3.D.bl.injEq, L3.D.int.injEq, L3.D.ref.injEq, L3.D.tup.injEq, L3.D.ty.injEq, L3.D.str.injEq, List.cons.injEq, and_true, true_and, exists_eq_left, exists_eq_left', exists_eq, exists_eq', exists_and_left, exists_and_right, exists_const, and_assoc, exists_eq_right_right, exists_eq_right, ↓ite_both, decide_eq_true_eq, reduceCtorEq, false_and, and_false, exists_false, not_false_eq_true, not_true_eq_false, Bool.false_eq_true, implies_true, forall_const, true_implies, false_implies, Bool.not_eq_true, Bool.not_true, Bool.not_false, decide_true, decide_false, Bool.not_eq_true', Bool.not_eq_false', Bool.not_eq_false, if_true, if_false, Bool.and_true, Bool.true_and, Bool.and_false, Bool.false_and, r3Eq, r3Ne]
    have s1 := hand_set (M := M) (a' := a + 1) (b' := b) (x' := x) (y' := y) nc e1 e2 (by omega)
    have s2 := s1.trans (hand_set (M := mupd M h (.lst [D.ref c, D.int (a + 1), D.int b, D.int x, D.int y])) (a' := a + 1) (b' := b) (x' := (x * 69621 + v + 11) % 2147483629) (y' := y) nc mupd_same (by rw [mupd_ne nc]; exact e2) (by omega))
    refine ⟨by (first | decide | omega | exact mulOk_l (by omega) (by omega) | exact mulOk_r (by omega) (by omega) | exact divOk _ (by omega) (by omega) | assumption), fun _ => out _ _ ?_, fun _ => out _ _ s2⟩
    exact s2.trans (hand_set nc mupd_same (by rw [mupd_ne nc, mupd_ne nc]; exact e2) (by omega))
  · rintro σ' M' ⟨rfl, s⟩
    obtain ⟨c, cs, a, b, x, y, nc, e1, e2, z⟩ := s.ok
    simp -implicitDefEqProofs only [items_ref e1, len_ref e2, items_ref e2, e1, ↓ex_bl, ↓ex_int, ↓ex_str, ↓ex_ref, ↓ex_tup, ↓ex_some, ↓ex_eq, ↓ex_eq', ↓ex_1, ↓ex_2, ↓ex_3, ↓ex_4, ↓ex_5, ↓ite_tt, ↓ite_ff, ↓v3_0, ↓v3_s, ↓eq_int, ↓ne_int, ↓eq_bl, ↓ne_bl, ↓eq_pair, ↓ne_pair, eqv_bool, eqv_str, ↓pow_lit, ↓ix_t0, ↓ix_t1, ↓ix_tup, ↓ix_it, ↓q_tC3, ↓q_tOp3, ↓q_tUn3, ↓q_tTest3, ↓q_tChain3, ↓q_tTruth3, ↓q_tAnd3, ↓q_tOr3, ↓q_tNot3, ↓q_tAndV3, ↓q_tOrV3, ↓q_tNotV3, ↓q_tIf3, ↓q_tNil3, ↓q_tCons3, ↓q_tTup3, ↓q_tLst3, ↓q_tNoPart3, ↓q_tPart3, ↓q_tSl3, ↓q_tRev3, ↓r3Rev_tup, ↓r3IsNot_bl, ↓r3Is_bl, ↓r3Sl_tup, ↓c3List_tup, ↓c3List_ref, ↓q_tCB3, ↓q_tBM3, ↓q_tBM03, ↓q_tNext3, ↓q_tSeq3, ↓q_tDrop3, ↓q_tRet3, ↓q_tRetN3, ↓q_tIfS3, ↓q_gName3, ↓gnil_eq, ↓gcons_eq, ↓q_gTup3, ↓q_gSub3, ↓q_tAsg3, ↓q_tPar3, ↓q_tYes3, ↓q_tCall3, ↓q_tTryAs3, ↓q_goneE_nx, ↓q_goneE_rt, ↓q_c3IsE, ↓is_bl, ↓c3Str_int, ↓q_tRaise3, ↓q_spA0, ↓q_spA1, ↓q_spA2, ↓q_spA3, ↓q_spA4, ↓q_spA5, ↓q_endF_rt, ↓q_endF_nx, ↓q_endF_xx, r3Lt, r3Le, r3Gt, r3Ge, r3Mod, r3Div, r3Pow, r3Sub, ↓r3I_int, ↓r3I0_int, ↓r3Add_int, ↓r3Add_tup, ↓r3Add_ref, ↓r3Mul_int, ↓r3Mul_ref, datD_non, ↓datD_bl, ↓datD_int, eqv_int, ↓items_tup, ↓items_rol, ↓items_new, ↓len_new, ↓mupd_same, L3.MO.lst.injEq, List.length_cons, List.length_nil, Nat.reduceAdd, Nat.zero_add, sizeLine_eq, Nat.reduceLeDiff, Nat.reducePow, Int.reduceLT, Int.reduceLE, Int.reducePow, Int.reduceToNat, Int.reduceNeg, Int.reduceAdd, Int.cast_ofNat_Int, Int.reduceSub, Int.reduceMul, Nat.reduceMul, Nat.reduceLT, cpow_lit, List.length_append, List.length_map, ↓u3Neg_int, fdiv_pos, ↓q_tDict0, ix_1_0, ix_2_0, ix_2_1, ix_3_0, ix_3_1, ix_3_2, ix_4_0, ix_4_1, ix_4_2, ix_4_3, ix_5_0, ix_5_1, ix_5_2, ix_5_3, ix_5_4, decide_eq_false_iff_not, ↓lc_seq, ↓lc_r1, ↓lc_r2, ↓for_seq, ↓for_r1, ↓for_r2, ↓c3Tuple_it, ↓c3Min2_int, ↓c3Max2_int, ↓m3Pop_ref, ↓lc_zip, ↓for_zip, ↓lc_enum, ↓for_enum, ↓q_tAug3, r3AddI, ↓datD_pair, datD_pair, eqv_pair, ↓m3Index_ref, wipe3, ↓len_tup, ↓len_rol, ↓c3Len_tup, ↓c3Len_rol, ↓c3Len_ref, ↓c3Int_int, ↓c3Int_bl, ↓c3Abs_int, ↓c3All_ref, ↓c3Any_ref, ↓c3Isi_tl, ↓c3Isi_ty, ↓m3Append_ref, ↓s3Lst_ref, ↓r3Is_non, ↓r3IsNot_non, atI_0, atI_1, atI_2, atI_3, atI_4, tyD_tup, tyD_int, tyD_bl, mc_bool, mc_int, mc_str, mc_tuple, mc_list, mc_dict, ib_NoneType_bool, ib_NoneType_int, ib_NoneType_str, ib_NoneType_tuple, ib_NoneType_list, ib_NoneType_dict, ib_bool_bool, ib_bool_int, ib_bool_str, ib_bool_tuple, ib_bool_list, ib_bool_dict, ib_int_bool, ib_int_int, ib_int_str, ib_int_tuple, ib_int_list, ib_int_dict, ib_str_bool, ib_str_int, ib_str_str, ib_str_tuple, ib_str_list, ib_str_dict, ib_tuple_bool, ib_tuple_int, ib_tuple_str, ib_tuple_tuple, ib_tuple_list, ib_tuple_dict, ib_list_bool, ib_list_int, ib_list_str, ib_list_tuple, ib_list_list, ib_list_dict, ib_dict_bool, ib_dict_int, ib_dict_str, ib_dict_tuple, ib_dict_list, ib_dict_dict, tyD_str, tyD_non, tyD_rol, Bool.or_false, Bool.false_or, Bool.or_true, Bool.true_or, ↓truD_bl, ↓truD_int, List.getElem?_cons_zero, List.getElem?_cons_succ, List.set_cons_zero, List.set_cons_succ, Option.some.injEq, L3.D.bl.injEq, L3.D.int.injEq, L3.D.ref.injEq, L3.D.tup.injEq, L3.D.ty.injEq, L3.D.str.injEq, List.cons.injEq, and_true, true_and, exists_eq_left, exists_eq_left', exists_eq, exists_eq', exists_and_left, exists_and_right, exists_const, and_assoc, exists_eq_right_right, exists_eq_right, ↓ite_both, decide_eq_true_eq, reduceCtorEq, false_and, and_false, exists_false, not_false_eq_true, not_true_eq_false, Bool.false_eq_true, implies_true, forall_const, true_implies, false_implies, Bool.not_eq_true, Bool.not_true, Bool.not_false, decide_true, decide_false, Bool.not_eq_true', Bool.not_eq_false', Bool.not_eq_false, if_true, if_false, Bool.and_true, Bool.true_and, Bool.and_false, Bool.false_and, r3Eq, r3Ne]
    refine ⟨fun hb => ⟨n0, divOk _ n0 (by omega), ?_⟩, fun _ => ?_⟩
    · have s' := s.trans (hand_set (M := M') (b' := b.fdiv n) (x' := x) (y' := y) nc e1 e2 z)
      exact s'.ret (q _ _ (Int.emod_nonneg _ (by omega)) (Int.emod_lt_of_pos _ n0) s')
    · have s1 := s.trans (hand_set (M := M') (b' := b) (x' := x) (y' := y + 1) nc e1 e2 z)
      have b1 := Int.emod_lt_of_pos ((x + 7919 * (y + 1)) * 48271) (show (0 : Int) < 2147483647 by decide)
      have b0 := Int.emod_nonneg ((x + 7919 * (y + 1)) * 48271) (show (2147483647 : Int) ≠ 0 by decide)
      refine ⟨by (first | decide | omega | exact mulOk_l (by omega) (by omega) | exact mulOk_r (by omega) (by omega) | exact divOk _ (by omega) (by omega) | assumption), by (first | decide | omega | exact mulOk_l (by omega) (by omega) | exact mulOk_r (by omega) (by omega) | exact divOk _ (by omega) (by omega) | assumption), ?_⟩
      generalize ((x + 7919 * (y + 1)) * 48271) % 2147483647 = v at b1 b0 ⊢
      have c1 := Int.emod_lt_of_pos (v * (v / 1009 + 69621)) (show (0 : Int) < 2147483647 by decide)
      have c0 := Int.emod_nonneg (v * (v / 1009 + 69621)) (show (2147483647 : Int) ≠ 0 by decide)
      refine ⟨by (first | decide | omega | exact mulOk_l (by omega) (by omega) | exact mulOk_r (by omega) (by omega) | exact divOk _ (by omega) (by omega) | assumption), by (first | decide | omega | exact mulOk_l (by omega) (by omega) | exact mulOk_r (by omega) (by omega) | exact divOk _ (by omega) (by omega) | assumption), ?_⟩
      generalize (v * (v / 1009 + 69621)) % 2147483647 = u at c1 c0 ⊢
      refine ⟨by (first | decide | omega | exact mulOk_l (by omega) (by omega) | exact mulOk_r (by omega) (by omega) | exact divOk _ (by omega) (by omega) | assumption), by (first | decide | omega | exact mulOk_l (by omega) (by omega) | exact mulOk_r (by omega) (by omega) | exact divOk _ (by omega) (by omega) | assumption), by (first | decide | omega | exact mulOk_l (by omega) (by omega) | exact mulOk_r (by omega) (by omega) | exact divOk _ (by omega) (by omega) | assumption), n0, ?_⟩
      exact s1.ret (q _ _ (Int.emod_nonneg _ (by omega)) (Int.emod_lt_of_pos _ n0) s1)

abbrev sp__law_any (K : PySem.W.Frag) : Sp3 := spAny
abbrev N__law_any : List Str := ["hand", "some"]
def tr__law_any (K : PySem.W.Frag) : TS3 := (tRet3 (tOp3 r3Ix (tVar3 1) (tCall3 (sp__law_draw K) (tCons3 (tVar3 0) (tCons3 (tCB3 c3Len (tCons3 (tVar3 1) tNil3)) tNil3)))))
theorem rd__law_any (K : PySem.W.Frag) : ∀ ds M Q E, sp__law_any K ds M Q E → tr__law_any K (endF M Q E) (start3 N__law_any ds) M := by
  rintro ds M Q E ⟨a, b, rfl, h, rfl, nb, es, e, l0, l1, hk, q⟩
  unfold tr__law_any
  simp only [start3, List.map_cons, List.map_nil, List.length_cons, List.length_nil, List.cons_append, List.nil_append, List.replicate_succ, List.replicate_zero, Nat.reduceAdd, Nat.reduceSub, Nat.zero_add]
  simp -implicitDefEqProofs only [sp__law_draw, spDraw, c3Len_it e, ↓ex_bl, ↓ex_int, ↓ex_str, ↓ex_ref, ↓ex_tup, ↓ex_some, ↓ex_eq, ↓ex_eq', ↓ex_1, ↓ex_2, ↓ex_3, ↓ex_4, ↓ex_5, ↓ite_tt, ↓ite_ff, ↓v3_0, ↓v3_s, ↓eq_int, ↓ne_int, ↓eq_bl, ↓ne_bl, ↓eq_pair, ↓ne_pair, eqv_bool, eqv_str, ↓pow_lit, ↓ix_t0, ↓ix_t1, ↓ix_tup, ↓ix_it, ↓q_tC3, ↓q_tOp3, ↓q_tUn3, ↓q_tTest3, ↓q_tChain3, ↓q_tTruth3, ↓q_tAnd3, ↓q_tOr3, ↓q_tNot3, ↓q_tAndV3, ↓q_tOrV3, ↓q_tNotV3, ↓q_tIf3, ↓q_tNil3, ↓q_tCons3, ↓q_tTup3, ↓q_tLst3, ↓q_tNoPart3, ↓q_tPart3, ↓q_tSl3, ↓q_tRev3, ↓r3Rev_tup, ↓r3IsNot_bl, ↓r3Is_bl, ↓r3Sl_tup, ↓c3List_tup, ↓c3List_ref, ↓q_tCB3, ↓q_tBM3, ↓q_tBM03, ↓q_tNext3, ↓q_tSeq3, ↓q_tDrop3, ↓q_tRet3, ↓q_tRetN3, ↓q_tIfS3, ↓q_gName3, ↓gnil_eq, ↓gcons_eq, ↓q_gTup3, ↓q_gSub3, ↓q_tAsg3, ↓q_tPar3, ↓q_tYes3, ↓q_tCall3, ↓q_tTryAs3, ↓q_goneE_nx, ↓q_goneE_rt, ↓q_c3IsE, ↓is_bl, ↓c3Str_int, ↓q_tRaise3, ↓q_spA0, ↓q_spA1, ↓q_spA2, ↓q_spA3, ↓q_spA4, ↓q_spA5, ↓q_endF_rt, ↓q_endF_nx, ↓q_endF_xx, r3Lt, r3Le, r3Gt, r3Ge, r3Mod, r3Div, r3Pow, r3Sub, ↓r3I_int, ↓r3I0_int, ↓r3Add_int, ↓r3Add_tup, ↓r3Add_ref, ↓r3Mul_int, ↓r3Mul_ref, datD_non, ↓datD_bl, ↓datD_int, eqv_int, ↓items_tup, ↓items_rol, ↓items_new, ↓len_new, ↓mupd_same, L3.MO.lst.injEq, List.length_cons, List.length_nil, Nat.reduceAdd, Nat.zero_add, sizeLine_eq, Nat.reduceLeDiff, Nat.reducePow, Int.reduceLT, Int.reduceLE, Int.reducePow, Int.reduceToNat, Int.reduceNeg, Int.reduceAdd, Int.cast_ofNat_Int, Int.reduceSub, Int.reduceMul, Nat.reduceMul, Nat.reduceLT, cpow_lit, List.length_append, List.length_map, ↓u3Neg_int, fdiv_pos, ↓q_tDict0, ix_1_0, ix_2_0, ix_2_1, ix_3_0, ix_3_1, ix_3_2, ix_4_0, ix_4_1, ix_4_2, ix_4_3, ix_5_0, ix_5_1, ix_5_2, ix_5_3, ix_5_4, decide_eq_false_iff_not, ↓lc_seq, ↓lc_r1, ↓lc_r2, ↓for_seq, ↓for_r1, ↓for_r2, ↓c3Tuple_it, ↓c3Min2_int, ↓c3Max2_int, ↓m3Pop_ref, ↓lc_zip, ↓for_zip, ↓lc_enum, ↓for_enum, ↓q_tAug3, r3AddI, ↓datD_pair, datD_pair, eqv_pair, ↓m3Index_ref, wipe3, ↓len_tup, ↓len_rol, ↓c3Len_tup, ↓c3Len_rol, ↓c3Len_ref, ↓c3Int_int, ↓c3Int_bl, ↓c3Abs_int, ↓c3All_ref, ↓c3Any_ref, ↓c3Isi_tl, ↓c3Isi_ty, ↓m3Append_ref, ↓s3Lst_ref, ↓r3Is_non, ↓r3IsNot_non, atI_0, atI_1, atI_2, atI_3, atI_4, tyD_tup, tyD_int, tyD_bl, mc_bool, mc_int, mc_str, mc_tuple, mc_list, mc_dict, ib_NoneType_bool, ib_NoneType_int, ib_NoneType_str, ib_NoneType_tuple, ib_NoneType_list, ib_NoneType_dict, ib_bool_bool, ib_bool_int, ib_bool_str, ib_bool_tuple, ib_bool_list, ib_bool_dict, ib_int_bool, ib_int_int, ib_int_str, ib_int_tuple, ib_int_list, ib_int_dict, ib_str_bool, ib_str_int, ib_str_str, ib_str_tuple, ib_str_list, ib_str_dict, ib_tuple_bool, ib_tuple_int, ib_tuple_str, ib_tuple_tuple, ib_tuple_list, ib_tuple_dict, ib_list_bool, ib_list_int, ib_list_str, ib_list_tuple, ib_list_list, ib_list_dict, ib_dict_bool, ib_dict_int, ib_dict_str, ib_dict_tuple, ib_dict_list, ib_dict_dict, tyD_str, tyD_non, tyD_rol, Bool.or_false, Bool.false_or, Bool.or_true, Bool.true_or, ↓truD_bl, ↓truD_int, List.getElem?_cons_zero, List.getElem?_cons_succ, List.set_cons_zero, List.set_cons_succ, Option.some.injEq, L3.D.bl.injEq, L3.D.int.injEq, L3.D.ref.injEq, L3.D.tup.injEq, L3.D.ty.injEq, L3.D.str.injEq, List.cons.injEq, and_true, true_and, exists_eq_left, exists_eq_left', exists_eq, exists_eq', exists_and_left, exists_and_right, exists_const, and_assoc, exists_eq_right_right, exists_eq_right, ↓ite_both, decide_eq_true_eq, reduceCtorEq, false_and, and_false, exists_false, not_false_eq_true, not_true_eq_false, Bool.false_eq_true, implies_true, forall_const, true_implies, false_implies, Bool.not_eq_true, Bool.not_true, Bool.not_false, decide_true, decide_false, Bool.not_eq_true', Bool.not_eq_false', Bool.not_eq_false, if_true, if_false, Bool.and_true, Bool.true_and, Bool.and_false, Bool.false_and, r3Eq, r3Ne]
  refine ⟨by omega, by omega, hk, fun r M' r0 r1 s => ⟨es, items_step s nb e, ?_⟩⟩
  have hr : r.toNat < es.length := by omega
  refine ⟨es[r.toNat], ?_, s.ret (q _ _ (List.getElem_mem hr) s)⟩
  have : atI es ((r.toNat : Nat) : Int) = some es[r.toNat] := atI_nat (List.getElem?_eq_getElem hr)
  have e2 : ((r.toNat : Nat) : Int) = r := by omega
  rw [e2] at this
  exact this

def sp__law_primes (K : PySem.W.Frag) : Sp3 := spA0 fun M Q X => ∀ l, M l = none → Q (.ref l) (mupd M l (.lst (primesL.map D.int)))
abbrev N__law_primes : List Str := []
def tr__law_primes (K : PySem.W.Frag) : TS3 := (tRet3 (tLst3 (tCons3 (tC3 (.int 2)) (tCons3 (tC3 (.int 3)) (tCons3 (tC3 (.int 5)) (tCons3 (tC3 (.int 7)) (tCons3 (tC3 (.int 11)) (tCons3 (tC3 (.int 13)) (tCons3 (tC3 (.int 17)) (tCons3 (tC3 (.int 19)) (tCons3 (tC3 (.int 23)) (tCons3 (tC3 (.int 29)) (tCons3 (tC3 (.int 31)) (tCons3 (tC3 (.int 37)) (tCons3 (tC3 (.int 41)) (tCons3 (tC3 (.int 43)) (tCons3 (tC3 (.int 47)) (tCons3 (tC3 (.int 53)) (tCons3 (tC3 (.int 59)) (tCons3 (tC3 (.int 61)) (tCons3 (tC3 (.int 67)) (tCons3 (tC3 (.int 71)) (tCons3 (tC3 (.int 73)) (tCons3 (tC3 (.int 79)) (tCons3 (tC3 (.int 83)) (tCons3 (tC3 (.int 89)) (tCons3 (tC3 (.int 97)) tNil3)))))))))))))))))))))))))))
theorem rd__law_primes (K : PySem.W.Frag) : ∀ ds M Q E, sp__law_primes K ds M Q E → tr__law_primes K (endF M Q E) (start3 N__law_primes ds) M := by
  rintro ds M Q E ⟨rfl, q⟩
  unfold tr__law_primes
  simp only [start3, List.map_cons, List.map_nil, List.length_cons, List.length_nil, List.cons_append, List.nil_append, List.replicate_succ, List.replicate_zero, Nat.reduceAdd, Nat.reduceSub, Nat.zero_add]
  simp -implicitDefEqProofs only [↓ex_bl, ↓ex_int, ↓ex_str, ↓ex_ref, ↓ex_tup, ↓ex_some, ↓ex_eq, ↓ex_eq', ↓ex_1, ↓ex_2, ↓ex_3, ↓ex_4, ↓ex_5, ↓ite_tt, ↓ite_ff, ↓v3_0, ↓v3_s, ↓eq_int, ↓ne_int, ↓eq_bl, ↓ne_bl, ↓eq_pair, ↓ne_pair, eqv_bool, eqv_str, ↓pow_lit, ↓ix_t0, ↓ix_t1, ↓ix_tup, ↓ix_it, ↓q_tC3, ↓q_tOp3, ↓q_tUn3, ↓q_tTest3, ↓q_tChain3, ↓q_tTruth3, ↓q_tAnd3, ↓q_tOr3, ↓q_tNot3, ↓q_tAndV3, ↓q_tOrV3, ↓q_tNotV3, ↓q_tIf3, ↓q_tNil3, ↓q_tCons3, ↓q_tTup3, ↓q_tLst3, ↓q_tNoPart3, ↓q_tPart3, ↓q_tSl3, ↓q_tRev3, ↓r3Rev_tup, ↓r3IsNot_bl, ↓r3Is_bl, ↓r3Sl_tup, ↓c3List_tup, ↓c3List_ref, ↓q_tCB3, ↓q_tBM3, ↓q_tBM03, ↓q_tNext3, ↓q_tSeq3, ↓q_tDrop3, ↓q_tRet3, ↓q_tRetN3, ↓q_tIfS3, ↓q_gName3, ↓gnil_eq, ↓gcons_eq, ↓q_gTup3, ↓q_gSub3, ↓q_tAsg3, ↓q_tPar3, ↓q_tYes3, ↓q_tCall3, ↓q_tTryAs3, ↓q_goneE_nx, ↓q_goneE_rt, ↓q_c3IsE, ↓is_bl, ↓c3Str_int, ↓q_tRaise3, ↓q_spA0, ↓q_spA1, ↓q_spA2, ↓q_spA3, ↓q_spA4, ↓q_spA5, ↓q_endF_rt, ↓q_endF_nx, ↓q_endF_xx, r3Lt, r3Le, r3Gt, r3Ge, r3Mod, r3Div, r3Pow, r3Sub, ↓r3I_int, ↓r3I0_int, ↓r3Add_int, ↓r3Add_tup, ↓r3Add_ref, ↓r3Mul_int, ↓r3Mul_ref, datD_non, ↓datD_bl, ↓datD_int, eqv_int, ↓items_tup, ↓items_rol, ↓items_new, ↓len_new, ↓mupd_same, L3.MO.lst.injEq, List.length_cons, List.length_nil, Nat.reduceAdd, Nat.zero_add, sizeLine_eq, Nat.reduceLeDiff, Nat.reducePow, Int.reduceLT, Int.reduceLE, Int.reducePow, Int.reduceToNat, Int.reduceNeg, Int.reduceAdd, Int.cast_ofNat_Int, Int.reduceSub, Int.reduceMul, Nat.reduceMul, Nat.reduceLT, cpow_lit, List.length_append, List.length_map, ↓u3Neg_int, fdiv_pos, ↓q_tDict0, ix_1_0, ix_2_0, ix_2_1, ix_3_0, ix_3_1, ix_3_2, ix_4_0, ix_4_1, ix_4_2, ix_4_3, ix_5_0, ix_5_1, ix_5_2, ix_5_3, ix_5_4, decide_eq_false_iff_not, ↓lc_seq, ↓lc_r1, ↓lc_r2, ↓for_seq, ↓for_r1, ↓for_r2, ↓c3Tuple_it, ↓c3Min2_int, ↓c3Max2_int, ↓m3Pop_ref, ↓lc_zip, ↓for_zip, ↓lc_enum, ↓for_enum, ↓q_tAug3, r3AddI, ↓datD_pair, datD_pair, eqv_pair, ↓m3Index_ref, wipe3, ↓len_tup, ↓len_rol, ↓c3Len_tup, ↓c3Len_rol, ↓c3Len_ref, ↓c3Int_int, ↓c3Int_bl, ↓c3Abs_int, ↓c3All_ref, ↓c3Any_ref, ↓c3Isi_tl, ↓c3Isi_ty, ↓m3Append_ref, ↓s3Lst_ref, ↓r3Is_non, ↓r3IsNot_non, atI_0, atI_1, atI_2, atI_3, atI_4, tyD_tup, tyD_int, tyD_bl, mc_bool, mc_int, mc_str, mc_tuple, mc_list, mc_dict, ib_NoneType_bool, ib_NoneType_int, ib_NoneType_str, ib_NoneType_tuple, ib_NoneType_list, ib_NoneType_dict, ib_bool_bool, ib_bool_int, ib_bool_str, ib_bool_tuple, ib_bool_list, ib_bool_dict, ib_int_bool, ib_int_int, ib_int_str, ib_int_tuple, ib_int_list, ib_int_dict, ib_str_bool, ib_str_int, ib_str_str, ib_str_tuple, ib_str_list, ib_str_dict, ib_tuple_bool, ib_tuple_int, ib_tuple_str, ib_tuple_tuple, ib_tuple_list, ib_tuple_dict, ib_list_bool, ib_list_int, ib_list_str, ib_list_tuple, ib_list_list, ib_list_dict, ib_dict_bool, ib_dict_int, ib_dict_str, ib_dict_tuple, ib_dict_list, ib_dict_dict, tyD_str, tyD_non, tyD_rol, Bool.or_false, Bool.false_or, Bool.or_true, Bool.true_or, ↓truD_bl, ↓truD_int, List.getElem?_cons_zero, List.getElem?_cons_succ, List.set_cons_zero, List.set_cons_succ, Option.some.injEq, L3.D.bl.injEq, L3.D.int.injEq, L3.D.ref.injEq, L3.D.tup.injEq, L3.D.ty.injEq, L3.D.str.injEq, List.cons.injEq, and_true, true_and, exists_eq_left, exists_eq_left', exists_eq, exists_eq', exists_and_left, exists_and_right, exists_const, and_assoc, exists_eq_right_right, exists_eq_right, ↓ite_both, decide_eq_true_eq, reduceCtorEq, false_and, and_false, exists_false, not_false_eq_true, not_true_eq_false, Bool.false_eq_true, implies_true, forall_const, true_implies, false_implies, Bool.not_eq_true, Bool.not_true, Bool.not_false, decide_true, decide_false, Bool.not_eq_true', Bool.not_eq_false', Bool.not_eq_false, if_true, if_false, Bool.and_true, Bool.true_and, Bool.and_false, Bool.false_and, r3Eq, r3Ne]
  exact fun l hl => HStep.ret' (MSub.new .refl hl) (q l hl)

def sp__law_ground (K : PySem.W.Frag) : Sp3 := spA1 fun a M Q X => ∃ h, a = .ref h ∧ HandOk M h ∧ ∀ (p : Int) M', (p = 0 ∨ p ∈ primesL) → HStep h M M' → Q (.int p) M'
abbrev N__law_ground : List Str := ["hand"]
def tr__law_ground (K : PySem.W.Frag) : TS3 := (tRet3 (tCall3 (sp__law_any K) (tCons3 (tVar3 0) (tCons3 (tLst3 (tCons3 (tC3 (.int 0)) (tCons3 (tC3 (.int 0)) (tCons3 (tC3 (.int 0)) (tCons3 (tC3 (.int 2)) (tCons3 (tC3 (.int 3)) (tCons3 (tC3 (.int 5)) (tCons3 (tC3 (.int 97)) (tCons3 (tCall3 (sp__law_any K) (tCons3 (tVar3 0) (tCons3 (tCall3 (sp__law_primes K) tNil3) tNil3))) tNil3))))))))) tNil3))))
theorem rd__law_ground (K : PySem.W.Frag) : ∀ ds M Q E, sp__law_ground K ds M Q E → tr__law_ground K (endF M Q E) (start3 N__law_ground ds) M := by
  rintro ds M Q E ⟨a, rfl, h, rfl, hk, q⟩
  unfold tr__law_ground
  simp only [start3, List.map_cons, List.map_nil, List.length_cons, List.length_nil, List.cons_append, List.nil_append, List.replicate_succ, List.replicate_zero, Nat.reduceAdd, Nat.reduceSub, Nat.zero_add]
  simp -implicitDefEqProofs only [sp__law_any, spAny, sp__law_primes, ↓ex_bl, ↓ex_int, ↓ex_str, ↓ex_ref, ↓ex_tup, ↓ex_some, ↓ex_eq, ↓ex_eq', ↓ex_1, ↓ex_2, ↓ex_3, ↓ex_4, ↓ex_5, ↓ite_tt, ↓ite_ff, ↓v3_0, ↓v3_s, ↓eq_int, ↓ne_int, ↓eq_bl, ↓ne_bl, ↓eq_pair, ↓ne_pair, eqv_bool, eqv_str, ↓pow_lit, ↓ix_t0, ↓ix_t1, ↓ix_tup, ↓ix_it, ↓q_tC3, ↓q_tOp3, ↓q_tUn3, ↓q_tTest3, ↓q_tChain3, ↓q_tTruth3, ↓q_tAnd3, ↓q_tOr3, ↓q_tNot3, ↓q_tAndV3, ↓q_tOrV3, ↓q_tNotV3, ↓q_tIf3, ↓q_tNil3, ↓q_tCons3, ↓q_tTup3, ↓q_tLst3, ↓q_tNoPart3, ↓q_tPart3, ↓q_tSl3, ↓q_tRev3, ↓r3Rev_tup, ↓r3IsNot_bl, ↓r3Is_bl, ↓r3Sl_tup, ↓c3List_tup, ↓c3List_ref, ↓q_tCB3, ↓q_tBM3, ↓q_tBM03, ↓q_tNext3, ↓q_tSeq3, ↓q_tDrop3, ↓q_tRet3, ↓q_tRetN3, ↓q_tIfS3, ↓q_gName3, ↓gnil_eq, ↓gcons_eq, ↓q_gTup3, ↓q_gSub3, ↓q_tAsg3, ↓q_tPar3, ↓q_tYes3, ↓q_tCall3, ↓q_tTryAs3, ↓q_goneE_nx, ↓q_goneE_rt, ↓q_c3IsE, ↓is_bl, ↓c3Str_int, ↓q_tRaise3, ↓q_spA0, ↓q_spA1, ↓q_spA2, ↓q_spA3, ↓q_spA4, ↓q_spA5, ↓q_endF_rt, ↓q_endF_nx, ↓q_endF_xx, r3Lt, r3Le, r3Gt, r3Ge, r3Mod, r3Div, r3Pow, r3Sub, ↓r3I_int, ↓r3I0_int, ↓r3Add_int, ↓r3Add_tup, ↓r3Add_ref, ↓r3Mul_int, ↓r3Mul_ref, datD_non, ↓datD_bl, ↓datD_int, eqv_int, ↓items_tup, ↓items_rol, ↓items_new, ↓len_new, ↓mupd_same, L3.MO.lst.injEq, List.length_cons, List.length_nil, Nat.reduceAdd, Nat.zero_add, sizeLine_eq, Nat.reduceLeDiff, Nat.reducePow, Int.reduceLT, Int.reduceLE, Int.reducePow, Int.reduceToNat, Int.reduceNeg, Int.reduceAdd, Int.cast_ofNat_Int, Int.reduceSub, Int.reduceMul, Nat.reduceMul, Nat.reduceLT, cpow_lit, List.length_append, List.length_map, ↓u3Neg_int, fdiv_pos, ↓q_tDict0, ix_1_0, ix_2_0, ix_2_1, ix_3_0, ix_3_1, ix_3_2, ix_4_0, ix_4_1, ix_4_2, ix_4_3, ix_5_0, ix_5_1, ix_5_2, ix_5_3, ix_5_4, decide_eq_false_iff_not, ↓lc_seq, ↓lc_r1, ↓lc_r2, ↓for_seq, ↓for_r1, ↓for_r2, ↓c3Tuple_it, ↓c3Min2_int, ↓c3Max2_int, ↓m3Pop_ref, ↓lc_zip, ↓for_zip, ↓lc_enum, ↓for_enum, ↓q_tAug3, r3AddI, ↓datD_pair, datD_pair, eqv_pair, ↓m3Index_ref, wipe3, ↓len_tup, ↓len_rol, ↓c3Len_tup, ↓c3Len_rol, ↓c3Len_ref, ↓c3Int_int, ↓c3Int_bl, ↓c3Abs_int, ↓c3All_ref, ↓c3Any_ref, ↓c3Isi_tl, ↓c3Isi_ty, ↓m3Append_ref, ↓s3Lst_ref, ↓r3Is_non, ↓r3IsNot_non, atI_0, atI_1, atI_2, atI_3, atI_4, tyD_tup, tyD_int, tyD_bl, mc_bool, mc_int, mc_str, mc_tuple, mc_list, mc_dict, ib_NoneType_bool, ib_NoneType_int, ib_NoneType_str, ib_NoneType_tuple, ib_NoneType_list, ib_NoneType_dict, ib_bool_bool, ib_bool_int, ib_bool_str, ib_bool_tuple, ib_bool_list, ib_bool_dict, ib_int_bool, ib_int_int, ib_int_str, ib_int_tuple, ib_int_list, ib_int_dict, ib_str_bool, ib_str_int, ib_str_str, ib_str_tuple, ib_str_list, ib_str_dict, ib_tuple_bool, ib_tuple_int, ib_tuple_str, ib_tuple_tuple, ib_tuple_list, ib_tuple_dict, ib_list_bool, ib_list_int, ib_list_str, ib_list_tuple, ib_list_list, ib_list_dict, ib_dict_bool, ib_dict_int, ib_dict_str, ib_dict_tuple, ib_dict_list, ib_dict_dict, tyD_str, tyD_non, tyD_rol, Bool.or_false, Bool.false_or, Bool.or_true, Bool.true_or, ↓truD_bl, ↓truD_int, List.getElem?_cons_zero, List.getElem?_cons_succ, List.set_cons_zero, List.set_cons_succ, Option.some.injEq, L3.D.bl.injEq, L3.D.int.injEq, L3.D.ref.injEq, L3.D.tup.injEq, L3.D.ty.injEq, L3.D.str.injEq, List.cons.injEq, and_true, true_and, exists_eq_left, exists_eq_left', exists_eq, exists_eq', exists_and_left, exists_and_right, exists_const, and_assoc, exists_eq_right_right, exists_eq_right, ↓ite_both, decide_eq_true_eq, reduceCtorEq, false_and, and_false, exists_false, not_false_eq_true, not_true_eq_false, Bool.false_eq_true, implies_true, forall_const, true_implies, false_implies, Bool.not_eq_true, Bool.not_true, Bool.not_false, decide_true, decide_false, Bool.not_eq_true', Bool.not_eq_false', Bool.not_eq_false, if_true, if_false, Bool.and_true, Bool.true_and, Bool.and_false, Bool.false_and, r3Eq, r3Ne]
  refine fun l hl => ⟨hk.ne hl, by decide, by decide, hk.new hl, fun d M1 hd s1 => ?_⟩
  obtain ⟨p, hp, rfl⟩ := List.mem_map.mp hd
  have s0 := (HStep.alloc hk hl).trans s1
  intro l2 hl2
  refine ⟨s1.ok.ne hl2, s1.ok.new hl2, fun d M2 hd s2 => ?_⟩
  have s3 := (s0.new hl2).trans s2
  have : ∃ i : Int, d = .int i ∧ (i = 0 ∨ i ∈ primesL) := by
    simp only [List.mem_cons, List.not_mem_nil, or_false] at hd
    rcases hd with rfl | rfl | rfl | rfl | rfl | rfl | rfl | rfl
    all_goals first | exact ⟨_, rfl, .inr hp⟩ | exact ⟨_, rfl, by decide⟩
  obtain ⟨i, rfl, hi⟩ := this
  exact s3.ret (q i _ hi s3)

def sp__law_divisor (K : PySem.W.Frag) : Sp3 := spA2 fun a b M Q X => ∃ i j : Nat, a = .int (i : Int) ∧ b = .int (j : Int) ∧ Q (.int ((Nat.gcd i j : Nat) : Int)) M
abbrev N__law_divisor : List Str := ["one", "other"]
def tr__law_divisor (K : PySem.W.Frag) : TS3 := (tSeq3 (tWhile3 (tTest3 (tOp3 r3Gt (tVar3 1) (tC3 (.int 0)))) (tPar3 0 1 (tCons3 (tVar3 1) (tCons3 (tOp3 r3Mod (tCB3 c3Int (tCons3 (tVar3 0) tNil3)) (tVar3 1)) tNil3)))) (tRet3 (tVar3 0)))
theorem rd__law_divisor (K : PySem.W.Frag) : ∀ ds M Q E, sp__law_divisor K ds M Q E → tr__law_divisor K (endF M Q E) (start3 N__law_divisor ds) M := by
  rintro ds M Q E ⟨a, b, rfl, i, j, rfl, rfl, q⟩
  unfold tr__law_divisor
  simp only [start3, List.map_cons, List.map_nil, List.length_cons, List.length_nil, List.cons_append, List.nil_append, List.replicate_succ, List.replicate_zero, Nat.reduceAdd, Nat.reduceSub, Nat.zero_add]
  refine while_p (fun σ => ∃ i' j' : Nat, σ = [some (.int (i' : Int)), some (.int (j' : Int))] ∧ Nat.gcd i' j' = Nat.gcd i j) (fun σ => match σ with
    | [_, some (.int j)] => j.toNat
    | _ => 0) ⟨i, j, rfl, rfl⟩ ?_
  rintro σ' N ⟨i', j', rfl, e⟩ n
  simp -implicitDefEqProofs only [↓ex_bl, ↓ex_int, ↓ex_str, ↓ex_ref, ↓ex_tup, ↓ex_some, ↓ex_eq, ↓ex_eq', ↓ex_1, ↓ex_2, ↓ex_3, ↓ex_4, ↓ex_5, ↓ite_tt, ↓ite_ff, ↓v3_0, ↓v3_s, ↓eq_int, ↓ne_int, ↓eq_bl, ↓ne_bl, ↓eq_pair, ↓ne_pair, eqv_bool, eqv_str, ↓pow_lit, ↓ix_t0, ↓ix_t1, ↓ix_tup, ↓ix_it, ↓q_tC3, ↓q_tOp3, ↓q_tUn3, ↓q_tTest3, ↓q_tChain3, ↓q_tTruth3, ↓q_tAnd3, ↓q_tOr3, ↓q_tNot3, ↓q_tAndV3, ↓q_tOrV3, ↓q_tNotV3, ↓q_tIf3, ↓q_tNil3, ↓q_tCons3, ↓q_tTup3, ↓q_tLst3, ↓q_tNoPart3, ↓q_tPart3, ↓q_tSl3, ↓q_tRev3, ↓r3Rev_tup, ↓r3IsNot_bl, ↓r3Is_bl, ↓r3Sl_tup, ↓c3List_tup, ↓c3List_ref, ↓q_tCB3, ↓q_tBM3, ↓q_tBM03, ↓q_tNext3, ↓q_tSeq3, ↓q_tDrop3, ↓q_tRet3, ↓q_tRetN3, ↓q_tIfS3, ↓q_gName3, ↓gnil_eq, ↓gcons_eq, ↓q_gTup3, ↓q_gSub3, ↓q_tAsg3, ↓q_tPar3, ↓q_tYes3, ↓q_tCall3, ↓q_tTryAs3, ↓q_goneE_nx, ↓q_goneE_rt, ↓q_c3IsE, ↓is_bl, ↓c3Str_int, ↓q_tRaise3, ↓q_spA0, ↓q_spA1, ↓q_spA2, ↓q_spA3, ↓q_spA4, ↓q_spA5, ↓q_endF_rt, ↓q_endF_nx, ↓q_endF_xx, r3Lt, r3Le, r3Gt, r3Ge, r3Mod, r3Div, r3Pow, r3Sub, ↓r3I_int, ↓r3I0_int, ↓r3Add_int, ↓r3Add_tup, ↓r3Add_ref, ↓r3Mul_int, ↓r3Mul_ref, datD_non, ↓datD_bl, ↓datD_int, eqv_int, ↓items_tup, ↓items_rol, ↓items_new, ↓len_new, ↓mupd_same, L3.MO.lst.injEq, List.length_cons, List.length_nil, Nat.reduceAdd, Nat.zero_add, sizeLine_eq, Nat.reduceLeDiff, Nat.reducePow, Int.reduceLT, Int.reduceLE, Int.reducePow, Int.reduceToNat, Int.reduceNeg, Int.reduceAdd, Int.cast_ofNat_Int, Int.reduceSub, Int.reduceMul, Nat.reduceMul, Nat.reduceLT, cpow_lit, List.length_append, List.length_map, ↓u3Neg_int, fdiv_pos, ↓q_tDict0, ix_1_0, ix_2_0, ix_2_1, ix_3_0, ix_3_1, ix_3_2, ix_4_0, ix_4_1, ix_4_2, ix_4_3, ix_5_0, ix_5_1, ix_5_2, ix_5_3, ix_5_4, decide_eq_false_iff_not, ↓lc_seq, ↓lc_r1, ↓lc_r2, ↓for_seq, ↓for_r1, ↓for_r2, ↓c3Tuple_it, ↓c3Min2_int, ↓c3Max2_int, ↓m3Pop_ref, ↓lc_zip, ↓for_zip, ↓lc_enum, ↓for_enum, ↓q_tAug3, r3AddI, ↓datD_pair, datD_pair, eqv_pair, ↓m3Index_ref, wipe3, ↓len_tup, ↓len_rol, ↓c3Len_tup, ↓c3Len_rol, ↓c3Len_ref, ↓c3Int_int, ↓c3Int_bl, ↓c3Abs_int, ↓c3All_ref, ↓c3Any_ref, ↓c3Isi_tl, ↓c3Isi_ty, ↓m3Append_ref, ↓s3Lst_ref, ↓r3Is_non, ↓r3IsNot_non, atI_0, atI_1, atI_2, atI_3, atI_4, tyD_tup, tyD_int, tyD_bl, mc_bool, mc_int, mc_str, mc_tuple, mc_list, mc_dict, ib_NoneType_bool, ib_NoneType_int, ib_NoneType_str, ib_NoneType_tuple, ib_NoneType_list, ib_NoneType_dict, ib_bool_bool, ib_bool_int, ib_bool_str, ib_bool_tuple, ib_bool_list, ib_bool_dict, ib_int_bool, ib_int_int, ib_int_str, ib_int_tuple, ib_int_list, ib_int_dict, ib_str_bool, ib_str_int, ib_str_str, ib_str_tuple, ib_str_list, ib_str_dict, ib_tuple_bool, ib_tuple_int, ib_tuple_str, ib_tuple_tuple, ib_tuple_list, ib_tuple_dict, ib_list_bool, ib_list_int, ib_list_str, ib_list_tuple, ib_list_list, ib_list_dict, ib_dict_bool, ib_dict_int, ib_dict_str, ib_dict_tuple, ib_dict_list, ib_dict_dict, tyD_str, tyD_non, tyD_rol, Bool.or_false, Bool.false_or, Bool.or_true, Bool.true_or, ↓truD_bl, ↓truD_int, List.getElem?_cons_zero, List.getElem?_cons_succ, List.set_cons_zero, List.set_cons_succ, Option.some.injEq, L3.D.bl.injEq, L3.D.int.injEq, L3.D.ref.injEq, L3.D.tup.injEq, L3.D.ty.injEq, L3.D.str.injEq, List.cons.injEq, and_true, true_and, exists_eq_left, exists_eq_left', exists_eq, exists_eq', exists_and_left, exists_and_right, exists_const, and_assoc, exists_eq_right_right, exists_eq_right, ↓ite_both, decide_eq_true_eq, reduceCtorEq, false_and, and_false, exists_false, not_false_eq_true, not_true_eq_false, Bool.false_eq_true, implies_true, forall_const, true_implies, false_implies, Bool.not_eq_true, Bool.not_true, Bool.not_false, decide_true, decide_false, Bool.not_eq_true', Bool.not_eq_false', Bool.not_eq_false, if_true, if_false, Bool.and_true, Bool.true_and, Bool.and_false, Bool.false_and, r3Eq, r3Ne]
  refine ⟨fun h => ⟨h, n _ _ .refl ⟨j', i' % j', rfl, ?_⟩ ?_⟩, fun h => ret_same ?_⟩
  · rw [← e, Nat.gcd_comm i' j', Nat.gcd_rec j' i', Nat.gcd_comm]
  · show ((((i' : Int) % (j' : Int))).toNat) < ((j' : Int)).toNat
    have h1 := Int.emod_lt_of_pos (i' : Int) h
    have h2 := Int.emod_nonneg (i' : Int) (show (j' : Int) ≠ 0 by omega)
    omega
  · have z : j' = 0 := by omega
    subst z
    rw [Nat.gcd_zero_right] at e
    rw [e]
    exact q

def sp__law_num (K : PySem.W.Frag) : Sp3 := spA3 fun g t b M Q X => ∃ p, g = .int p ∧ ∃ i, t = .int i ∧ ∃ j, b = .int j ∧ (0 < p → j = 1) ∧ (¬ 0 < p → j ≠ 0 ∧ j.natAbs < 2 ^ 8900) ∧ Q (nuD (mkN p i j)) M
abbrev N__law_num : List Str := ["ground", "top", "bottom", "fits", "one", "shared"]
def tr__law_num (K : PySem.W.Frag) : TS3 := (tSeq3 (tIfS3 (tAnd3 (tTest3 (tOp3 r3Gt (tVar3 0) (tC3 (.int 0)))) (tTest3 (tOp3 r3Eq (tVar3 2) (tC3 (.int 1))))) (tRet3 (tTup3 (tCons3 (tOp3 r3Mod (tCB3 c3Int (tCons3 (tVar3 1) tNil3)) (tVar3 0)) (tCons3 (tC3 (.int 1)) tNil3)))) tNext3) (tSeq3 (tIfS3 (tTest3 (tOp3 r3Gt (tVar3 0) (tC3 (.int 0)))) (tSeq3 (tAsg3 (tLc3 (iRng23 (tCons3 (tC3 (.int 1)) (tCons3 (tVar3 0) tNil3))) (gName3 4) (tTest3 (tOp3 r3Eq (tOp3 r3Mod (tCB3 c3Int (tCons3 (tOp3 r3Mul (tVar3 4) (tVar3 2)) tNil3)) (tVar3 0)) (tC3 (.int 1)))) (tVar3 4) [4]) (gName3 3)) (tRet3 (tTup3 (tCons3 (tOp3 r3Mod (tCB3 c3Int (tCons3 (tOp3 r3Mul (tVar3 1) (tOp3 r3Ix (tOp3 r3Add (tVar3 3) (tLst3 (tCons3 (tC3 (.int 0)) tNil3))) (tC3 (.int 0)))) tNil3)) (tVar3 0)) (tCons3 (tC3 (.int 1)) tNil3))))) tNext3) (tSeq3 (tAsg3 (tCall3 (sp__law_divisor K) (tCons3 (tCB3 c3Abs (tCons3 (tVar3 1) tNil3)) (tCons3 (tCB3 c3Abs (tCons3 (tVar3 2) tNil3)) tNil3))) (gName3 5)) (tSeq3 (tAsg3 (tIf3 (tTest3 (tOp3 r3Gt (tVar3 2) (tC3 (.int 0)))) (tVar3 5) (tUn3 u3Neg (tVar3 5))) (gName3 5)) (tRet3 (tTup3 (tCons3 (tOp3 r3Div (tVar3 1) (tVar3 5)) (tCons3 (tOp3 r3Div (tVar3 2) (tVar3 5)) tNil3))))))))
theorem rd__law_num (K : PySem.W.Frag) : ∀ ds M Q E, sp__law_num K ds M Q E → tr__law_num K (endF M Q E) (start3 N__law_num ds) M := by
  rintro ds M Q E ⟨g, t, b, rfl, p, rfl, i, rfl, j, rfl, h1, h2, q⟩
  unfold tr__law_num
  simp only [start3, List.map_cons, List.map_nil, List.length_cons, List.length_nil, List.cons_append, List.nil_append, List.replicate_succ, List.replicate_zero, Nat.reduceAdd, Nat.reduceSub, Nat.zero_add]
  by_cases hp : 0 < p
  · have := h1 hp
    subst this
    simp only [mkN, if_pos hp] at q
    simp -implicitDefEqProofs only [hp, ↓ex_bl, ↓ex_int, ↓ex_str, ↓ex_ref, ↓ex_tup, ↓ex_some, ↓ex_eq, ↓ex_eq', ↓ex_1, ↓ex_2, ↓ex_3, ↓ex_4, ↓ex_5, ↓ite_tt, ↓ite_ff, ↓v3_0, ↓v3_s, ↓eq_int, ↓ne_int, ↓eq_bl, ↓ne_bl, ↓eq_pair, ↓ne_pair, eqv_bool, eqv_str, ↓pow_lit, ↓ix_t0, ↓ix_t1, ↓ix_tup, ↓ix_it, ↓q_tC3, ↓q_tOp3, ↓q_tUn3, ↓q_tTest3, ↓q_tChain3, ↓q_tTruth3, ↓q_tAnd3, ↓q_tOr3, ↓q_tNot3, ↓q_tAndV3, ↓q_tOrV3, ↓q_tNotV3, ↓q_tIf3, ↓q_tNil3, ↓q_tCons3, ↓q_tTup3, ↓q_tLst3, ↓q_tNoPart3, ↓q_tPart3, ↓q_tSl3, ↓q_tRev3, ↓r3Rev_tup, ↓r3IsNot_bl, ↓r3Is_bl, ↓r3Sl_tup, ↓c3List_tup, ↓c3List_ref, ↓q_tCB3, ↓q_tBM3, ↓q_tBM03, ↓q_tNext3, ↓q_tSeq3, ↓q_tDrop3, ↓q_tRet3, ↓q_tRetN3, ↓q_tIfS3, ↓q_gName3, ↓gnil_eq, ↓gcons_eq, ↓q_gTup3, ↓q_gSub3, ↓q_tAsg3, ↓q_tPar3, ↓q_tYes3, ↓q_tCall3, ↓q_tTryAs3, ↓q_goneE_nx, ↓q_goneE_rt, ↓q_c3IsE, ↓is_bl, ↓c3Str_int, ↓q_tRaise3, ↓q_spA0, ↓q_spA1, ↓q_spA2, ↓q_spA3, ↓q_spA4, ↓q_spA5, ↓q_endF_rt, ↓q_endF_nx, ↓q_endF_xx, r3Lt, r3Le, r3Gt, r3Ge, r3Mod, r3Div, r3Pow, r3Sub, ↓r3I_int, ↓r3I0_int, ↓r3Add_int, ↓r3Add_tup, ↓r3Add_ref, ↓r3Mul_int, ↓r3Mul_ref, datD_non, ↓datD_bl, ↓datD_int, eqv_int, ↓items_tup, ↓items_rol, ↓items_new, ↓len_new, ↓mupd_same, L3.MO.lst.injEq, List.length_cons, List.length_nil, Nat.reduceAdd, Nat.zero_add, sizeLine_eq, Nat.reduceLeDiff, Nat.reducePow, Int.reduceLT, Int.reduceLE, Int.reducePow, Int.reduceToNat, Int.reduceNeg, Int.reduceAdd, Int.cast_ofNat_Int, Int.reduceSub, Int.reduceMul, Nat.reduceMul, Nat.reduceLT, cpow_lit, List.length_append, List.length_map, ↓u3Neg_int, fdiv_pos, ↓q_tDict0, ix_1_0, ix_2_0, ix_2_1, ix_3_0, ix_3_1, ix_3_2, ix_4_0, ix_4_1, ix_4_2, ix_4_3, ix_5_0, ix_5_1, ix_5_2, ix_5_3, ix_5_4, decide_eq_false_iff_not, ↓lc_seq, ↓lc_r1, ↓lc_r2, ↓for_seq, ↓for_r1, ↓for_r2, ↓c3Tuple_it, ↓c3Min2_int, ↓c3Max2_int, ↓m3Pop_ref, ↓lc_zip, ↓for_zip, ↓lc_enum, ↓for_enum, ↓q_tAug3, r3AddI, ↓datD_pair, datD_pair, eqv_pair, ↓m3Index_ref, wipe3, ↓len_tup, ↓len_rol, ↓c3Len_tup, ↓c3Len_rol, ↓c3Len_ref, ↓c3Int_int, ↓c3Int_bl, ↓c3Abs_int, ↓c3All_ref, ↓c3Any_ref, ↓c3Isi_tl, ↓c3Isi_ty, ↓m3Append_ref, ↓s3Lst_ref, ↓r3Is_non, ↓r3IsNot_non, atI_0, atI_1, atI_2, atI_3, atI_4, tyD_tup, tyD_int, tyD_bl, mc_bool, mc_int, mc_str, mc_tuple, mc_list, mc_dict, ib_NoneType_bool, ib_NoneType_int, ib_NoneType_str, ib_NoneType_tuple, ib_NoneType_list, ib_NoneType_dict, ib_bool_bool, ib_bool_int, ib_bool_str, ib_bool_tuple, ib_bool_list, ib_bool_dict, ib_int_bool, ib_int_int, ib_int_str, ib_int_tuple, ib_int_list, ib_int_dict, ib_str_bool, ib_str_int, ib_str_str, ib_str_tuple, ib_str_list, ib_str_dict, ib_tuple_bool, ib_tuple_int, ib_tuple_str, ib_tuple_tuple, ib_tuple_list, ib_tuple_dict, ib_list_bool, ib_list_int, ib_list_str, ib_list_tuple, ib_list_list, ib_list_dict, ib_dict_bool, ib_dict_int, ib_dict_str, ib_dict_tuple, ib_dict_list, ib_dict_dict, tyD_str, tyD_non, tyD_rol, Bool.or_false, Bool.false_or, Bool.or_true, Bool.true_or, ↓truD_bl, ↓truD_int, List.getElem?_cons_zero, List.getElem?_cons_succ, List.set_cons_zero, List.set_cons_succ, Option.some.injEq, L3.D.bl.injEq, L3.D.int.injEq, L3.D.ref.injEq, L3.D.tup.injEq, L3.D.ty.injEq, L3.D.str.injEq, List.cons.injEq, and_true, true_and, exists_eq_left, exists_eq_left', exists_eq, exists_eq', exists_and_left, exists_and_right, exists_const, and_assoc, exists_eq_right_right, exists_eq_right, ↓ite_both, decide_eq_true_eq, reduceCtorEq, false_and, and_false, exists_false, not_false_eq_true, not_true_eq_false, Bool.false_eq_true, implies_true, forall_const, true_implies, false_implies, Bool.not_eq_true, Bool.not_true, Bool.not_false, decide_true, decide_false, Bool.not_eq_true', Bool.not_eq_false', Bool.not_eq_false, if_true, if_false, Bool.and_true, Bool.true_and, Bool.and_false, Bool.false_and, r3Eq, r3Ne]
    exact ret_same q
  · obtain ⟨hj, hs⟩ := h2 hp
    simp only [mkN, if_neg hp] at q
    have g0 := gcd_pos (t := i) (b := j) hj
    have g1 : Nat.gcd i.natAbs j.natAbs ≤ j.natAbs := Nat.gcd_le_right _ (by omega)
    have hk : ∀ x : Int, CDivF x ((Nat.gcd i.natAbs j.natAbs : Nat) : Int) := fun x => divOkN (b := 8900) (by omega) (by rw [Int.natAbs_natCast]; exact Nat.lt_of_le_of_lt g1 hs) (by decide) (by decide)
    have hk2 : ∀ x : Int, CDivF x (-((Nat.gcd i.natAbs j.natAbs : Nat) : Int)) := fun x => divOkN (b := 8900) (by omega) (by rw [Int.natAbs_neg, Int.natAbs_natCast]; exact Nat.lt_of_le_of_lt g1 hs) (by decide) (by decide)
    simp -implicitDefEqProofs only [hp, sp__law_divisor, ↓ex_bl, ↓ex_int, ↓ex_str, ↓ex_ref, ↓ex_tup, ↓ex_some, ↓ex_eq, ↓ex_eq', ↓ex_1, ↓ex_2, ↓ex_3, ↓ex_4, ↓ex_5, ↓ite_tt, ↓ite_ff, ↓v3_0, ↓v3_s, ↓eq_int, ↓ne_int, ↓eq_bl, ↓ne_bl, ↓eq_pair, ↓ne_pair, eqv_bool, eqv_str, ↓pow_lit, ↓ix_t0, ↓ix_t1, ↓ix_tup, ↓ix_it, ↓q_tC3, ↓q_tOp3, ↓q_tUn3, ↓q_tTest3, ↓q_tChain3, ↓q_tTruth3, ↓q_tAnd3, ↓q_tOr3, ↓q_tNot3, ↓q_tAndV3, ↓q_tOrV3, ↓q_tNotV3, ↓q_tIf3, ↓q_tNil3, ↓q_tCons3, ↓q_tTup3, ↓q_tLst3, ↓q_tNoPart3, ↓q_tPart3, ↓q_tSl3, ↓q_tRev3, ↓r3Rev_tup, ↓r3IsNot_bl, ↓r3Is_bl, ↓r3Sl_tup, ↓c3List_tup, ↓c3List_ref, ↓q_tCB3, ↓q_tBM3, ↓q_tBM03, ↓q_tNext3, ↓q_tSeq3, ↓q_tDrop3, ↓q_tRet3, ↓q_tRetN3, ↓q_tIfS3, ↓q_gName3, ↓gnil_eq, ↓gcons_eq, ↓q_gTup3, ↓q_gSub3, ↓q_tAsg3, ↓q_tPar3, ↓q_tYes3, ↓q_tCall3, ↓q_tTryAs3, ↓q_goneE_nx, ↓q_goneE_rt, ↓q_c3IsE, ↓is_bl, ↓c3Str_int, ↓q_tRaise3, ↓q_spA0, ↓q_spA1, ↓q_spA2, ↓q_spA3, ↓q_spA4, ↓q_spA5, ↓q_endF_rt, ↓q_endF_nx, ↓q_endF_xx, r3Lt, r3Le, r3Gt, r3Ge, r3Mod, r3Div, r3Pow, r3Sub, ↓r3I_int, ↓r3I0_int, ↓r3Add_int, ↓r3Add_tup, ↓r3Add_ref, ↓r3Mul_int, ↓r3Mul_ref, datD_non, ↓datD_bl, ↓datD_int, eqv_int, ↓items_tup, ↓items_rol, ↓items_new, ↓len_new, ↓mupd_same, L3.MO.lst.injEq, List.length_cons, List.length_nil, Nat.reduceAdd, Nat.zero_add, sizeLine_eq, Nat.reduceLeDiff, Nat.reducePow, Int.reduceLT, Int.reduceLE, Int.reducePow, Int.reduceToNat, Int.reduceNeg, Int.reduceAdd, Int.cast_ofNat_Int, Int.reduceSub, Int.reduceMul, Nat.reduceMul, Nat.reduceLT, cpow_lit, List.length_append, List.length_map, ↓u3Neg_int, fdiv_pos, ↓q_tDict0, ix_1_0, ix_2_0, ix_2_1, ix_3_0, ix_3_1, ix_3_2, ix_4_0, ix_4_1, ix_4_2, ix_4_3, ix_5_0, ix_5_1, ix_5_2, ix_5_3, ix_5_4, decide_eq_false_iff_not, ↓lc_seq, ↓lc_r1, ↓lc_r2, ↓for_seq, ↓for_r1, ↓for_r2, ↓c3Tuple_it, ↓c3Min2_int, ↓c3Max2_int, ↓m3Pop_ref, ↓lc_zip, ↓for_zip, ↓lc_enum, ↓for_enum, ↓q_tAug3, r3AddI, ↓datD_pair, datD_pair, eqv_pair, ↓m3Index_ref, wipe3, ↓len_tup, ↓len_rol, ↓c3Len_tup, ↓c3Len_rol, ↓c3Len_ref, ↓c3Int_int, ↓c3Int_bl, ↓c3Abs_int, ↓c3All_ref, ↓c3Any_ref, ↓c3Isi_tl, ↓c3Isi_ty, ↓m3Append_ref, ↓s3Lst_ref, ↓r3Is_non, ↓r3IsNot_non, atI_0, atI_1, atI_2, atI_3, atI_4, tyD_tup, tyD_int, tyD_bl, mc_bool, mc_int, mc_str, mc_tuple, mc_list, mc_dict, ib_NoneType_bool, ib_NoneType_int, ib_NoneType_str, ib_NoneType_tuple, ib_NoneType_list, ib_NoneType_dict, ib_bool_bool, ib_bool_int, ib_bool_str, ib_bool_tuple, ib_bool_list, ib_bool_dict, ib_int_bool, ib_int_int, ib_int_str, ib_int_tuple, ib_int_list, ib_int_dict, ib_str_bool, ib_str_int, ib_str_str, ib_str_tuple, ib_str_list, ib_str_dict, ib_tuple_bool, ib_tuple_int, ib_tuple_str, ib_tuple_tuple, ib_tuple_list, ib_tuple_dict, ib_list_bool, ib_list_int, ib_list_str, ib_list_tuple, ib_list_list, ib_list_dict, ib_dict_bool, ib_dict_int, ib_dict_str, ib_dict_tuple, ib_dict_list, ib_dict_dict, tyD_str, tyD_non, tyD_rol, Bool.or_false, Bool.false_or, Bool.or_true, Bool.true_or, ↓truD_bl, ↓truD_int, List.getElem?_cons_zero, List.getElem?_cons_succ, List.set_cons_zero, List.set_cons_succ, Option.some.injEq, L3.D.bl.injEq, L3.D.int.injEq, L3.D.ref.injEq, L3.D.tup.injEq, L3.D.ty.injEq, L3.D.str.injEq, List.cons.injEq, and_true, true_and, exists_eq_left, exists_eq_left', exists_eq, exists_eq', exists_and_left, exists_and_right, exists_const, and_assoc, exists_eq_right_right, exists_eq_right, ↓ite_both, decide_eq_true_eq, reduceCtorEq, false_and, and_false, exists_false, not_false_eq_true, not_true_eq_false, Bool.false_eq_true, implies_true, forall_const, true_implies, false_implies, Bool.not_eq_true, Bool.not_true, Bool.not_false, decide_true, decide_false, Bool.not_eq_true', Bool.not_eq_false', Bool.not_eq_false, if_true, if_false, Bool.and_true, Bool.true_and, Bool.and_false, Bool.false_and, r3Eq, r3Ne]
    refine ⟨i.natAbs, rfl, j.natAbs, rfl, fun h0 => ⟨hk _, hk _, ret_same ?_⟩, fun h0 => ⟨hk2 _, hk2 _, ret_same ?_⟩⟩
    · have := q_made (t := i) h0
      first
        | (rw [this]; exact q)
        | (rw [Int.fdiv_eq_ediv_of_nonneg _ (by omega), Int.fdiv_eq_ediv_of_nonneg _ (by omega)] at this; rw [this]; exact q)
    · rw [q_lowest (by omega)]
      exact q

def sp__law_number (K : PySem.W.Frag) : Sp3 := spA2 fun a b M Q X => ∃ h, a = .ref h ∧ ∃ p, b = .int p ∧ Gd p ∧ HandOk M h ∧ ∀ x M', NuOk p x → Sz 5 x → HStep h M M' → Q (nuD x) M'
abbrev N__law_number : List Str := ["hand", "ground", "top"]
def tr__law_number (K : PySem.W.Frag) : TS3 := (tSeq3 (tIfS3 (tTest3 (tOp3 r3Gt (tVar3 1) (tC3 (.int 0)))) (tRet3 (tTup3 (tCons3 (tCall3 (sp__law_any K) (tCons3 (tVar3 0) (tCons3 (tLst3 (tCons3 (tC3 (.int 0)) (tCons3 (tC3 (.int 1)) (tCons3 (tOp3 r3Sub (tVar3 1) (tC3 (.int 1))) (tCons3 (tCall3 (sp__law_draw K) (tCons3 (tVar3 0) (tCons3 (tVar3 1) tNil3))) tNil3))))) tNil3))) (tCons3 (tC3 (.int 1)) tNil3)))) tNext3) (tSeq3 (tAsg3 (tCall3 (sp__law_any K) (tCons3 (tVar3 0) (tCons3 (tLst3 (tCons3 (tC3 (.int 0)) (tCons3 (tC3 (.int 1)) (tCons3 (tUn3 u3Neg (tC3 (.int 1))) (tCons3 (tC3 (.int 2)) (tCons3 (tUn3 u3Neg (tC3 (.int 3))) (tCons3 (tOp3 r3Sub (tCall3 (sp__law_draw K) (tCons3 (tVar3 0) (tCons3 (tC3 (.int 19)) tNil3))) (tC3 (.int 9))) (tCons3 (tOp3 r3Sub (tCall3 (sp__law_draw K) (tCons3 (tVar3 0) (tCons3 (tC3 (.int 19)) tNil3))) (tC3 (.int 9))) tNil3)))))))) tNil3))) (gName3 2)) (tRet3 (tCall3 (sp__law_num K) (tCons3 (tC3 (.int 0)) (tCons3 (tVar3 2) (tCons3 (tCall3 (sp__law_any K) (tCons3 (tVar3 0) (tCons3 (tLst3 (tCons3 (tC3 (.int 1)) (tCons3 (tC3 (.int 1)) (tCons3 (tC3 (.int 1)) (tCons3 (tC3 (.int 1)) (tCons3 (tC3 (.int 2)) (tCons3 (tC3 (.int 3)) (tCons3 (tOp3 r3Add (tC3 (.int 1)) (tCall3 (sp__law_draw K) (tCons3 (tVar3 0) (tCons3 (tC3 (.int 9)) tNil3)))) tNil3)))))))) tNil3))) tNil3)))))))
theorem rd__law_number (K : PySem.W.Frag) : ∀ ds M Q E, sp__law_number K ds M Q E → tr__law_number K (endF M Q E) (start3 N__law_number ds) M := by
  rintro ds M Q E ⟨a, b, rfl, h, rfl, p, rfl, hg, hk, q⟩
  have pl := hg.lt
  unfold tr__law_number
  simp only [start3, List.map_cons, List.map_nil, List.length_cons, List.length_nil, List.cons_append, List.nil_append, List.replicate_succ, List.replicate_zero, Nat.reduceAdd, Nat.reduceSub, Nat.zero_add]
  simp -implicitDefEqProofs only [sp__law_any, spAny, sp__law_draw, spDraw, sp__law_num, ↓ex_bl, ↓ex_int, ↓ex_str, ↓ex_ref, ↓ex_tup, ↓ex_some, ↓ex_eq, ↓ex_eq', ↓ex_1, ↓ex_2, ↓ex_3, ↓ex_4, ↓ex_5, ↓ite_tt, ↓ite_ff, ↓v3_0, ↓v3_s, ↓eq_int, ↓ne_int, ↓eq_bl, ↓ne_bl, ↓eq_pair, ↓ne_pair, eqv_bool, eqv_str, ↓pow_lit, ↓ix_t0, ↓ix_t1, ↓ix_tup, ↓ix_it, ↓q_tC3, ↓q_tOp3, ↓q_tUn3, ↓q_tTest3, ↓q_tChain3, ↓q_tTruth3, ↓q_tAnd3, ↓q_tOr3, ↓q_tNot3, ↓q_tAndV3, ↓q_tOrV3, ↓q_tNotV3, ↓q_tIf3, ↓q_tNil3, ↓q_tCons3, ↓q_tTup3, ↓q_tLst3, ↓q_tNoPart3, ↓q_tPart3, ↓q_tSl3, ↓q_tRev3, ↓r3Rev_tup, ↓r3IsNot_bl, ↓r3Is_bl, ↓r3Sl_tup, ↓c3List_tup, ↓c3List_ref, ↓q_tCB3, ↓q_tBM3, ↓q_tBM03, ↓q_tNext3, ↓q_tSeq3, ↓q_tDrop3, ↓q_tRet3, ↓q_tRetN3, ↓q_tIfS3, ↓q_gName3, ↓gnil_eq, ↓gcons_eq, ↓q_gTup3, ↓q_gSub3, ↓q_tAsg3, ↓q_tPar3, ↓q_tYes3, ↓q_tCall3, ↓q_tTryAs3, ↓q_goneE_nx, ↓q_goneE_rt, ↓q_c3IsE, ↓is_bl, ↓c3Str_int, ↓q_tRaise3, ↓q_spA0, ↓q_spA1, ↓q_spA2, ↓q_spA3, ↓q_spA4, ↓q_spA5, ↓q_endF_rt, ↓q_endF_nx, ↓q_endF_xx, r3Lt, r3Le, r3Gt, r3Ge, r3Mod, r3Div, r3Pow, r3Sub, ↓r3I_int, ↓r3I0_int, ↓r3Add_int, ↓r3Add_tup, ↓r3Add_ref, ↓r3Mul_int, ↓r3Mul_ref, datD_non, ↓datD_bl, ↓datD_int, eqv_int, ↓items_tup, ↓items_rol, ↓items_new, ↓len_new, ↓mupd_same, L3.MO.lst.injEq, List.length_cons, List.length_nil, Nat.reduceAdd, Nat.zero_add, sizeLine_eq, Nat.reduceLeDiff, Nat.reducePow, Int.reduceLT, Int.reduceLE, Int.reducePow, Int.reduceToNat, Int.reduceNeg, Int.reduceAdd, Int.cast_ofNat_Int, Int.reduceSub, Int.reduceMul, Nat.reduceMul, Nat.reduceLT, cpow_lit, List.length_append, List.length_map, ↓u3Neg_int, fdiv_pos, ↓q_tDict0, ix_1_0, ix_2_0, ix_2_1, ix_3_0, ix_3_1, ix_3_2, ix_4_0, ix_4_1, ix_4_2, ix_4_3, ix_5_0, ix_5_1, ix_5_2, ix_5_3, ix_5_4, decide_eq_false_iff_not, ↓lc_seq, ↓lc_r1, ↓lc_r2, ↓for_seq, ↓for_r1, ↓for_r2, ↓c3Tuple_it, ↓c3Min2_int, ↓c3Max2_int, ↓m3Pop_ref, ↓lc_zip, ↓for_zip, ↓lc_enum, ↓for_enum, ↓q_tAug3, r3AddI, ↓datD_pair, datD_pair, eqv_pair, ↓m3Index_ref, wipe3, ↓len_tup, ↓len_rol, ↓c3Len_tup, ↓c3Len_rol, ↓c3Len_ref, ↓c3Int_int, ↓c3Int_bl, ↓c3Abs_int, ↓c3All_ref, ↓c3Any_ref, ↓c3Isi_tl, ↓c3Isi_ty, ↓m3Append_ref, ↓s3Lst_ref, ↓r3Is_non, ↓r3IsNot_non, atI_0, atI_1, atI_2, atI_3, atI_4, tyD_tup, tyD_int, tyD_bl, mc_bool, mc_int, mc_str, mc_tuple, mc_list, mc_dict, ib_NoneType_bool, ib_NoneType_int, ib_NoneType_str, ib_NoneType_tuple, ib_NoneType_list, ib_NoneType_dict, ib_bool_bool, ib_bool_int, ib_bool_str, ib_bool_tuple, ib_bool_list, ib_bool_dict, ib_int_bool, ib_int_int, ib_int_str, ib_int_tuple, ib_int_list, ib_int_dict, ib_str_bool, ib_str_int, ib_str_str, ib_str_tuple, ib_str_list, ib_str_dict, ib_tuple_bool, ib_tuple_int, ib_tuple_str, ib_tuple_tuple, ib_tuple_list, ib_tuple_dict, ib_list_bool, ib_list_int, ib_list_str, ib_list_tuple, ib_list_list, ib_list_dict, ib_dict_bool, ib_dict_int, ib_dict_str, ib_dict_tuple, ib_dict_list, ib_dict_dict, tyD_str, tyD_non, tyD_rol, Bool.or_false, Bool.false_or, Bool.or_true, Bool.true_or, ↓truD_bl, ↓truD_int, List.getElem?_cons_zero, List.getElem?_cons_succ, List.set_cons_zero, List.set_cons_succ, Option.some.injEq, L3.D.bl.injEq, L3.D.int.injEq, L3.D.ref.injEq, L3.D.tup.injEq, L3.D.ty.injEq, L3.D.str.injEq, List.cons.injEq, and_true, true_and, exists_eq_left, exists_eq_left', exists_eq, exists_eq', exists_and_left, exists_and_right, exists_const, and_assoc, exists_eq_right_right, exists_eq_right, ↓ite_both, decide_eq_true_eq, reduceCtorEq, false_and, and_false, exists_false, not_false_eq_true, not_true_eq_false, Bool.false_eq_true, implies_true, forall_const, true_implies, false_implies, Bool.not_eq_true, Bool.not_true, Bool.not_false, decide_true, decide_false, Bool.not_eq_true', Bool.not_eq_false', Bool.not_eq_false, if_true, if_false, Bool.and_true, Bool.true_and, Bool.and_false, Bool.false_and, r3Eq, r3Ne]
  refine ⟨fun hp => ⟨hp, by omega, hk, fun r M1 r0 r1 s1 l hl => ⟨s1.ok.ne hl, s1.ok.new hl, fun d M2 hd s2 => ?_⟩⟩, fun hp => ⟨hk, fun r M1 r0 r1 s1 => ⟨s1.ok, fun r2 M2 r20 r21 s2 l hl => ⟨s2.ok.ne hl, s2.ok.new hl, fun d M3 hd s3 => ⟨s3.ok, fun r4 M4 r40 r41 s4 l2 hl2 => ⟨s4.ok.ne hl2, s4.ok.new hl2, fun d5 M5 hd5 s5 => ?_⟩⟩⟩⟩⟩⟩
  · have ss := (s1.new hl).trans s2
    obtain ⟨i, rfl, i0, i1⟩ : ∃ i : Int, d = .int i ∧ 0 ≤ i ∧ i < p := by
      simp only [List.mem_cons, List.not_mem_nil, or_false] at hd
      rcases hd with rfl | rfl | rfl | rfl
      · exact ⟨_, rfl, by omega, by omega⟩
      · refine ⟨_, rfl, by omega, ?_⟩
        rcases hg with rfl | hg
        · exact absurd hp (by decide)
        · exact (by decide : ∀ p ∈ primesL, 1 < p) p hg
      · exact ⟨_, rfl, by omega, by omega⟩
      · exact ⟨_, rfl, by omega, by omega⟩
    exact ss.ret (q (.m i) _ ⟨hp, i0, i1⟩ trivial ss)
  · have ss := (((s1.trans s2).new hl).trans s3).trans ((s4.new hl2).trans s5)
    obtain ⟨i, rfl, i0, i1⟩ : ∃ i : Int, d = .int i ∧ -10 < i ∧ i < 10 := by
      simp only [List.mem_cons, List.not_mem_nil, or_false] at hd
      rcases hd with rfl | rfl | rfl | rfl | rfl | rfl | rfl
      all_goals exact ⟨_, rfl, by omega, by omega⟩
    obtain ⟨j, rfl, j0, j1⟩ : ∃ j : Int, d5 = .int j ∧ 0 < j ∧ j < 10 := by
      simp only [List.mem_cons, List.not_mem_nil, or_false] at hd5
      rcases hd5 with rfl | rfl | rfl | rfl | rfl | rfl | rfl
      all_goals exact ⟨_, rfl, by omega, by omega⟩
    have e0 : p = 0 := by omega
    subst e0
    refine ⟨i, rfl, j, rfl, by omega, ?_, ?_⟩
    · exact Nat.lt_of_lt_of_le (show j.natAbs < 2 ^ 5 by omega) (Nat.pow_le_pow_right (by decide) (by decide))
    · refine ss.ret (q (.q (Rat.divInt i j)) _ rfl ?_ ss)
      exact sz_div (n := 5) (m := 5) (by omega) (by omega) (by omega) (Nat.le_refl _) (Nat.le_refl _)

def sp__law_poly (K : PySem.W.Frag) : Sp3 := spA2 fun a b M Q X => ∃ h, a = .ref h ∧ ∃ p, b = .int p ∧ Gd p ∧ HandOk M h ∧ ∀ xs M', PolyOk p xs → xs.length ≤ 11 → (∀ x ∈ xs, Sz 5 x) → HStep h M M' → Q (polyD xs) M'
abbrev N__law_poly : List Str := ["hand", "ground", "many", "found", "turn"]
def tr__law_poly (K : PySem.W.Frag) : TS3 := (tSeq3 (tAsg3 (tCall3 (sp__law_any K) (tCons3 (tVar3 0) (tCons3 (tLst3 (tCons3 (tC3 (.int 0)) (tCons3 (tC3 (.int 1)) (tCons3 (tC3 (.int 2)) (tCons3 (tC3 (.int 3)) (tCons3 (tC3 (.int 4)) (tCons3 (tC3 (.int 6)) (tCons3 (tC3 (.int 11)) tNil3)))))))) tNil3))) (gName3 2)) (tSeq3 (tAsg3 (tLc3 (iRng13 (tCons3 (tVar3 2) tNil3)) (gName3 4) tYes3 (tCall3 (sp__law_number K) (tCons3 (tVar3 0) (tCons3 (tVar3 1) tNil3))) [4]) (gName3 3)) (tSeq3 (tFor3 (iRng13 (tCons3 (tCall3 (sp__law_any K) (tCons3 (tVar3 0) (tCons3 (tLst3 (tCons3 (tC3 (.int 0)) (tCons3 (tC3 (.int 0)) (tCons3 (tC3 (.int 0)) (tCons3 (tCB3 c3Min2 (tCons3 (tC3 (.int 1)) (tCons3 (tVar3 2) tNil3))) (tCons3 (tVar3 2) tNil3)))))) tNil3))) tNil3)) (gName3 4) (tAsg3 (tTup3 (tCons3 (tC3 (.int 0)) (tCons3 (tC3 (.int 1)) tNil3))) (gSub3 (tVar3 3) (tVar3 4) s3Lst))) (tSeq3 (tWhile3 (tAnd3 (tTest3 (tOp3 r3Gt (tCB3 c3Len (tCons3 (tVar3 3) tNil3)) (tC3 (.int 0)))) (tTest3 (tOp3 r3Eq (tOp3 r3Ix (tVar3 3) (tUn3 u3Neg (tC3 (.int 1)))) (tTup3 (tCons3 (tC3 (.int 0)) (tCons3 (tC3 (.int 1)) tNil3)))))) (tDrop3 (tBM03 m3Pop (tVar3 3)))) (tRet3 (tCB3 c3Tuple (tCons3 (tVar3 3) tNil3)))))))
theorem hand_wr {M : Mm} {h l : Addr} {ds : List D} {o : MO} (k : HandOk M h) (hl : ¬ l = h) (e : M l = some (.lst ds)) (hx : ∃ d ∈ ds, ∀ i, d ≠ .int i) : HandOk (mupd M l o) h := by
  obtain ⟨c, cs, a, b, x, y, n, e1, e2, z⟩ := k
  have hc : ¬ c = l := fun w => by
    rw [w, e] at e2
    cases e2
    obtain ⟨d, hd, hx⟩ := hx
    obtain ⟨i, _, rfl⟩ := List.mem_map.mp hd
    exact hx i rfl
  exact ⟨c, cs, a, b, x, y, n, by rw [mupd_ne (fun w => hl w.symm)]; exact e1, by rw [mupd_ne hc]; exact e2, z⟩
theorem rd__law_poly (K : PySem.W.Frag) : ∀ ds M Q E, sp__law_poly K ds M Q E → tr__law_poly K (endF M Q E) (start3 N__law_poly ds) M := by
  rintro ds M Q E ⟨a, b, rfl, h, rfl, p, rfl, hg, hk, q⟩
  unfold tr__law_poly
  simp only [start3, List.map_cons, List.map_nil, List.length_cons, List.length_nil, List.cons_append, List.nil_append, List.replicate_succ, List.replicate_zero, Nat.reduceAdd, Nat.reduceSub, Nat.zero_add]
  simp -implicitDefEqProofs only [sp__law_any, spAny, ↓ex_bl, ↓ex_int, ↓ex_str, ↓ex_ref, ↓ex_tup, ↓ex_some, ↓ex_eq, ↓ex_eq', ↓ex_1, ↓ex_2, ↓ex_3, ↓ex_4, ↓ex_5, ↓ite_tt, ↓ite_ff, ↓v3_0, ↓v3_s, ↓eq_int, ↓ne_int, ↓eq_bl, ↓ne_bl, ↓eq_pair, ↓ne_pair, eqv_bool, eqv_str, ↓pow_lit, ↓ix_t0, ↓ix_t1, ↓ix_tup, ↓ix_it, ↓q_tC3, ↓q_tOp3, ↓q_tUn3, ↓q_tTest3, ↓q_tChain3, ↓q_tTruth3, ↓q_tAnd3, ↓q_tOr3, ↓q_tNot3, ↓q_tAndV3, ↓q_tOrV3, ↓q_tNotV3, ↓q_tIf3, ↓q_tNil3, ↓q_tCons3, ↓q_tTup3, ↓q_tLst3, ↓q_tNoPart3, ↓q_tPart3, ↓q_tSl3, ↓q_tRev3, ↓r3Rev_tup, ↓r3IsNot_bl, ↓r3Is_bl, ↓r3Sl_tup, ↓c3List_tup, ↓c3List_ref, ↓q_tCB3, ↓q_tBM3, ↓q_tBM03, ↓q_tNext3, ↓q_tSeq3, ↓q_tDrop3, ↓q_tRet3, ↓q_tRetN3, ↓q_tIfS3, ↓q_gName3, ↓gnil_eq, ↓gcons_eq, ↓q_gTup3, ↓q_gSub3, ↓q_tAsg3, ↓q_tPar3, ↓q_tYes3, ↓q_tCall3, ↓q_tTryAs3, ↓q_goneE_nx, ↓q_goneE_rt, ↓q_c3IsE, ↓is_bl, ↓c3Str_int, ↓q_tRaise3, ↓q_spA0, ↓q_spA1, ↓q_spA2, ↓q_spA3, ↓q_spA4, ↓q_spA5, ↓q_endF_rt, ↓q_endF_nx, ↓q_endF_xx, r3Lt, r3Le, r3Gt, r3Ge, r3Mod, r3Div, r3Pow, r3Sub, ↓r3I_int, ↓r3I0_int, ↓r3Add_int, ↓r3Add_tup, ↓r3Add_ref, ↓r3Mul_int, ↓r3Mul_ref, datD_non, ↓datD_bl, ↓datD_int, eqv_int, ↓items_tup, ↓items_rol, ↓items_new, ↓len_new, ↓mupd_same, L3.MO.lst.injEq, List.length_cons, List.length_nil, Nat.reduceAdd, Nat.zero_add, sizeLine_eq, Nat.reduceLeDiff, Nat.reducePow, Int.reduceLT, Int.reduceLE, Int.reducePow, Int.reduceToNat, Int.reduceNeg, Int.reduceAdd, Int.cast_ofNat_Int, Int.reduceSub, Int.reduceMul, Nat.reduceMul, Nat.reduceLT, cpow_lit, List.length_append, List.length_map, ↓u3Neg_int, fdiv_pos, ↓q_tDict0, ix_1_0, ix_2_0, ix_2_1, ix_3_0, ix_3_1, ix_3_2, ix_4_0, ix_4_1, ix_4_2, ix_4_3, ix_5_0, ix_5_1, ix_5_2, ix_5_3, ix_5_4, decide_eq_false_iff_not, ↓lc_seq, ↓lc_r1, ↓lc_r2, ↓for_seq, ↓for_r1, ↓for_r2, ↓c3Tuple_it, ↓c3Min2_int, ↓c3Max2_int, ↓m3Pop_ref, ↓lc_zip, ↓for_zip, ↓lc_enum, ↓for_enum, ↓q_tAug3, r3AddI, ↓datD_pair, datD_pair, eqv_pair, ↓m3Index_ref, wipe3, ↓len_tup, ↓len_rol, ↓c3Len_tup, ↓c3Len_rol, ↓c3Len_ref, ↓c3Int_int, ↓c3Int_bl, ↓c3Abs_int, ↓c3All_ref, ↓c3Any_ref, ↓c3Isi_tl, ↓c3Isi_ty, ↓m3Append_ref, ↓s3Lst_ref, ↓r3Is_non, ↓r3IsNot_non, atI_0, atI_1, atI_2, atI_3, atI_4, tyD_tup, tyD_int, tyD_bl, mc_bool, mc_int, mc_str, mc_tuple, mc_list, mc_dict, ib_NoneType_bool, ib_NoneType_int, ib_NoneType_str, ib_NoneType_tuple, ib_NoneType_list, ib_NoneType_dict, ib_bool_bool, ib_bool_int, ib_bool_str, ib_bool_tuple, ib_bool_list, ib_bool_dict, ib_int_bool, ib_int_int, ib_int_str, ib_int_tuple, ib_int_list, ib_int_dict, ib_str_bool, ib_str_int, ib_str_str, ib_str_tuple, ib_str_list, ib_str_dict, ib_tuple_bool, ib_tuple_int, ib_tuple_str, ib_tuple_tuple, ib_tuple_list, ib_tuple_dict, ib_list_bool, ib_list_int, ib_list_str, ib_list_tuple, ib_list_list, ib_list_dict, ib_dict_bool, ib_dict_int, ib_dict_str, ib_dict_tuple, ib_dict_list, ib_dict_dict, tyD_str, tyD_non, tyD_rol, Bool.or_false, Bool.false_or, Bool.or_true, Bool.true_or, ↓truD_bl, ↓truD_int, List.getElem?_cons_zero, List.getElem?_cons_succ, List.set_cons_zero, List.set_cons_succ, Option.some.injEq, L3.D.bl.injEq, L3.D.int.injEq, L3.D.ref.injEq, L3.D.tup.injEq, L3.D.ty.injEq, L3.D.str.injEq, List.cons.injEq, and_true, true_and, exists_eq_left, exists_eq_left', exists_eq, exists_eq', exists_and_left, exists_and_right, exists_const, and_assoc, exists_eq_right_right, exists_eq_right, ↓ite_both, decide_eq_true_eq, reduceCtorEq, false_and, and_false, exists_false, not_false_eq_true, not_true_eq_false, Bool.false_eq_true, implies_true, forall_const, true_implies, false_implies, Bool.not_eq_true, Bool.not_true, Bool.not_false, decide_true, decide_false, Bool.not_eq_true', Bool.not_eq_false', Bool.not_eq_false, if_true, if_false, Bool.and_true, Bool.true_and, Bool.and_false, Bool.false_and, r3Eq, r3Ne]
  refine fun l hl => ⟨hk.ne hl, hk.new hl, fun d M1 hd s1 => ?_⟩
  obtain ⟨m, rfl, m0, m1⟩ : ∃ m : Nat, d = .int (m : Int) ∧ 0 ≤ m ∧ m ≤ 11 := by
    simp only [List.mem_cons, List.not_mem_nil, or_false] at hd
    rcases hd with rfl | rfl | rfl | rfl | rfl | rfl | rfl
    · exact ⟨0, rfl, by decide, by decide⟩
    · exact ⟨1, rfl, by decide, by decide⟩
    · exact ⟨2, rfl, by decide, by decide⟩
    · exact ⟨3, rfl, by decide, by decide⟩
    · exact ⟨4, rfl, by decide, by decide⟩
    · exact ⟨6, rfl, by decide, by decide⟩
    · exact ⟨11, rfl, by decide, by decide⟩
  have e1 := (HStep.alloc hk hl).trans s1
  simp -implicitDefEqProofs only [↓ex_bl, ↓ex_int, ↓ex_str, ↓ex_ref, ↓ex_tup, ↓ex_some, ↓ex_eq, ↓ex_eq', ↓ex_1, ↓ex_2, ↓ex_3, ↓ex_4, ↓ex_5, ↓ite_tt, ↓ite_ff, ↓v3_0, ↓v3_s, ↓eq_int, ↓ne_int, ↓eq_bl, ↓ne_bl, ↓eq_pair, ↓ne_pair, eqv_bool, eqv_str, ↓pow_lit, ↓ix_t0, ↓ix_t1, ↓ix_tup, ↓ix_it, ↓q_tC3, ↓q_tOp3, ↓q_tUn3, ↓q_tTest3, ↓q_tChain3, ↓q_tTruth3, ↓q_tAnd3, ↓q_tOr3, ↓q_tNot3, ↓q_tAndV3, ↓q_tOrV3, ↓q_tNotV3, ↓q_tIf3, ↓q_tNil3, ↓q_tCons3, ↓q_tTup3, ↓q_tLst3, ↓q_tNoPart3, ↓q_tPart3, ↓q_tSl3, ↓q_tRev3, ↓r3Rev_tup, ↓r3IsNot_bl, ↓r3Is_bl, ↓r3Sl_tup, ↓c3List_tup, ↓c3List_ref, ↓q_tCB3, ↓q_tBM3, ↓q_tBM03, ↓q_tNext3, ↓q_tSeq3, ↓q_tDrop3, ↓q_tRet3, ↓q_tRetN3, ↓q_tIfS3, ↓q_gName3, ↓gnil_eq, ↓gcons_eq, ↓q_gTup3, ↓q_gSub3, ↓q_tAsg3, ↓q_tPar3, ↓q_tYes3, ↓q_tCall3, ↓q_tTryAs3, ↓q_goneE_nx, ↓q_goneE_rt, ↓q_c3IsE, ↓is_bl, ↓c3Str_int, ↓q_tRaise3, ↓q_spA0, ↓q_spA1, ↓q_spA2, ↓q_spA3, ↓q_spA4, ↓q_spA5, ↓q_endF_rt, ↓q_endF_nx, ↓q_endF_xx, r3Lt, r3Le, r3Gt, r3Ge, r3Mod, r3Div, r3Pow, r3Sub, ↓r3I_int, ↓r3I0_int, ↓r3Add_int, ↓r3Add_tup, ↓r3Add_ref, ↓r3Mul_int, ↓r3Mul_ref, datD_non, ↓datD_bl, ↓datD_int, eqv_int, ↓items_tup, ↓items_rol, ↓items_new, ↓len_new, ↓mupd_same, L3.MO.lst.injEq, List.length_cons, List.length_nil, Nat.reduceAdd, Nat.zero_add, sizeLine_eq, Nat.reduceLeDiff, Nat.reducePow, Int.reduceLT, Int.reduceLE, Int.reducePow, Int.reduceToNat, Int.reduceNeg, Int.reduceAdd, Int.cast_ofNat_Int, Int.reduceSub, Int.reduceMul, Nat.reduceMul, Nat.reduceLT, cpow_lit, List.length_append, List.length_map, ↓u3Neg_int, fdiv_pos, ↓q_tDict0, ix_1_0, ix_2_0, ix_2_1, ix_3_0, ix_3_1, ix_3_2, ix_4_0, ix_4_1, ix_4_2, ix_4_3, ix_5_0, ix_5_1, ix_5_2, ix_5_3, ix_5_4, decide_eq_false_iff_not, ↓lc_seq, ↓lc_r1, ↓lc_r2, ↓for_seq, ↓for_r1, ↓for_r2, ↓c3Tuple_it, ↓c3Min2_int, ↓c3Max2_int, ↓m3Pop_ref, ↓lc_zip, ↓for_zip, ↓lc_enum, ↓for_enum, ↓q_tAug3, r3AddI, ↓datD_pair, datD_pair, eqv_pair, ↓m3Index_ref, wipe3, ↓len_tup, ↓len_rol, ↓c3Len_tup, ↓c3Len_rol, ↓c3Len_ref, ↓c3Int_int, ↓c3Int_bl, ↓c3Abs_int, ↓c3All_ref, ↓c3Any_ref, ↓c3Isi_tl, ↓c3Isi_ty, ↓m3Append_ref, ↓s3Lst_ref, ↓r3Is_non, ↓r3IsNot_non, atI_0, atI_1, atI_2, atI_3, atI_4, tyD_tup, tyD_int, tyD_bl, mc_bool, mc_int, mc_str, mc_tuple, mc_list, mc_dict, ib_NoneType_bool, ib_NoneType_int, ib_NoneType_str, ib_NoneType_tuple, ib_NoneType_list, ib_NoneType_dict, ib_bool_bool, ib_bool_int, ib_bool_str, ib_bool_tuple, ib_bool_list, ib_bool_dict, ib_int_bool, ib_int_int, ib_int_str, ib_int_tuple, ib_int_list, ib_int_dict, ib_str_bool, ib_str_int, ib_str_str, ib_str_tuple, ib_str_list, ib_str_dict, ib_tuple_bool, ib_tuple_int, ib_tuple_str, ib_tuple_tuple, ib_tuple_list, ib_tuple_dict, ib_list_bool, ib_list_int, ib_list_str, ib_list_tuple, ib_list_list, ib_list_dict, ib_dict_bool, ib_dict_int, ib_dict_str, ib_dict_tuple, ib_dict_list, ib_dict_dict, tyD_str, tyD_non, tyD_rol, Bool.or_false, Bool.false_or, Bool.or_true, Bool.true_or, ↓truD_bl, ↓truD_int, List.getElem?_cons_zero, List.getElem?_cons_succ, List.set_cons_zero, List.set_cons_succ, Option.some.injEq, L3.D.bl.injEq, L3.D.int.injEq, L3.D.ref.injEq, L3.D.tup.injEq, L3.D.ty.injEq, L3.D.str.injEq, List.cons.injEq, and_true, true_and, exists_eq_left, exists_eq_left', exists_eq, exists_eq', exists_and_left, exists_and_right, exists_const, and_assoc, exists_eq_right_right, exists_eq_right, ↓ite_both, decide_eq_true_eq, reduceCtorEq, false_and, and_false, exists_false, not_false_eq_true, not_true_eq_false, Bool.false_eq_true, implies_true, forall_const, true_implies, false_implies, Bool.not_eq_true, Bool.not_true, Bool.not_false, decide_true, decide_false, Bool.not_eq_true', Bool.not_eq_false', Bool.not_eq_false, if_true, if_false, Bool.and_true, Bool.true_and, Bool.and_false, Bool.false_and, r3Eq, r3Ne]
  refine ⟨by omega, by omega, ?_⟩
  refine lcb_h s1.ok (fun i acc M' => ∃ xs : List Nu, acc = xs.map nuD ∧ ∀ x ∈ xs, NuOk p x ∧ Sz 5 x) ⟨[], rfl, by simp⟩ (fun _ _ => trivial) (by rw [rng_len]; show _ ≤ sizeLine; rw [sizeLine_eq]; omega) ?_ ?_
  · rintro i d acc M2 R hd2 s2 ⟨xs, rfl, hx⟩ hR
    simp -implicitDefEqProofs only [sp__law_number, ↓ex_bl, ↓ex_int, ↓ex_str, ↓ex_ref, ↓ex_tup, ↓ex_some, ↓ex_eq, ↓ex_eq', ↓ex_1, ↓ex_2, ↓ex_3, ↓ex_4, ↓ex_5, ↓ite_tt, ↓ite_ff, ↓v3_0, ↓v3_s, ↓eq_int, ↓ne_int, ↓eq_bl, ↓ne_bl, ↓eq_pair, ↓ne_pair, eqv_bool, eqv_str, ↓pow_lit, ↓ix_t0, ↓ix_t1, ↓ix_tup, ↓ix_it, ↓q_tC3, ↓q_tOp3, ↓q_tUn3, ↓q_tTest3, ↓q_tChain3, ↓q_tTruth3, ↓q_tAnd3, ↓q_tOr3, ↓q_tNot3, ↓q_tAndV3, ↓q_tOrV3, ↓q_tNotV3, ↓q_tIf3, ↓q_tNil3, ↓q_tCons3, ↓q_tTup3, ↓q_tLst3, ↓q_tNoPart3, ↓q_tPart3, ↓q_tSl3, ↓q_tRev3, ↓r3Rev_tup, ↓r3IsNot_bl, ↓r3Is_bl, ↓r3Sl_tup, ↓c3List_tup, ↓c3List_ref, ↓q_tCB3, ↓q_tBM3, ↓q_tBM03, ↓q_tNext3, ↓q_tSeq3, ↓q_tDrop3, ↓q_tRet3, ↓q_tRetN3, ↓q_tIfS3, ↓q_gName3, ↓gnil_eq, ↓gcons_eq, ↓q_gTup3, ↓q_gSub3, ↓q_tAsg3, ↓q_tPar3, ↓q_tYes3, ↓q_tCall3, ↓q_tTryAs3, ↓q_goneE_nx, ↓q_goneE_rt, ↓q_c3IsE, ↓is_bl, ↓c3Str_int, ↓q_tRaise3, ↓q_spA0, ↓q_spA1, ↓q_spA2, ↓q_spA3, ↓q_spA4, ↓q_spA5, ↓q_endF_rt, ↓q_endF_nx, ↓q_endF_xx, r3Lt, r3Le, r3Gt, r3Ge, r3Mod, r3Div, r3Pow, r3Sub, ↓r3I_int, ↓r3I0_int, ↓r3Add_int, ↓r3Add_tup, ↓r3Add_ref, ↓r3Mul_int, ↓r3Mul_ref, datD_non, ↓datD_bl, ↓datD_int, eqv_int, ↓items_tup, ↓items_rol, ↓items_new, ↓len_new, ↓mupd_same, L3.MO.lst.injEq, List.length_cons, List.length_nil, Nat.reduceAdd, Nat.zero_add, sizeLine_eq, Nat.reduceLeDiff, Nat.reducePow, Int.reduceLT, Int.reduceLE, Int.reducePow, Int.reduceToNat, Int.reduceNeg, Int.reduceAdd, Int.cast_ofNat_Int, Int.reduceSub, Int.reduceMul, Nat.reduceMul, Nat.reduceLT, cpow_lit, List.length_append, List.length_map, ↓u3Neg_int, fdiv_pos, ↓q_tDict0, ix_1_0, ix_2_0, ix_2_1, ix_3_0, ix_3_1, ix_3_2, ix_4_0, ix_4_1, ix_4_2, ix_4_3, ix_5_0, ix_5_1, ix_5_2, ix_5_3, ix_5_4, decide_eq_false_iff_not, ↓lc_seq, ↓lc_r1, ↓lc_r2, ↓for_seq, ↓for_r1, ↓for_r2, ↓c3Tuple_it, ↓c3Min2_int, ↓c3Max2_int, ↓m3Pop_ref, ↓lc_zip, ↓for_zip, ↓lc_enum, ↓for_enum, ↓q_tAug3, r3AddI, ↓datD_pair, datD_pair, eqv_pair, ↓m3Index_ref, wipe3, ↓len_tup, ↓len_rol, ↓c3Len_tup, ↓c3Len_rol, ↓c3Len_ref, ↓c3Int_int, ↓c3Int_bl, ↓c3Abs_int, ↓c3All_ref, ↓c3Any_ref, ↓c3Isi_tl, ↓c3Isi_ty, ↓m3Append_ref, ↓s3Lst_ref, ↓r3Is_non, ↓r3IsNot_non, atI_0, atI_1, atI_2, atI_3, atI_4, tyD_tup, tyD_int, tyD_bl, mc_bool, mc_int, mc_str, mc_tuple, mc_list, mc_dict, ib_NoneType_bool, ib_NoneType_int, ib_NoneType_str, ib_NoneType_tuple, ib_NoneType_list, ib_NoneType_dict, ib_bool_bool, ib_bool_int, ib_bool_str, ib_bool_tuple, ib_bool_list, ib_bool_dict, ib_int_bool, ib_int_int, ib_int_str, ib_int_tuple, ib_int_list, ib_int_dict, ib_str_bool, ib_str_int, ib_str_str, ib_str_tuple, ib_str_list, ib_str_dict, ib_tuple_bool, ib_tuple_int, ib_tuple_str, ib_tuple_tuple, ib_tuple_list, ib_tuple_dict, ib_list_bool, ib_list_int, ib_list_str, ib_list_tuple, ib_list_list, ib_list_dict, ib_dict_bool, ib_dict_int, ib_dict_str, ib_dict_tuple, ib_dict_list, ib_dict_dict, tyD_str, tyD_non, tyD_rol, Bool.or_false, Bool.false_or, Bool.or_true, Bool.true_or, ↓truD_bl, ↓truD_int, List.getElem?_cons_zero, List.getElem?_cons_succ, List.set_cons_zero, List.set_cons_succ, Option.some.injEq, L3.D.bl.injEq, L3.D.int.injEq, L3.D.ref.injEq, L3.D.tup.injEq, L3.D.ty.injEq, L3.D.str.injEq, List.cons.injEq, and_true, true_and, exists_eq_left, exists_eq_left', exists_eq, exists_eq', exists_and_left, exists_and_right, exists_const, and_assoc, exists_eq_right_right, exists_eq_right, ↓ite_both, decide_eq_true_eq, reduceCtorEq, false_and, and_false, exists_false, not_false_eq_true, not_true_eq_false, Bool.false_eq_true, implies_true, forall_const, true_implies, false_implies, Bool.not_eq_true, Bool.not_true, Bool.not_false, decide_true, decide_false, Bool.not_eq_true', Bool.not_eq_false', Bool.not_eq_false, if_true, if_false, Bool.and_true, Bool.true_and, Bool.and_false, Bool.false_and, r3Eq, r3Ne]
    refine ⟨hg, s2.ok, fun x M3 hx3 zx3 s3 => hR _ _ (s2.trans s3) ⟨xs ++ [x], by simp, ?_⟩⟩
    intro y hy
    rcases List.mem_append.mp hy with z | z
    · exact hx y z
    · rw [List.mem_singleton] at z
      rw [z]
      exact ⟨hx3, zx3⟩
  · rintro acc M2 s2 ⟨xs, rfl, hx⟩ hlen l2 h2
    have hlen' : (xs.map nuD).length = (rngL 0 (m : Int)).length := hlen
    have hm : xs.length = m := by
      rw [List.length_map, rng_len] at hlen'
      omega
    intro l3 h3
    have s2n := s2.new (o := .lst (xs.map nuD)) h2
    refine ⟨s2n.ok.ne h3, s2n.ok.new h3, fun d M3 hd3 s3 => ?_⟩
    obtain ⟨j, rfl, j0, j1⟩ : ∃ j : Int, d = .int j ∧ 0 ≤ j ∧ j ≤ m := by
      simp only [List.mem_cons, List.not_mem_nil, or_false] at hd3
      rcases hd3 with rfl | rfl | rfl | rfl | rfl
      · exact ⟨0, rfl, by decide, by omega⟩
      · exact ⟨0, rfl, by decide, by omega⟩
      · exact ⟨0, rfl, by decide, by omega⟩
      · refine ⟨_, rfl, ?_, ?_⟩
        · split <;> omega
        · split <;> omega
      · exact ⟨_, rfl, by omega, by omega⟩
    refine ⟨j, rfl, by omega, by omega, ?_⟩
    have e3 : HStep h M M3 := (e1.trans s2).trans (((HStep.alloc s2.ok h2).new h3).trans s3)
    have k2 : M3 l2 = some (.lst (xs.map nuD)) := s3.rest _ _ (s2.ok.ne h2) (new_ne mupd_same h3)
    have em := mupd_self k2
    rw [← em]
    have hne : ¬ l2 = h := s2.ok.ne h2
    have none0 : M l2 = none := by
      cases z : M l2 with
      | none => rfl
      | some o =>
        have := (e1.trans s2).rest l2 o hne z
        rw [h2] at this
        cases this
    have stp : ∀ ys : List Nu, ys.length ≤ m → HStep h M (mupd M3 l2 (.lst (ys.map nuD))) := fun ys hy => by
      cases xs with
      | nil =>
        have : ys = [] := List.length_eq_zero_iff.mp (by have : m = 0 := hm.symm; omega)
        subst this
        rw [em]
        exact e3
      | cons x xs =>
        refine ⟨hand_wr e3.ok hne k2 ⟨nuD x, by simp, ?_⟩, fun a o na eo => ?_⟩
        · intro i e
          obtain ⟨c, f, e2⟩ := nu_pair x
          rw [e2] at e
          cases e
        · rw [mupd_ne (fun z => by rw [z, none0] at eo; cases eo)]
          exact e3.rest a o na eo
    refine forB_acc (fun i σ acc => (∃ v4, σ = [some (.ref h), some (.int p), some (.int (m : Int)), some (.ref l2), v4]) ∧ ∃ ys : List Nu, acc = ys.map nuD ∧ ys.length = m ∧ ∀ x ∈ ys, NuOk p x ∧ Sz 5 x) ⟨⟨_, rfl⟩, xs, rfl, hm, hx⟩ (fun _ => trivial) ?_ ?_
    · rintro i d σ' acc N hd4 hi ⟨⟨v4, rfl⟩, ys, rfl, hl4, hy⟩ nx
      have hi2 : i < (rngL 0 j).length := hi
      rw [rng_len] at hi2
      obtain ⟨rfl, hi3⟩ := rng_get hd4
      have ixi : ixN m (0 + ((i : Nat) : Int)) = some i := by
        unfold ixN
        rw [if_pos (by omega), if_pos (by omega)]
        congr 1
        omega
      simp -implicitDefEqProofs only [hl4, ixi, mupd_mupd, ↓ex_bl, ↓ex_int, ↓ex_str, ↓ex_ref, ↓ex_tup, ↓ex_some, ↓ex_eq, ↓ex_eq', ↓ex_1, ↓ex_2, ↓ex_3, ↓ex_4, ↓ex_5, ↓ite_tt, ↓ite_ff, ↓v3_0, ↓v3_s, ↓eq_int, ↓ne_int, ↓eq_bl, ↓ne_bl, ↓eq_pair, ↓ne_pair, eqv_bool, eqv_str, ↓pow_lit, ↓ix_t0, ↓ix_t1, ↓ix_tup, ↓ix_it, ↓q_tC3, ↓q_tOp3, ↓q_tUn3, ↓q_tTest3, ↓q_tChain3, ↓q_tTruth3, ↓q_tAnd3, ↓q_tOr3, ↓q_tNot3, ↓q_tAndV3, ↓q_tOrV3, ↓q_tNotV3, ↓q_tIf3, ↓q_tNil3, ↓q_tCons3, ↓q_tTup3, ↓q_tLst3, ↓q_tNoPart3, ↓q_tPart3, ↓q_tSl3, ↓q_tRev3, ↓r3Rev_tup, ↓r3IsNot_bl, ↓r3Is_bl, ↓r3Sl_tup, ↓c3List_tup, ↓c3List_ref, ↓q_tCB3, ↓q_tBM3, ↓q_tBM03, ↓q_tNext3, ↓q_tSeq3, ↓q_tDrop3, ↓q_tRet3, ↓q_tRetN3, ↓q_tIfS3, ↓q_gName3, ↓gnil_eq, ↓gcons_eq, ↓q_gTup3, ↓q_gSub3, ↓q_tAsg3, ↓q_tPar3, ↓q_tYes3, ↓q_tCall3, ↓q_tTryAs3, ↓q_goneE_nx, ↓q_goneE_rt, ↓q_c3IsE, ↓is_bl, ↓c3Str_int, ↓q_tRaise3, ↓q_spA0, ↓q_spA1, ↓q_spA2, ↓q_spA3, ↓q_spA4, ↓q_spA5, ↓q_endF_rt, ↓q_endF_nx, ↓q_endF_xx, r3Lt, r3Le, r3Gt, r3Ge, r3Mod, r3Div, r3Pow, r3Sub, ↓r3I_int, ↓r3I0_int, ↓r3Add_int, ↓r3Add_tup, ↓r3Add_ref, ↓r3Mul_int, ↓r3Mul_ref, datD_non, ↓datD_bl, ↓datD_int, eqv_int, ↓items_tup, ↓items_rol, ↓items_new, ↓len_new, ↓mupd_same, L3.MO.lst.injEq, List.length_cons, List.length_nil, Nat.reduceAdd, Nat.zero_add, sizeLine_eq, Nat.reduceLeDiff, Nat.reducePow, Int.reduceLT, Int.reduceLE, Int.reducePow, Int.reduceToNat, Int.reduceNeg, Int.reduceAdd, Int.cast_ofNat_Int, Int.reduceSub, Int.reduceMul, Nat.reduceMul, Nat.reduceLT, cpow_lit, List.length_append, List.length_map, ↓u3Neg_int, fdiv_pos, ↓q_tDict0, ix_1_0, ix_2_0, ix_2_1, ix_3_0, ix_3_1, ix_3_2, ix_4_0, ix_4_1, ix_4_2, ix_4_3, ix_5_0, ix_5_1, ix_5_2, ix_5_3, ix_5_4, decide_eq_false_iff_not, ↓lc_seq, ↓lc_r1, ↓lc_r2, ↓for_seq, ↓for_r1, ↓for_r2, ↓c3Tuple_it, ↓c3Min2_int, ↓c3Max2_int, ↓m3Pop_ref, ↓lc_zip, ↓for_zip, ↓lc_enum, ↓for_enum, ↓q_tAug3, r3AddI, ↓datD_pair, datD_pair, eqv_pair, ↓m3Index_ref, wipe3, ↓len_tup, ↓len_rol, ↓c3Len_tup, ↓c3Len_rol, ↓c3Len_ref, ↓c3Int_int, ↓c3Int_bl, ↓c3Abs_int, ↓c3All_ref, ↓c3Any_ref, ↓c3Isi_tl, ↓c3Isi_ty, ↓m3Append_ref, ↓s3Lst_ref, ↓r3Is_non, ↓r3IsNot_non, atI_0, atI_1, atI_2, atI_3, atI_4, tyD_tup, tyD_int, tyD_bl, mc_bool, mc_int, mc_str, mc_tuple, mc_list, mc_dict, ib_NoneType_bool, ib_NoneType_int, ib_NoneType_str, ib_NoneType_tuple, ib_NoneType_list, ib_NoneType_dict, ib_bool_bool, ib_bool_int, ib_bool_str, ib_bool_tuple, ib_bool_list, ib_bool_dict, ib_int_bool, ib_int_int, ib_int_str, ib_int_tuple, ib_int_list, ib_int_dict, ib_str_bool, ib_str_int, ib_str_str, ib_str_tuple, ib_str_list, ib_str_dict, ib_tuple_bool, ib_tuple_int, ib_tuple_str, ib_tuple_tuple, ib_tuple_list, ib_tuple_dict, ib_list_bool, ib_list_int, ib_list_str, ib_list_tuple, ib_list_list, ib_list_dict, ib_dict_bool, ib_dict_int, ib_dict_str, ib_dict_tuple, ib_dict_list, ib_dict_dict, tyD_str, tyD_non, tyD_rol, Bool.or_false, Bool.false_or, Bool.or_true, Bool.true_or, ↓truD_bl, ↓truD_int, List.getElem?_cons_zero, List.getElem?_cons_succ, List.set_cons_zero, List.set_cons_succ, Option.some.injEq, L3.D.bl.injEq, L3.D.int.injEq, L3.D.ref.injEq, L3.D.tup.injEq, L3.D.ty.injEq, L3.D.str.injEq, List.cons.injEq, and_true, true_and, exists_eq_left, exists_eq_left', exists_eq, exists_eq', exists_and_left, exists_and_right, exists_const, and_assoc, exists_eq_right_right, exists_eq_right, ↓ite_both, decide_eq_true_eq, reduceCtorEq, false_and, and_false, exists_false, not_false_eq_true, not_true_eq_false, Bool.false_eq_true, implies_true, forall_const, true_implies, false_implies, Bool.not_eq_true, Bool.not_true, Bool.not_false, decide_true, decide_false, Bool.not_eq_true', Bool.not_eq_false', Bool.not_eq_false, if_true, if_false, Bool.and_true, Bool.true_and, Bool.and_false, Bool.false_and, r3Eq, r3Ne]
      refine nx _ _ _ .refl ⟨⟨_, rfl⟩, ys.set i (zeroN p), ?_, by rw [List.length_set]; exact hl4, ?_⟩
      · rw [← zero_nu (p := p), List.map_set]
      · intro x hx'
        rcases List.mem_or_eq_of_mem_set hx' with z | z
        · exact hy x z
        · rw [z]
          exact ⟨zero_ok hg.lt.1, zero_sz (n := 4)⟩
    · rintro σ' acc ⟨⟨v4, rfl⟩, ys, rfl, hl4, hy⟩
      simp -implicitDefEqProofs only [↓ex_bl, ↓ex_int, ↓ex_str, ↓ex_ref, ↓ex_tup, ↓ex_some, ↓ex_eq, ↓ex_eq', ↓ex_1, ↓ex_2, ↓ex_3, ↓ex_4, ↓ex_5, ↓ite_tt, ↓ite_ff, ↓v3_0, ↓v3_s, ↓eq_int, ↓ne_int, ↓eq_bl, ↓ne_bl, ↓eq_pair, ↓ne_pair, eqv_bool, eqv_str, ↓pow_lit, ↓ix_t0, ↓ix_t1, ↓ix_tup, ↓ix_it, ↓q_tC3, ↓q_tOp3, ↓q_tUn3, ↓q_tTest3, ↓q_tChain3, ↓q_tTruth3, ↓q_tAnd3, ↓q_tOr3, ↓q_tNot3, ↓q_tAndV3, ↓q_tOrV3, ↓q_tNotV3, ↓q_tIf3, ↓q_tNil3, ↓q_tCons3, ↓q_tTup3, ↓q_tLst3, ↓q_tNoPart3, ↓q_tPart3, ↓q_tSl3, ↓q_tRev3, ↓r3Rev_tup, ↓r3IsNot_bl, ↓r3Is_bl, ↓r3Sl_tup, ↓c3List_tup, ↓c3List_ref, ↓q_tCB3, ↓q_tBM3, ↓q_tBM03, ↓q_tNext3, ↓q_tSeq3, ↓q_tDrop3, ↓q_tRet3, ↓q_tRetN3, ↓q_tIfS3, ↓q_gName3, ↓gnil_eq, ↓gcons_eq, ↓q_gTup3, ↓q_gSub3, ↓q_tAsg3, ↓q_tPar3, ↓q_tYes3, ↓q_tCall3, ↓q_tTryAs3, ↓q_goneE_nx, ↓q_goneE_rt, ↓q_c3IsE, ↓is_bl, ↓c3Str_int, ↓q_tRaise3, ↓q_spA0, ↓q_spA1, ↓q_spA2, ↓q_spA3, ↓q_spA4, ↓q_spA5, ↓q_endF_rt, ↓q_endF_nx, ↓q_endF_xx, r3Lt, r3Le, r3Gt, r3Ge, r3Mod, r3Div, r3Pow, r3Sub, ↓r3I_int, ↓r3I0_int, ↓r3Add_int, ↓r3Add_tup, ↓r3Add_ref, ↓r3Mul_int, ↓r3Mul_ref, datD_non, ↓datD_bl, ↓datD_int, eqv_int, ↓items_tup, ↓items_rol, ↓items_new, ↓len_new, ↓mupd_same, L3.MO.lst.injEq, List.length_cons, List.length_nil, Nat.reduceAdd, Nat.zero_add, sizeLine_eq, Nat.reduceLeDiff, Nat.reducePow, Int.reduceLT, Int.reduceLE, Int.reducePow, Int.reduceToNat, Int.reduceNeg, Int.reduceAdd, Int.cast_ofNat_Int, Int.reduceSub, Int.reduceMul, Nat.reduceMul, Nat.reduceLT, cpow_lit, List.length_append, List.length_map, ↓u3Neg_int, fdiv_pos, ↓q_tDict0, ix_1_0, ix_2_0, ix_2_1, ix_3_0, ix_3_1, ix_3_2, ix_4_0, ix_4_1, ix_4_2, ix_4_3, ix_5_0, ix_5_1, ix_5_2, ix_5_3, ix_5_4, decide_eq_false_iff_not, ↓lc_seq, ↓lc_r1, ↓lc_r2, ↓for_seq, ↓for_r1, ↓for_r2, ↓c3Tuple_it, ↓c3Min2_int, ↓c3Max2_int, ↓m3Pop_ref, ↓lc_zip, ↓for_zip, ↓lc_enum, ↓for_enum, ↓q_tAug3, r3AddI, ↓datD_pair, datD_pair, eqv_pair, ↓m3Index_ref, wipe3, ↓len_tup, ↓len_rol, ↓c3Len_tup, ↓c3Len_rol, ↓c3Len_ref, ↓c3Int_int, ↓c3Int_bl, ↓c3Abs_int, ↓c3All_ref, ↓c3Any_ref, ↓c3Isi_tl, ↓c3Isi_ty, ↓m3Append_ref, ↓s3Lst_ref, ↓r3Is_non, ↓r3IsNot_non, atI_0, atI_1, atI_2, atI_3, atI_4, tyD_tup, tyD_int, tyD_bl, mc_bool, mc_int, mc_str, mc_tuple, mc_list, mc_dict, ib_NoneType_bool, ib_NoneType_int, ib_NoneType_str, ib_NoneType_tuple, ib_NoneType_list, ib_NoneType_dict, ib_bool_bool, ib_bool_int, ib_bool_str, ib_bool_tuple, ib_bool_list, ib_bool_dict, ib_int_bool, ib_int_int, ib_int_str, ib_int_tuple, ib_int_list, ib_int_dict, ib_str_bool, ib_str_int, ib_str_str, ib_str_tuple, ib_str_list, ib_str_dict, ib_tuple_bool, ib_tuple_int, ib_tuple_str, ib_tuple_tuple, ib_tuple_list, ib_tuple_dict, ib_list_bool, ib_list_int, ib_list_str, ib_list_tuple, ib_list_list, ib_list_dict, ib_dict_bool, ib_dict_int, ib_dict_str, ib_dict_tuple, ib_dict_list, ib_dict_dict, tyD_str, tyD_non, tyD_rol, Bool.or_false, Bool.false_or, Bool.or_true, Bool.true_or, ↓truD_bl, ↓truD_int, List.getElem?_cons_zero, List.getElem?_cons_succ, List.set_cons_zero, List.set_cons_succ, Option.some.injEq, L3.D.bl.injEq, L3.D.int.injEq, L3.D.ref.injEq, L3.D.tup.injEq, L3.D.ty.injEq, L3.D.str.injEq, List.cons.injEq, and_true, true_and, exists_eq_left, exists_eq_left', exists_eq, exists_eq', exists_and_left, exists_and_right, exists_const, and_assoc, exists_eq_right_right, exists_eq_right, ↓ite_both, decide_eq_true_eq, reduceCtorEq, false_and, and_false, exists_false, not_false_eq_true, not_true_eq_false, Bool.false_eq_true, implies_true, forall_const, true_implies, false_implies, Bool.not_eq_true, Bool.not_true, Bool.not_false, decide_true, decide_false, Bool.not_eq_true', Bool.not_eq_false', Bool.not_eq_false, if_true, if_false, Bool.and_true, Bool.true_and, Bool.and_false, Bool.false_and, r3Eq, r3Ne]
      refine while_acc (fun σ acc => (∃ v4, σ = [some (.ref h), some (.int p), some (.int (m : Int)), some (.ref l2), v4]) ∧ ∃ n, n ≤ m ∧ acc = (ys.take n).map nuD ∧ trimL (ys.take n) = trimL ys) (fun _ acc => acc.length) ⟨⟨_, rfl⟩, m, Nat.le_refl _, by rw [← hl4, List.take_length], by rw [← hl4, List.take_length]⟩ ?_
      rintro σ2 acc N ⟨⟨v5, rfl⟩, n, hn, rfl, ht⟩ nx
      have fin : trimL (ys.take n) = ys.take n → retE M Q (.tup ((ys.take n).map nuD)) (mupd M3 l2 (.lst ((ys.take n).map nuD))) := fun e => by
        have ok := trimL_ok (p := p) (xs := ys) fun x hx' => (hy x hx').1
        rw [← ht, e] at ok
        refine (stp (ys.take n) (by rw [List.length_take]; omega)).ret (q (ys.take n) _ ok (by rw [List.length_take]; omega) (fun x hx' => (hy x (List.mem_of_mem_take hx')).2) (stp _ (by rw [List.length_take]; omega)))
      simp -implicitDefEqProofs only [↓ex_bl, ↓ex_int, ↓ex_str, ↓ex_ref, ↓ex_tup, ↓ex_some, ↓ex_eq, ↓ex_eq', ↓ex_1, ↓ex_2, ↓ex_3, ↓ex_4, ↓ex_5, ↓ite_tt, ↓ite_ff, ↓v3_0, ↓v3_s, ↓eq_int, ↓ne_int, ↓eq_bl, ↓ne_bl, ↓eq_pair, ↓ne_pair, eqv_bool, eqv_str, ↓pow_lit, ↓ix_t0, ↓ix_t1, ↓ix_tup, ↓ix_it, ↓q_tC3, ↓q_tOp3, ↓q_tUn3, ↓q_tTest3, ↓q_tChain3, ↓q_tTruth3, ↓q_tAnd3, ↓q_tOr3, ↓q_tNot3, ↓q_tAndV3, ↓q_tOrV3, ↓q_tNotV3, ↓q_tIf3, ↓q_tNil3, ↓q_tCons3, ↓q_tTup3, ↓q_tLst3, ↓q_tNoPart3, ↓q_tPart3, ↓q_tSl3, ↓q_tRev3, ↓r3Rev_tup, ↓r3IsNot_bl, ↓r3Is_bl, ↓r3Sl_tup, ↓c3List_tup, ↓c3List_ref, ↓q_tCB3, ↓q_tBM3, ↓q_tBM03, ↓q_tNext3, ↓q_tSeq3, ↓q_tDrop3, ↓q_tRet3, ↓q_tRetN3, ↓q_tIfS3, ↓q_gName3, ↓gnil_eq, ↓gcons_eq, ↓q_gTup3, ↓q_gSub3, ↓q_tAsg3, ↓q_tPar3, ↓q_tYes3, ↓q_tCall3, ↓q_tTryAs3, ↓q_goneE_nx, ↓q_goneE_rt, ↓q_c3IsE, ↓is_bl, ↓c3Str_int, ↓q_tRaise3, ↓q_spA0, ↓q_spA1, ↓q_spA2, ↓q_spA3, ↓q_spA4, ↓q_spA5, ↓q_endF_rt, ↓q_endF_nx, ↓q_endF_xx, r3Lt, r3Le, r3Gt, r3Ge, r3Mod, r3Div, r3Pow, r3Sub, ↓r3I_int, ↓r3I0_int, ↓r3Add_int, ↓r3Add_tup, ↓r3Add_ref, ↓r3Mul_int, ↓r3Mul_ref, datD_non, ↓datD_bl, ↓datD_int, eqv_int, ↓items_tup, ↓items_rol, ↓items_new, ↓len_new, ↓mupd_same, L3.MO.lst.injEq, List.length_cons, List.length_nil, Nat.reduceAdd, Nat.zero_add, sizeLine_eq, Nat.reduceLeDiff, Nat.reducePow, Int.reduceLT, Int.reduceLE, Int.reducePow, Int.reduceToNat, Int.reduceNeg, Int.reduceAdd, Int.cast_ofNat_Int, Int.reduceSub, Int.reduceMul, Nat.reduceMul, Nat.reduceLT, cpow_lit, List.length_append, List.length_map, ↓u3Neg_int, fdiv_pos, ↓q_tDict0, ix_1_0, ix_2_0, ix_2_1, ix_3_0, ix_3_1, ix_3_2, ix_4_0, ix_4_1, ix_4_2, ix_4_3, ix_5_0, ix_5_1, ix_5_2, ix_5_3, ix_5_4, decide_eq_false_iff_not, ↓lc_seq, ↓lc_r1, ↓lc_r2, ↓for_seq, ↓for_r1, ↓for_r2, ↓c3Tuple_it, ↓c3Min2_int, ↓c3Max2_int, ↓m3Pop_ref, ↓lc_zip, ↓for_zip, ↓lc_enum, ↓for_enum, ↓q_tAug3, r3AddI, ↓datD_pair, datD_pair, eqv_pair, ↓m3Index_ref, wipe3, ↓len_tup, ↓len_rol, ↓c3Len_tup, ↓c3Len_rol, ↓c3Len_ref, ↓c3Int_int, ↓c3Int_bl, ↓c3Abs_int, ↓c3All_ref, ↓c3Any_ref, ↓c3Isi_tl, ↓c3Isi_ty, ↓m3Append_ref, ↓s3Lst_ref, ↓r3Is_non, ↓r3IsNot_non, atI_0, atI_1, atI_2, atI_3, atI_4, tyD_tup, tyD_int, tyD_bl, mc_bool, mc_int, mc_str, mc_tuple, mc_list, mc_dict, ib_NoneType_bool, ib_NoneType_int, ib_NoneType_str, ib_NoneType_tuple, ib_NoneType_list, ib_NoneType_dict, ib_bool_bool, ib_bool_int, ib_bool_str, ib_bool_tuple, ib_bool_list, ib_bool_dict, ib_int_bool, ib_int_int, ib_int_str, ib_int_tuple, ib_int_list, ib_int_dict, ib_str_bool, ib_str_int, ib_str_str, ib_str_tuple, ib_str_list, ib_str_dict, ib_tuple_bool, ib_tuple_int, ib_tuple_str, ib_tuple_tuple, ib_tuple_list, ib_tuple_dict, ib_list_bool, ib_list_int, ib_list_str, ib_list_tuple, ib_list_list, ib_list_dict, ib_dict_bool, ib_dict_int, ib_dict_str, ib_dict_tuple, ib_dict_list, ib_dict_dict, tyD_str, tyD_non, tyD_rol, Bool.or_false, Bool.false_or, Bool.or_true, Bool.true_or, ↓truD_bl, ↓truD_int, List.getElem?_cons_zero, List.getElem?_cons_succ, List.set_cons_zero, List.set_cons_succ, Option.some.injEq, L3.D.bl.injEq, L3.D.int.injEq, L3.D.ref.injEq, L3.D.tup.injEq, L3.D.ty.injEq, L3.D.str.injEq, List.cons.injEq, and_true, true_and, exists_eq_left, exists_eq_left', exists_eq, exists_eq', exists_and_left, exists_and_right, exists_const, and_assoc, exists_eq_right_right, exists_eq_right, ↓ite_both, decide_eq_true_eq, reduceCtorEq, false_and, and_false, exists_false, not_false_eq_true, not_true_eq_false, Bool.false_eq_true, implies_true, forall_const, true_implies, false_implies, Bool.not_eq_true, Bool.not_true, Bool.not_false, decide_true, decide_false, Bool.not_eq_true', Bool.not_eq_false', Bool.not_eq_false, if_true, if_false, Bool.and_true, Bool.true_and, Bool.and_false, Bool.false_and, r3Eq, r3Ne]
      have ln : (ys.take n).length = n := by rw [List.length_take]; omega
      refine ⟨fun h0 => ?_, fun h0 => fin ?_⟩
      · obtain ⟨k, rfl⟩ : ∃ k, n = k + 1 := ⟨n - 1, by omega⟩
        have hk2 : k < ys.length := by omega
        have et : ys.take (k + 1) = ys.take k ++ [ys[k]] := List.take_succ_eq_append_getElem hk2
        obtain ⟨c, d, ey⟩ := nu_pair ys[k]
        have hok := (hy ys[k] (List.getElem_mem hk2)).1
        have la : atI ((ys.take (k + 1)).map nuD) (-1) = some (nuD ys[k]) := atI_last (by rw [et, List.map_append, List.getLast?_append]; rfl)
        have ep : nuP ys[k] = .tuple [.int c, .int d] := by
          have := datD_nu (M := M) (x := ys[k])
          rw [ey, datD_pair] at this
          exact (Option.some.inj this).symm
        refine ⟨_, la, nuP ys[k], datD_nu, fun hz => ⟨⟨nuD ys[k], ?_⟩, ?_⟩, fun hz => fin ?_⟩
        · rw [ln, List.getElem?_map, show k + 1 - 1 = k by omega, List.getElem?_take_of_lt (by omega), List.getElem?_eq_getElem hk2]
          rfl
        · rw [ep, eqv_pair, (isZ_pair hok ey).1] at hz
          rw [mupd_mupd]
          refine nx _ _ _ .refl ⟨⟨_, rfl⟩, k, by omega, ?_, ?_⟩ ?_
          · rw [et, List.map_append, List.map_cons, List.map_nil, List.dropLast_concat]
          · rw [← ht, et, trimL_snoc, if_pos hz]
          · rw [List.length_dropLast, List.length_map, ln]; omega
        · rw [ep, eqv_pair, (isZ_pair hok ey).1] at hz
          rw [et, trimL_snoc, if_neg (by rw [hz]; decide)]
      · have : n = 0 := by omega
        subst this
        rfl

def sp__law_add (K : PySem.W.Frag) : Sp3 := spA3 fun g a b M Q X => ∃ p, g = .int p ∧ ∃ x, a = nuD x ∧ ∃ y, b = nuD y ∧ Gd p ∧ NuOk p x ∧ NuOk p y ∧ (∃ n m, Sz n x ∧ Sz m y ∧ n + m ≤ 8000) ∧ Q (nuD (addN p x y)) M
abbrev N__law_add : List Str := ["ground", "one", "other"]
def tr__law_add (K : PySem.W.Frag) : TS3 := (tRet3 (tCall3 (sp__law_num K) (tCons3 (tVar3 0) (tCons3 (tOp3 r3Add (tOp3 r3Mul (tOp3 r3Ix (tVar3 1) (tC3 (.int 0))) (tOp3 r3Ix (tVar3 2) (tC3 (.int 1)))) (tOp3 r3Mul (tOp3 r3Ix (tVar3 2) (tC3 (.int 0))) (tOp3 r3Ix (tVar3 1) (tC3 (.int 1))))) (tCons3 (tOp3 r3Mul (tOp3 r3Ix (tVar3 1) (tC3 (.int 1))) (tOp3 r3Ix (tVar3 2) (tC3 (.int 1)))) tNil3)))))
theorem rd__law_add (K : PySem.W.Frag) : ∀ ds M Q E, sp__law_add K ds M Q E → tr__law_add K (endF M Q E) (start3 N__law_add ds) M := by
  rintro ds M Q E ⟨g, a, b, rfl, p, rfl, x, rfl, y, rfl, hg, hx, hy, ⟨n, m, h1, h2, h3⟩, q⟩
  obtain ⟨i, j, k, l, e1, e2, e3, e4, e5, e6, e7⟩ := mkN_add hx hy
  have pl := hg.lt
  rw [e1, e2]
  rw [← e3] at q
  have bd : i.natAbs < 2 ^ (n + 7) ∧ j.natAbs < 2 ^ (n + 7) ∧ k.natAbs < 2 ^ (m + 7) ∧ l.natAbs < 2 ^ (m + 7) := by
    rcases e7 (n + 7) (m + 7) (h1.mono (by omega)) (h2.mono (by omega)) (by omega) (by omega) with z | ⟨z1, z2, z3, z4, z5⟩
    · exact z
    · have w1 : (100 : Nat) < 2 ^ (n + 7) := Nat.lt_of_lt_of_le (by decide : 100 < 2 ^ 7) (Nat.pow_le_pow_right (by decide) (by omega))
      have w2 : (100 : Nat) < 2 ^ (m + 7) := Nat.lt_of_lt_of_le (by decide : 100 < 2 ^ 7) (Nat.pow_le_pow_right (by decide) (by omega))
      refine ⟨by omega, by omega, by omega, by omega⟩
  have jl : (j * l).natAbs < 2 ^ 8900 := by
    rw [Int.natAbs_mul]
    exact Nat.lt_of_lt_of_le (mul_lt2 bd.2.1 bd.2.2.2) (Nat.pow_le_pow_right (by decide) (by omega))
  have jl1 : 0 < p → j * l = 1 := fun hp => by
    cases x with
    | q u => exact absurd hp (by have : p = 0 := hx; omega)
    | m u =>
      cases y with
      | q v => exact absurd hp (by have : p = 0 := hy; omega)
      | m v =>
        simp only [nuD, D.tup.injEq, List.cons.injEq, D.int.injEq, and_true] at e1 e2
        rw [← e1.2, ← e2.2]
        rfl
  unfold tr__law_add
  simp only [start3, List.map_cons, List.map_nil, List.length_cons, List.length_nil, List.cons_append, List.nil_append, List.replicate_succ, List.replicate_zero, Nat.reduceAdd, Nat.reduceSub, Nat.zero_add]
  simp -implicitDefEqProofs only [sp__law_num, ↓ex_bl, ↓ex_int, ↓ex_str, ↓ex_ref, ↓ex_tup, ↓ex_some, ↓ex_eq, ↓ex_eq', ↓ex_1, ↓ex_2, ↓ex_3, ↓ex_4, ↓ex_5, ↓ite_tt, ↓ite_ff, ↓v3_0, ↓v3_s, ↓eq_int, ↓ne_int, ↓eq_bl, ↓ne_bl, ↓eq_pair, ↓ne_pair, eqv_bool, eqv_str, ↓pow_lit, ↓ix_t0, ↓ix_t1, ↓ix_tup, ↓ix_it, ↓q_tC3, ↓q_tOp3, ↓q_tUn3, ↓q_tTest3, ↓q_tChain3, ↓q_tTruth3, ↓q_tAnd3, ↓q_tOr3, ↓q_tNot3, ↓q_tAndV3, ↓q_tOrV3, ↓q_tNotV3, ↓q_tIf3, ↓q_tNil3, ↓q_tCons3, ↓q_tTup3, ↓q_tLst3, ↓q_tNoPart3, ↓q_tPart3, ↓q_tSl3, ↓q_tRev3, ↓r3Rev_tup, ↓r3IsNot_bl, ↓r3Is_bl, ↓r3Sl_tup, ↓c3List_tup, ↓c3List_ref, ↓q_tCB3, ↓q_tBM3, ↓q_tBM03, ↓q_tNext3, ↓q_tSeq3, ↓q_tDrop3, ↓q_tRet3, ↓q_tRetN3, ↓q_tIfS3, ↓q_gName3, ↓gnil_eq, ↓gcons_eq, ↓q_gTup3, ↓q_gSub3, ↓q_tAsg3, ↓q_tPar3, ↓q_tYes3, ↓q_tCall3, ↓q_tTryAs3, ↓q_goneE_nx, ↓q_goneE_rt, ↓q_c3IsE, ↓is_bl, ↓c3Str_int, ↓q_tRaise3, ↓q_spA0, ↓q_spA1, ↓q_spA2, ↓q_spA3, ↓q_spA4, ↓q_spA5, ↓q_endF_rt, ↓q_endF_nx, ↓q_endF_xx, r3Lt, r3Le, r3Gt, r3Ge, r3Mod, r3Div, r3Pow, r3Sub, ↓r3I_int, ↓r3I0_int, ↓r3Add_int, ↓r3Add_tup, ↓r3Add_ref, ↓r3Mul_int, ↓r3Mul_ref, datD_non, ↓datD_bl, ↓datD_int, eqv_int, ↓items_tup, ↓items_rol, ↓items_new, ↓len_new, ↓mupd_same, L3.MO.lst.injEq, List.length_cons, List.length_nil, Nat.reduceAdd, Nat.zero_add, sizeLine_eq, Nat.reduceLeDiff, Nat.reducePow, Int.reduceLT, Int.reduceLE, Int.reducePow, Int.reduceToNat, Int.reduceNeg, Int.reduceAdd, Int.cast_ofNat_Int, Int.reduceSub, Int.reduceMul, Nat.reduceMul, Nat.reduceLT, cpow_lit, List.length_append, List.length_map, ↓u3Neg_int, fdiv_pos, ↓q_tDict0, ix_1_0, ix_2_0, ix_2_1, ix_3_0, ix_3_1, ix_3_2, ix_4_0, ix_4_1, ix_4_2, ix_4_3, ix_5_0, ix_5_1, ix_5_2, ix_5_3, ix_5_4, decide_eq_false_iff_not, ↓lc_seq, ↓lc_r1, ↓lc_r2, ↓for_seq, ↓for_r1, ↓for_r2, ↓c3Tuple_it, ↓c3Min2_int, ↓c3Max2_int, ↓m3Pop_ref, ↓lc_zip, ↓for_zip, ↓lc_enum, ↓for_enum, ↓q_tAug3, r3AddI, ↓datD_pair, datD_pair, eqv_pair, ↓m3Index_ref, wipe3, ↓len_tup, ↓len_rol, ↓c3Len_tup, ↓c3Len_rol, ↓c3Len_ref, ↓c3Int_int, ↓c3Int_bl, ↓c3Abs_int, ↓c3All_ref, ↓c3Any_ref, ↓c3Isi_tl, ↓c3Isi_ty, ↓m3Append_ref, ↓s3Lst_ref, ↓r3Is_non, ↓r3IsNot_non, atI_0, atI_1, atI_2, atI_3, atI_4, tyD_tup, tyD_int, tyD_bl, mc_bool, mc_int, mc_str, mc_tuple, mc_list, mc_dict, ib_NoneType_bool, ib_NoneType_int, ib_NoneType_str, ib_NoneType_tuple, ib_NoneType_list, ib_NoneType_dict, ib_bool_bool, ib_bool_int, ib_bool_str, ib_bool_tuple, ib_bool_list, ib_bool_dict, ib_int_bool, ib_int_int, ib_int_str, ib_int_tuple, ib_int_list, ib_int_dict, ib_str_bool, ib_str_int, ib_str_str, ib_str_tuple, ib_str_list, ib_str_dict, ib_tuple_bool, ib_tuple_int, ib_tuple_str, ib_tuple_tuple, ib_tuple_list, ib_tuple_dict, ib_list_bool, ib_list_int, ib_list_str, ib_list_tuple, ib_list_list, ib_list_dict, ib_dict_bool, ib_dict_int, ib_dict_str, ib_dict_tuple, ib_dict_list, ib_dict_dict, tyD_str, tyD_non, tyD_rol, Bool.or_false, Bool.false_or, Bool.or_true, Bool.true_or, ↓truD_bl, ↓truD_int, List.getElem?_cons_zero, List.getElem?_cons_succ, List.set_cons_zero, List.set_cons_succ, Option.some.injEq, L3.D.bl.injEq, L3.D.int.injEq, L3.D.ref.injEq, L3.D.tup.injEq, L3.D.ty.injEq, L3.D.str.injEq, List.cons.injEq, and_true, true_and, exists_eq_left, exists_eq_left', exists_eq, exists_eq', exists_and_left, exists_and_right, exists_const, and_assoc, exists_eq_right_right, exists_eq_right, ↓ite_both, decide_eq_true_eq, reduceCtorEq, false_and, and_false, exists_false, not_false_eq_true, not_true_eq_false, Bool.false_eq_true, implies_true, forall_const, true_implies, false_implies, Bool.not_eq_true, Bool.not_true, Bool.not_false, decide_true, decide_false, Bool.not_eq_true', Bool.not_eq_false', Bool.not_eq_false, if_true, if_false, Bool.and_true, Bool.true_and, Bool.and_false, Bool.false_and, r3Eq, r3Ne]
  exact ⟨mulOk_sz bd.1 bd.2.2.2 (by omega), mulOk_sz bd.2.2.1 bd.2.1 (by omega), mulOk_sz bd.2.1 bd.2.2.2 (by omega), fun hp => jl1 hp, fun _ => ⟨by omega, jl⟩, ret_same q⟩

def sp__law_mul (K : PySem.W.Frag) : Sp3 := spA3 fun g a b M Q X => ∃ p, g = .int p ∧ ∃ x, a = nuD x ∧ ∃ y, b = nuD y ∧ Gd p ∧ NuOk p x ∧ NuOk p y ∧ (∃ n m, Sz n x ∧ Sz m y ∧ n + m ≤ 8000) ∧ Q (nuD (mulN p x y)) M
abbrev N__law_mul : List Str := ["ground", "one", "other"]
def tr__law_mul (K : PySem.W.Frag) : TS3 := (tRet3 (tCall3 (sp__law_num K) (tCons3 (tVar3 0) (tCons3 (tOp3 r3Mul (tOp3 r3Ix (tVar3 1) (tC3 (.int 0))) (tOp3 r3Ix (tVar3 2) (tC3 (.int 0)))) (tCons3 (tOp3 r3Mul (tOp3 r3Ix (tVar3 1) (tC3 (.int 1))) (tOp3 r3Ix (tVar3 2) (tC3 (.int 1)))) tNil3)))))
theorem rd__law_mul (K : PySem.W.Frag) : ∀ ds M Q E, sp__law_mul K ds M Q E → tr__law_mul K (endF M Q E) (start3 N__law_mul ds) M := by
  rintro ds M Q E ⟨g, a, b, rfl, p, rfl, x, rfl, y, rfl, hg, hx, hy, ⟨n, m, h1, h2, h3⟩, q⟩
  obtain ⟨i, j, k, l, e1, e2, e3, e4, e5, e6, e7⟩ := mkN_add hx hy
  have pl := hg.lt
  rw [e1, e2]
  rw [← e5] at q
  have bd : i.natAbs < 2 ^ (n + 7) ∧ j.natAbs < 2 ^ (n + 7) ∧ k.natAbs < 2 ^ (m + 7) ∧ l.natAbs < 2 ^ (m + 7) := by
    rcases e7 (n + 7) (m + 7) (h1.mono (by omega)) (h2.mono (by omega)) (by omega) (by omega) with z | ⟨z1, z2, z3, z4, z5⟩
    · exact z
    · have w1 : (100 : Nat) < 2 ^ (n + 7) := Nat.lt_of_lt_of_le (by decide : 100 < 2 ^ 7) (Nat.pow_le_pow_right (by decide) (by omega))
      have w2 : (100 : Nat) < 2 ^ (m + 7) := Nat.lt_of_lt_of_le (by decide : 100 < 2 ^ 7) (Nat.pow_le_pow_right (by decide) (by omega))
      refine ⟨by omega, by omega, by omega, by omega⟩
  have jl : (j * l).natAbs < 2 ^ 8900 := by
    rw [Int.natAbs_mul]
    exact Nat.lt_of_lt_of_le (mul_lt2 bd.2.1 bd.2.2.2) (Nat.pow_le_pow_right (by decide) (by omega))
  have jl1 : 0 < p → j * l = 1 := fun hp => by
    cases x with
    | q u => exact absurd hp (by have : p = 0 := hx; omega)
    | m u =>
      cases y with
      | q v => exact absurd hp (by have : p = 0 := hy; omega)
      | m v =>
        simp only [nuD, D.tup.injEq, List.cons.injEq, D.int.injEq, and_true] at e1 e2
        rw [← e1.2, ← e2.2]
        rfl
  unfold tr__law_mul
  simp only [start3, List.map_cons, List.map_nil, List.length_cons, List.length_nil, List.cons_append, List.nil_append, List.replicate_succ, List.replicate_zero, Nat.reduceAdd, Nat.reduceSub, Nat.zero_add]
  simp -implicitDefEqProofs only [sp__law_num, ↓ex_bl, ↓ex_int, ↓ex_str, ↓ex_ref, ↓ex_tup, ↓ex_some, ↓ex_eq, ↓ex_eq', ↓ex_1, ↓ex_2, ↓ex_3, ↓ex_4, ↓ex_5, ↓ite_tt, ↓ite_ff, ↓v3_0, ↓v3_s, ↓eq_int, ↓ne_int, ↓eq_bl, ↓ne_bl, ↓eq_pair, ↓ne_pair, eqv_bool, eqv_str, ↓pow_lit, ↓ix_t0, ↓ix_t1, ↓ix_tup, ↓ix_it, ↓q_tC3, ↓q_tOp3, ↓q_tUn3, ↓q_tTest3, ↓q_tChain3, ↓q_tTruth3, ↓q_tAnd3, ↓q_tOr3, ↓q_tNot3, ↓q_tAndV3, ↓q_tOrV3, ↓q_tNotV3, ↓q_tIf3, ↓q_tNil3, ↓q_tCons3, ↓q_tTup3, ↓q_tLst3, ↓q_tNoPart3, ↓q_tPart3, ↓q_tSl3, ↓q_tRev3, ↓r3Rev_tup, ↓r3IsNot_bl, ↓r3Is_bl, ↓r3Sl_tup, ↓c3List_tup, ↓c3List_ref, ↓q_tCB3, ↓q_tBM3, ↓q_tBM03, ↓q_tNext3, ↓q_tSeq3, ↓q_tDrop3, ↓q_tRet3, ↓q_tRetN3, ↓q_tIfS3, ↓q_gName3, ↓gnil_eq, ↓gcons_eq, ↓q_gTup3, ↓q_gSub3, ↓q_tAsg3, ↓q_tPar3, ↓q_tYes3, ↓q_tCall3, ↓q_tTryAs3, ↓q_goneE_nx, ↓q_goneE_rt, ↓q_c3IsE, ↓is_bl, ↓c3Str_int, ↓q_tRaise3, ↓q_spA0, ↓q_spA1, ↓q_spA2, ↓q_spA3, ↓q_spA4, ↓q_spA5, ↓q_endF_rt, ↓q_endF_nx, ↓q_endF_xx, r3Lt, r3Le, r3Gt, r3Ge, r3Mod, r3Div, r3Pow, r3Sub, ↓r3I_int, ↓r3I0_int, ↓r3Add_int, ↓r3Add_tup, ↓r3Add_ref, ↓r3Mul_int, ↓r3Mul_ref, datD_non, ↓datD_bl, ↓datD_int, eqv_int, ↓items_tup, ↓items_rol, ↓items_new, ↓len_new, ↓mupd_same, L3.MO.lst.injEq, List.length_cons, List.length_nil, Nat.reduceAdd, Nat.zero_add, sizeLine_eq, Nat.reduceLeDiff, Nat.reducePow, Int.reduceLT, Int.reduceLE, Int.reducePow, Int.reduceToNat, Int.reduceNeg, Int.reduceAdd, Int.cast_ofNat_Int, Int.reduceSub, Int.reduceMul, Nat.reduceMul, Nat.reduceLT, cpow_lit, List.length_append, List.length_map, ↓u3Neg_int, fdiv_pos, ↓q_tDict0, ix_1_0, ix_2_0, ix_2_1, ix_3_0, ix_3_1, ix_3_2, ix_4_0, ix_4_1, ix_4_2, ix_4_3, ix_5_0, ix_5_1, ix_5_2, ix_5_3, ix_5_4, decide_eq_false_iff_not, ↓lc_seq, ↓lc_r1, ↓lc_r2, ↓for_seq, ↓for_r1, ↓for_r2, ↓c3Tuple_it, ↓c3Min2_int, ↓c3Max2_int, ↓m3Pop_ref, ↓lc_zip, ↓for_zip, ↓lc_enum, ↓for_enum, ↓q_tAug3, r3AddI, ↓datD_pair, datD_pair, eqv_pair, ↓m3Index_ref, wipe3, ↓len_tup, ↓len_rol, ↓c3Len_tup, ↓c3Len_rol, ↓c3Len_ref, ↓c3Int_int, ↓c3Int_bl, ↓c3Abs_int, ↓c3All_ref, ↓c3Any_ref, ↓c3Isi_tl, ↓c3Isi_ty, ↓m3Append_ref, ↓s3Lst_ref, ↓r3Is_non, ↓r3IsNot_non, atI_0, atI_1, atI_2, atI_3, atI_4, tyD_tup, tyD_int, tyD_bl, mc_bool, mc_int, mc_str, mc_tuple, mc_list, mc_dict, ib_NoneType_bool, ib_NoneType_int, ib_NoneType_str, ib_NoneType_tuple, ib_NoneType_list, ib_NoneType_dict, ib_bool_bool, ib_bool_int, ib_bool_str, ib_bool_tuple, ib_bool_list, ib_bool_dict, ib_int_bool, ib_int_int, ib_int_str, ib_int_tuple, ib_int_list, ib_int_dict, ib_str_bool, ib_str_int, ib_str_str, ib_str_tuple, ib_str_list, ib_str_dict, ib_tuple_bool, ib_tuple_int, ib_tuple_str, ib_tuple_tuple, ib_tuple_list, ib_tuple_dict, ib_list_bool, ib_list_int, ib_list_str, ib_list_tuple, ib_list_list, ib_list_dict, ib_dict_bool, ib_dict_int, ib_dict_str, ib_dict_tuple, ib_dict_list, ib_dict_dict, tyD_str, tyD_non, tyD_rol, Bool.or_false, Bool.false_or, Bool.or_true, Bool.true_or, ↓truD_bl, ↓truD_int, List.getElem?_cons_zero, List.getElem?_cons_succ, List.set_cons_zero, List.set_cons_succ, Option.some.injEq, L3.D.bl.injEq, L3.D.int.injEq, L3.D.ref.injEq, L3.D.tup.injEq, L3.D.ty.injEq, L3.D.str.injEq, List.cons.injEq, and_true, true_and, exists_eq_left, exists_eq_left', exists_eq, exists_eq', exists_and_left, exists_and_right, exists_const, and_assoc, exists_eq_right_right, exists_eq_right, ↓ite_both, decide_eq_true_eq, reduceCtorEq, false_and, and_false, exists_false, not_false_eq_true, not_true_eq_false, Bool.false_eq_true, implies_true, forall_const, true_implies, false_implies, Bool.not_eq_true, Bool.not_true, Bool.not_false, decide_true, decide_false, Bool.not_eq_true', Bool.not_eq_false', Bool.not_eq_false, if_true, if_false, Bool.and_true, Bool.true_and, Bool.and_false, Bool.false_and, r3Eq, r3Ne]
  exact ⟨mulOk_sz bd.1 bd.2.2.1 (by omega), mulOk_sz bd.2.1 bd.2.2.2 (by omega), fun hp => jl1 hp, fun _ => ⟨by omega, jl⟩, ret_same q⟩

def sp__law_product (K : PySem.W.Frag) : Sp3 := spA3 fun g a b M Q X => ∃ p, g = .int p ∧ ∃ xs, a = polyD xs ∧ ∃ ys, b = polyD ys ∧ Gd p ∧ (∀ x ∈ xs, NuOk p x) ∧ (∀ x ∈ ys, NuOk p x) ∧ (∃ s t, (∀ x ∈ xs, Sz (s + 1) x) ∧ (∀ x ∈ ys, Sz (t + 1) x) ∧ (xs.length + 2) * (s + t + 3) ≤ 7900 ∧ ys.length ≤ 100000) ∧ Q (polyD (mulL p xs ys)) M
abbrev N__law_product : List Str := ["ground", "one", "other", "found", "at", "total", "k"]
def tr__law_product (K : PySem.W.Frag) : TS3 := (tSeq3 (tAsg3 (tLst3 tNil3) (gName3 3)) (tSeq3 (tFor3 (iRng13 (tCons3 (tOp3 r3Sub (tOp3 r3Add (tCB3 c3Len (tCons3 (tVar3 1) tNil3)) (tCB3 c3Len (tCons3 (tVar3 2) tNil3))) (tC3 (.int 1))) tNil3)) (gName3 4) (tSeq3 (tAsg3 (tTup3 (tCons3 (tC3 (.int 0)) (tCons3 (tC3 (.int 1)) tNil3))) (gName3 5)) (tSeq3 (tFor3 (iRng13 (tCons3 (tCB3 c3Len (tCons3 (tVar3 1) tNil3)) tNil3)) (gName3 6) (tIfS3 (tTest3 (tChain3 r3Le r3Lt (tC3 (.int 0)) (tOp3 r3Sub (tVar3 4) (tVar3 6)) (tCB3 c3Len (tCons3 (tVar3 2) tNil3)))) (tAsg3 (tCall3 (sp__law_add K) (tCons3 (tVar3 0) (tCons3 (tVar3 5) (tCons3 (tCall3 (sp__law_mul K) (tCons3 (tVar3 0) (tCons3 (tOp3 r3Ix (tVar3 1) (tVar3 6)) (tCons3 (tOp3 r3Ix (tVar3 2) (tOp3 r3Sub (tVar3 4) (tVar3 6))) tNil3)))) tNil3)))) (gName3 5)) tNext3)) (tDrop3 (tBM3 m3Append (tVar3 3) (tCons3 (tVar3 5) tNil3)))))) (tRet3 (tIf3 (tAnd3 (tTest3 (tOp3 r3Gt (tCB3 c3Len (tCons3 (tVar3 1) tNil3)) (tC3 (.int 0)))) (tTest3 (tOp3 r3Gt (tCB3 c3Len (tCons3 (tVar3 2) tNil3)) (tC3 (.int 0))))) (tCB3 c3Tuple (tCons3 (tVar3 3) tNil3)) (tTup3 tNil3)))))
theorem rd__law_product (K : PySem.W.Frag) : ∀ ds M Q E, sp__law_product K ds M Q E → tr__law_product K (endF M Q E) (start3 N__law_product ds) M := by
  rintro ds M Q E ⟨g, a, b, rfl, p, rfl, xs, rfl, ys, rfl, hg, hx, hy, ⟨s, t, zx, zy, hz, hly⟩, q⟩
  have pl := hg.lt.1
  have hlx : xs.length ≤ 7900 := by
    have : xs.length * 1 ≤ (xs.length + 2) * (s + t + 3) := Nat.mul_le_mul (by omega) (by omega)
    omega
  have hcx : (xs.length + 2) * (s + t + 3) = xs.length * (s + t + 3) + 2 * (s + t + 3) := by rw [Nat.add_mul]
  unfold tr__law_product polyD
  simp only [start3, List.map_cons, List.map_nil, List.length_cons, List.length_nil, List.cons_append, List.nil_append, List.replicate_succ, List.replicate_zero, Nat.reduceAdd, Nat.reduceSub, Nat.zero_add]
  simp -implicitDefEqProofs only [↓ex_bl, ↓ex_int, ↓ex_str, ↓ex_ref, ↓ex_tup, ↓ex_some, ↓ex_eq, ↓ex_eq', ↓ex_1, ↓ex_2, ↓ex_3, ↓ex_4, ↓ex_5, ↓ite_tt, ↓ite_ff, ↓v3_0, ↓v3_s, ↓eq_int, ↓ne_int, ↓eq_bl, ↓ne_bl, ↓eq_pair, ↓ne_pair, eqv_bool, eqv_str, ↓pow_lit, ↓ix_t0, ↓ix_t1, ↓ix_tup, ↓ix_it, ↓q_tC3, ↓q_tOp3, ↓q_tUn3, ↓q_tTest3, ↓q_tChain3, ↓q_tTruth3, ↓q_tAnd3, ↓q_tOr3, ↓q_tNot3, ↓q_tAndV3, ↓q_tOrV3, ↓q_tNotV3, ↓q_tIf3, ↓q_tNil3, ↓q_tCons3, ↓q_tTup3, ↓q_tLst3, ↓q_tNoPart3, ↓q_tPart3, ↓q_tSl3, ↓q_tRev3, ↓r3Rev_tup, ↓r3IsNot_bl, ↓r3Is_bl, ↓r3Sl_tup, ↓c3List_tup, ↓c3List_ref, ↓q_tCB3, ↓q_tBM3, ↓q_tBM03, ↓q_tNext3, ↓q_tSeq3, ↓q_tDrop3, ↓q_tRet3, ↓q_tRetN3, ↓q_tIfS3, ↓q_gName3, ↓gnil_eq, ↓gcons_eq, ↓q_gTup3, ↓q_gSub3, ↓q_tAsg3, ↓q_tPar3, ↓q_tYes3, ↓q_tCall3, ↓q_tTryAs3, ↓q_goneE_nx, ↓q_goneE_rt, ↓q_c3IsE, ↓is_bl, ↓c3Str_int, ↓q_tRaise3, ↓q_spA0, ↓q_spA1, ↓q_spA2, ↓q_spA3, ↓q_spA4, ↓q_spA5, ↓q_endF_rt, ↓q_endF_nx, ↓q_endF_xx, r3Lt, r3Le, r3Gt, r3Ge, r3Mod, r3Div, r3Pow, r3Sub, ↓r3I_int, ↓r3I0_int, ↓r3Add_int, ↓r3Add_tup, ↓r3Add_ref, ↓r3Mul_int, ↓r3Mul_ref, datD_non, ↓datD_bl, ↓datD_int, eqv_int, ↓items_tup, ↓items_rol, ↓items_new, ↓len_new, ↓mupd_same, L3.MO.lst.injEq, List.length_cons, List.length_nil, Nat.reduceAdd, Nat.zero_add, sizeLine_eq, Nat.reduceLeDiff, Nat.reducePow, Int.reduceLT, Int.reduceLE, Int.reducePow, Int.reduceToNat, Int.reduceNeg, Int.reduceAdd, Int.cast_ofNat_Int, Int.reduceSub, Int.reduceMul, Nat.reduceMul, Nat.reduceLT, cpow_lit, List.length_append, List.length_map, ↓u3Neg_int, fdiv_pos, ↓q_tDict0, ix_1_0, ix_2_0, ix_2_1, ix_3_0, ix_3_1, ix_3_2, ix_4_0, ix_4_1, ix_4_2, ix_4_3, ix_5_0, ix_5_1, ix_5_2, ix_5_3, ix_5_4, decide_eq_false_iff_not, ↓lc_seq, ↓lc_r1, ↓lc_r2, ↓for_seq, ↓for_r1, ↓for_r2, ↓c3Tuple_it, ↓c3Min2_int, ↓c3Max2_int, ↓m3Pop_ref, ↓lc_zip, ↓for_zip, ↓lc_enum, ↓for_enum, ↓q_tAug3, r3AddI, ↓datD_pair, datD_pair, eqv_pair, ↓m3Index_ref, wipe3, ↓len_tup, ↓len_rol, ↓c3Len_tup, ↓c3Len_rol, ↓c3Len_ref, ↓c3Int_int, ↓c3Int_bl, ↓c3Abs_int, ↓c3All_ref, ↓c3Any_ref, ↓c3Isi_tl, ↓c3Isi_ty, ↓m3Append_ref, ↓s3Lst_ref, ↓r3Is_non, ↓r3IsNot_non, atI_0, atI_1, atI_2, atI_3, atI_4, tyD_tup, tyD_int, tyD_bl, mc_bool, mc_int, mc_str, mc_tuple, mc_list, mc_dict, ib_NoneType_bool, ib_NoneType_int, ib_NoneType_str, ib_NoneType_tuple, ib_NoneType_list, ib_NoneType_dict, ib_bool_bool, ib_bool_int, ib_bool_str, ib_bool_tuple, ib_bool_list, ib_bool_dict, ib_int_bool, ib_int_int, ib_int_str, ib_int_tuple, ib_int_list, ib_int_dict, ib_str_bool, ib_str_int, ib_str_str, ib_str_tuple, ib_str_list, ib_str_dict, ib_tuple_bool, ib_tuple_int, ib_tuple_str, ib_tuple_tuple, ib_tuple_list, ib_tuple_dict, ib_list_bool, ib_list_int, ib_list_str, ib_list_tuple, ib_list_list, ib_list_dict, ib_dict_bool, ib_dict_int, ib_dict_str, ib_dict_tuple, ib_dict_list, ib_dict_dict, tyD_str, tyD_non, tyD_rol, Bool.or_false, Bool.false_or, Bool.or_true, Bool.true_or, ↓truD_bl, ↓truD_int, List.getElem?_cons_zero, List.getElem?_cons_succ, List.set_cons_zero, List.set_cons_succ, Option.some.injEq, L3.D.bl.injEq, L3.D.int.injEq, L3.D.ref.injEq, L3.D.tup.injEq, L3.D.ty.injEq, L3.D.str.injEq, List.cons.injEq, and_true, true_and, exists_eq_left, exists_eq_left', exists_eq, exists_eq', exists_and_left, exists_and_right, exists_const, and_assoc, exists_eq_right_right, exists_eq_right, ↓ite_both, decide_eq_true_eq, reduceCtorEq, false_and, and_false, exists_false, not_false_eq_true, not_true_eq_false, Bool.false_eq_true, implies_true, forall_const, true_implies, false_implies, Bool.not_eq_true, Bool.not_true, Bool.not_false, decide_true, decide_false, Bool.not_eq_true', Bool.not_eq_false', Bool.not_eq_false, if_true, if_false, Bool.and_true, Bool.true_and, Bool.and_false, Bool.false_and, r3Eq, r3Ne]
  intro l hl
  refine ⟨by omega, by omega, ?_⟩
  refine forB_acc (fun i σ acc => (∃ v4 v5 v6, σ = [some (.int p), some (.tup (xs.map nuD)), some (.tup (ys.map nuD)), some (.ref l), v4, v5, v6]) ∧ acc = (List.range i).map fun at_ => nuD (coefN p xs ys xs.length at_)) ⟨⟨_, _, _, rfl⟩, rfl⟩ (fun _ => trivial) ?_ ?_
  · rintro i d σ' acc N hd hi ⟨⟨v4, v5, v6, rfl⟩, rfl⟩ nx
    have hi2 : i < (rngL 0 ((xs.length : Int) + (ys.length : Int) - 1)).length := hi
    rw [rng_len] at hi2
    obtain ⟨rfl, hi3⟩ := rng_get hd
    simp -implicitDefEqProofs only [↓ex_bl, ↓ex_int, ↓ex_str, ↓ex_ref, ↓ex_tup, ↓ex_some, ↓ex_eq, ↓ex_eq', ↓ex_1, ↓ex_2, ↓ex_3, ↓ex_4, ↓ex_5, ↓ite_tt, ↓ite_ff, ↓v3_0, ↓v3_s, ↓eq_int, ↓ne_int, ↓eq_bl, ↓ne_bl, ↓eq_pair, ↓ne_pair, eqv_bool, eqv_str, ↓pow_lit, ↓ix_t0, ↓ix_t1, ↓ix_tup, ↓ix_it, ↓q_tC3, ↓q_tOp3, ↓q_tUn3, ↓q_tTest3, ↓q_tChain3, ↓q_tTruth3, ↓q_tAnd3, ↓q_tOr3, ↓q_tNot3, ↓q_tAndV3, ↓q_tOrV3, ↓q_tNotV3, ↓q_tIf3, ↓q_tNil3, ↓q_tCons3, ↓q_tTup3, ↓q_tLst3, ↓q_tNoPart3, ↓q_tPart3, ↓q_tSl3, ↓q_tRev3, ↓r3Rev_tup, ↓r3IsNot_bl, ↓r3Is_bl, ↓r3Sl_tup, ↓c3List_tup, ↓c3List_ref, ↓q_tCB3, ↓q_tBM3, ↓q_tBM03, ↓q_tNext3, ↓q_tSeq3, ↓q_tDrop3, ↓q_tRet3, ↓q_tRetN3, ↓q_tIfS3, ↓q_gName3, ↓gnil_eq, ↓gcons_eq, ↓q_gTup3, ↓q_gSub3, ↓q_tAsg3, ↓q_tPar3, ↓q_tYes3, ↓q_tCall3, ↓q_tTryAs3, ↓q_goneE_nx, ↓q_goneE_rt, ↓q_c3IsE, ↓is_bl, ↓c3Str_int, ↓q_tRaise3, ↓q_spA0, ↓q_spA1, ↓q_spA2, ↓q_spA3, ↓q_spA4, ↓q_spA5, ↓q_endF_rt, ↓q_endF_nx, ↓q_endF_xx, r3Lt, r3Le, r3Gt, r3Ge, r3Mod, r3Div, r3Pow, r3Sub, ↓r3I_int, ↓r3I0_int, ↓r3Add_int, ↓r3Add_tup, ↓r3Add_ref, ↓r3Mul_int, ↓r3Mul_ref, datD_non, ↓datD_bl, ↓datD_int, eqv_int, ↓items_tup, ↓items_rol, ↓items_new, ↓len_new, ↓mupd_same, L3.MO.lst.injEq, List.length_cons, List.length_nil, Nat.reduceAdd, Nat.zero_add, sizeLine_eq, Nat.reduceLeDiff, Nat.reducePow, Int.reduceLT, Int.reduceLE, Int.reducePow, Int.reduceToNat, Int.reduceNeg, Int.reduceAdd, Int.cast_ofNat_Int, Int.reduceSub, Int.reduceMul, Nat.reduceMul, Nat.reduceLT, cpow_lit, List.length_append, List.length_map, ↓u3Neg_int, fdiv_pos, ↓q_tDict0, ix_1_0, ix_2_0, ix_2_1, ix_3_0, ix_3_1, ix_3_2, ix_4_0, ix_4_1, ix_4_2, ix_4_3, ix_5_0, ix_5_1, ix_5_2, ix_5_3, ix_5_4, decide_eq_false_iff_not, ↓lc_seq, ↓lc_r1, ↓lc_r2, ↓for_seq, ↓for_r1, ↓for_r2, ↓c3Tuple_it, ↓c3Min2_int, ↓c3Max2_int, ↓m3Pop_ref, ↓lc_zip, ↓for_zip, ↓lc_enum, ↓for_enum, ↓q_tAug3, r3AddI, ↓datD_pair, datD_pair, eqv_pair, ↓m3Index_ref, wipe3, ↓len_tup, ↓len_rol, ↓c3Len_tup, ↓c3Len_rol, ↓c3Len_ref, ↓c3Int_int, ↓c3Int_bl, ↓c3Abs_int, ↓c3All_ref, ↓c3Any_ref, ↓c3Isi_tl, ↓c3Isi_ty, ↓m3Append_ref, ↓s3Lst_ref, ↓r3Is_non, ↓r3IsNot_non, atI_0, atI_1, atI_2, atI_3, atI_4, tyD_tup, tyD_int, tyD_bl, mc_bool, mc_int, mc_str, mc_tuple, mc_list, mc_dict, ib_NoneType_bool, ib_NoneType_int, ib_NoneType_str, ib_NoneType_tuple, ib_NoneType_list, ib_NoneType_dict, ib_bool_bool, ib_bool_int, ib_bool_str, ib_bool_tuple, ib_bool_list, ib_bool_dict, ib_int_bool, ib_int_int, ib_int_str, ib_int_tuple, ib_int_list, ib_int_dict, ib_str_bool, ib_str_int, ib_str_str, ib_str_tuple, ib_str_list, ib_str_dict, ib_tuple_bool, ib_tuple_int, ib_tuple_str, ib_tuple_tuple, ib_tuple_list, ib_tuple_dict, ib_list_bool, ib_list_int, ib_list_str, ib_list_tuple, ib_list_list, ib_list_dict, ib_dict_bool, ib_dict_int, ib_dict_str, ib_dict_tuple, ib_dict_list, ib_dict_dict, tyD_str, tyD_non, tyD_rol, Bool.or_false, Bool.false_or, Bool.or_true, Bool.true_or, ↓truD_bl, ↓truD_int, List.getElem?_cons_zero, List.getElem?_cons_succ, List.set_cons_zero, List.set_cons_succ, Option.some.injEq, L3.D.bl.injEq, L3.D.int.injEq, L3.D.ref.injEq, L3.D.tup.injEq, L3.D.ty.injEq, L3.D.str.injEq, List.cons.injEq, and_true, true_and, exists_eq_left, exists_eq_left', exists_eq, exists_eq', exists_and_left, exists_and_right, exists_const, and_assoc, exists_eq_right_right, exists_eq_right, ↓ite_both, decide_eq_true_eq, reduceCtorEq, false_and, and_false, exists_false, not_false_eq_true, not_true_eq_false, Bool.false_eq_true, implies_true, forall_const, true_implies, false_implies, Bool.not_eq_true, Bool.not_true, Bool.not_false, decide_true, decide_false, Bool.not_eq_true', Bool.not_eq_false', Bool.not_eq_false, if_true, if_false, Bool.and_true, Bool.true_and, Bool.and_false, Bool.false_and, r3Eq, r3Ne]
    refine ⟨by omega, by omega, ?_⟩
    refine forB_p (fun k σ => ∃ v6, σ = [some (.int p), some (.tup (xs.map nuD)), some (.tup (ys.map nuD)), some (.ref l), some (.int (i : Nat)), some (nuD (coefN p xs ys k i)), v6]) ?_ trivial ?_ ?_
    · refine ⟨v6, ?_⟩
      rw [show coefN p xs ys 0 i = zeroN p from rfl, zero_nu, show (0 : Int) + ((i : Nat) : Int) = ((i : Nat) : Int) by omega]
    · rintro k d σ' N2 hd2 hk ⟨v6, rfl⟩ nx2
      have hk2 : k < (rngL 0 (xs.length : Int)).length := hk
      rw [rng_len] at hk2
      obtain ⟨rfl, hk3⟩ := rng_get hd2
      have hkl : k < xs.length := by omega
      have hck : k * (s + t + 3) ≤ xs.length * (s + t + 3) := Nat.mul_le_mul_right _ (by omega)
      have zx' := zx xs[k] (List.getElem_mem hkl)
      have hxk := hx xs[k] (List.getElem_mem hkl)
      have at1 : atI (xs.map nuD) (0 + ((k : Nat) : Int)) = some (nuD xs[k]) := by
        rw [show (0 : Int) + ((k : Nat) : Int) = ((k : Nat) : Int) by omega]
        exact atI_nat (by rw [List.getElem?_map, List.getElem?_eq_getElem hkl]; rfl)
      simp -implicitDefEqProofs only [sp__law_add, sp__law_mul, at1, ↓ex_bl, ↓ex_int, ↓ex_str, ↓ex_ref, ↓ex_tup, ↓ex_some, ↓ex_eq, ↓ex_eq', ↓ex_1, ↓ex_2, ↓ex_3, ↓ex_4, ↓ex_5, ↓ite_tt, ↓ite_ff, ↓v3_0, ↓v3_s, ↓eq_int, ↓ne_int, ↓eq_bl, ↓ne_bl, ↓eq_pair, ↓ne_pair, eqv_bool, eqv_str, ↓pow_lit, ↓ix_t0, ↓ix_t1, ↓ix_tup, ↓ix_it, ↓q_tC3, ↓q_tOp3, ↓q_tUn3, ↓q_tTest3, ↓q_tChain3, ↓q_tTruth3, ↓q_tAnd3, ↓q_tOr3, ↓q_tNot3, ↓q_tAndV3, ↓q_tOrV3, ↓q_tNotV3, ↓q_tIf3, ↓q_tNil3, ↓q_tCons3, ↓q_tTup3, ↓q_tLst3, ↓q_tNoPart3, ↓q_tPart3, ↓q_tSl3, ↓q_tRev3, ↓r3Rev_tup, ↓r3IsNot_bl, ↓r3Is_bl, ↓r3Sl_tup, ↓c3List_tup, ↓c3List_ref, ↓q_tCB3, ↓q_tBM3, ↓q_tBM03, ↓q_tNext3, ↓q_tSeq3, ↓q_tDrop3, ↓q_tRet3, ↓q_tRetN3, ↓q_tIfS3, ↓q_gName3, ↓gnil_eq, ↓gcons_eq, ↓q_gTup3, ↓q_gSub3, ↓q_tAsg3, ↓q_tPar3, ↓q_tYes3, ↓q_tCall3, ↓q_tTryAs3, ↓q_goneE_nx, ↓q_goneE_rt, ↓q_c3IsE, ↓is_bl, ↓c3Str_int, ↓q_tRaise3, ↓q_spA0, ↓q_spA1, ↓q_spA2, ↓q_spA3, ↓q_spA4, ↓q_spA5, ↓q_endF_rt, ↓q_endF_nx, ↓q_endF_xx, r3Lt, r3Le, r3Gt, r3Ge, r3Mod, r3Div, r3Pow, r3Sub, ↓r3I_int, ↓r3I0_int, ↓r3Add_int, ↓r3Add_tup, ↓r3Add_ref, ↓r3Mul_int, ↓r3Mul_ref, datD_non, ↓datD_bl, ↓datD_int, eqv_int, ↓items_tup, ↓items_rol, ↓items_new, ↓len_new, ↓mupd_same, L3.MO.lst.injEq, List.length_cons, List.length_nil, Nat.reduceAdd, Nat.zero_add, sizeLine_eq, Nat.reduceLeDiff, Nat.reducePow, Int.reduceLT, Int.reduceLE, Int.reducePow, Int.reduceToNat, Int.reduceNeg, Int.reduceAdd, Int.cast_ofNat_Int, Int.reduceSub, Int.reduceMul, Nat.reduceMul, Nat.reduceLT, cpow_lit, List.length_append, List.length_map, ↓u3Neg_int, fdiv_pos, ↓q_tDict0, ix_1_0, ix_2_0, ix_2_1, ix_3_0, ix_3_1, ix_3_2, ix_4_0, ix_4_1, ix_4_2, ix_4_3, ix_5_0, ix_5_1, ix_5_2, ix_5_3, ix_5_4, decide_eq_false_iff_not, ↓lc_seq, ↓lc_r1, ↓lc_r2, ↓for_seq, ↓for_r1, ↓for_r2, ↓c3Tuple_it, ↓c3Min2_int, ↓c3Max2_int, ↓m3Pop_ref, ↓lc_zip, ↓for_zip, ↓lc_enum, ↓for_enum, ↓q_tAug3, r3AddI, ↓datD_pair, datD_pair, eqv_pair, ↓m3Index_ref, wipe3, ↓len_tup, ↓len_rol, ↓c3Len_tup, ↓c3Len_rol, ↓c3Len_ref, ↓c3Int_int, ↓c3Int_bl, ↓c3Abs_int, ↓c3All_ref, ↓c3Any_ref, ↓c3Isi_tl, ↓c3Isi_ty, ↓m3Append_ref, ↓s3Lst_ref, ↓r3Is_non, ↓r3IsNot_non, atI_0, atI_1, atI_2, atI_3, atI_4, tyD_tup, tyD_int, tyD_bl, mc_bool, mc_int, mc_str, mc_tuple, mc_list, mc_dict, ib_NoneType_bool, ib_NoneType_int, ib_NoneType_str, ib_NoneType_tuple, ib_NoneType_list, ib_NoneType_dict, ib_bool_bool, ib_bool_int, ib_bool_str, ib_bool_tuple, ib_bool_list, ib_bool_dict, ib_int_bool, ib_int_int, ib_int_str, ib_int_tuple, ib_int_list, ib_int_dict, ib_str_bool, ib_str_int, ib_str_str, ib_str_tuple, ib_str_list, ib_str_dict, ib_tuple_bool, ib_tuple_int, ib_tuple_str, ib_tuple_tuple, ib_tuple_list, ib_tuple_dict, ib_list_bool, ib_list_int, ib_list_str, ib_list_tuple, ib_list_list, ib_list_dict, ib_dict_bool, ib_dict_int, ib_dict_str, ib_dict_tuple, ib_dict_list, ib_dict_dict, tyD_str, tyD_non, tyD_rol, Bool.or_false, Bool.false_or, Bool.or_true, Bool.true_or, ↓truD_bl, ↓truD_int, List.getElem?_cons_zero, List.getElem?_cons_succ, List.set_cons_zero, List.set_cons_succ, Option.some.injEq, L3.D.bl.injEq, L3.D.int.injEq, L3.D.ref.injEq, L3.D.tup.injEq, L3.D.ty.injEq, L3.D.str.injEq, List.cons.injEq, and_true, true_and, exists_eq_left, exists_eq_left', exists_eq, exists_eq', exists_and_left, exists_and_right, exists_const, and_assoc, exists_eq_right_right, exists_eq_right, ↓ite_both, decide_eq_true_eq, reduceCtorEq, false_and, and_false, exists_false, not_false_eq_true, not_true_eq_false, Bool.false_eq_true, implies_true, forall_const, true_implies, false_implies, Bool.not_eq_true, Bool.not_true, Bool.not_false, decide_true, decide_false, Bool.not_eq_true', Bool.not_eq_false', Bool.not_eq_false, if_true, if_false, Bool.and_true, Bool.true_and, Bool.and_false, Bool.false_and, r3Eq, r3Ne]
      have no : ¬ (k ≤ i ∧ i - k < ys.length) → coefN p xs ys (k + 1) i = coefN p xs ys k i := fun h => by
        conv => lhs; unfold coefN
        rw [if_neg h]
      refine ⟨fun h0 => ⟨fun h1 => ?_, fun h1 => nx2 _ _ .refl ⟨_, by rw [no (by omega)]⟩⟩, fun h0 => nx2 _ _ .refl ⟨_, by rw [no (by omega)]⟩⟩
      have hjl : i - k < ys.length := by omega
      have at2 : atI (ys.map nuD) (((i : Nat) : Int) - (0 + ((k : Nat) : Int))) = some (nuD ys[i - k]) := by
        rw [show ((i : Nat) : Int) - (0 + ((k : Nat) : Int)) = (((i - k : Nat)) : Int) by omega]
        exact atI_nat (by rw [List.getElem?_map, List.getElem?_eq_getElem hjl]; rfl)
      have zy' := zy ys[i - k] (List.getElem_mem hjl)
      have hyj := hy ys[i - k] (List.getElem_mem hjl)
      refine ⟨_, at2, xs[k], rfl, ys[i - k], rfl, hg, hxk, hyj, ⟨_, zx', _, zy', by omega⟩, coefN p xs ys k i, rfl, mulN p xs[k] ys[i - k], rfl, hg, coef_ok pl hx hy _ _, ok_mul hxk hyj, ⟨_, coef_sz zx zy k i, _, sz_mul zx' zy', by omega⟩, ?_⟩
      have step : coefN p xs ys (k + 1) i = addN p (coefN p xs ys k i) (mulN p xs[k] ys[i - k]) := by
        conv => lhs; unfold coefN
        rw [if_pos ⟨by omega, by omega⟩, List.getD_eq_getElem?_getD, List.getElem?_eq_getElem hkl, List.getD_eq_getElem?_getD, List.getElem?_eq_getElem hjl]
        rfl
      exact nx2 _ _ .refl ⟨_, by rw [step]⟩
    · rintro σ' ⟨v6, rfl⟩
      have hlen : (rngL 0 (xs.length : Int)).length = xs.length := by rw [rng_len]; omega
      simp -implicitDefEqProofs only [hlen, List.length_range, mupd_mupd, ↓ex_bl, ↓ex_int, ↓ex_str, ↓ex_ref, ↓ex_tup, ↓ex_some, ↓ex_eq, ↓ex_eq', ↓ex_1, ↓ex_2, ↓ex_3, ↓ex_4, ↓ex_5, ↓ite_tt, ↓ite_ff, ↓v3_0, ↓v3_s, ↓eq_int, ↓ne_int, ↓eq_bl, ↓ne_bl, ↓eq_pair, ↓ne_pair, eqv_bool, eqv_str, ↓pow_lit, ↓ix_t0, ↓ix_t1, ↓ix_tup, ↓ix_it, ↓q_tC3, ↓q_tOp3, ↓q_tUn3, ↓q_tTest3, ↓q_tChain3, ↓q_tTruth3, ↓q_tAnd3, ↓q_tOr3, ↓q_tNot3, ↓q_tAndV3, ↓q_tOrV3, ↓q_tNotV3, ↓q_tIf3, ↓q_tNil3, ↓q_tCons3, ↓q_tTup3, ↓q_tLst3, ↓q_tNoPart3, ↓q_tPart3, ↓q_tSl3, ↓q_tRev3, ↓r3Rev_tup, ↓r3IsNot_bl, ↓r3Is_bl, ↓r3Sl_tup, ↓c3List_tup, ↓c3List_ref, ↓q_tCB3, ↓q_tBM3, ↓q_tBM03, ↓q_tNext3, ↓q_tSeq3, ↓q_tDrop3, ↓q_tRet3, ↓q_tRetN3, ↓q_tIfS3, ↓q_gName3, ↓gnil_eq, ↓gcons_eq, ↓q_gTup3, ↓q_gSub3, ↓q_tAsg3, ↓q_tPar3, ↓q_tYes3, ↓q_tCall3, ↓q_tTryAs3, ↓q_goneE_nx, ↓q_goneE_rt, ↓q_c3IsE, ↓is_bl, ↓c3Str_int, ↓q_tRaise3, ↓q_spA0, ↓q_spA1, ↓q_spA2, ↓q_spA3, ↓q_spA4, ↓q_spA5, ↓q_endF_rt, ↓q_endF_nx, ↓q_endF_xx, r3Lt, r3Le, r3Gt, r3Ge, r3Mod, r3Div, r3Pow, r3Sub, ↓r3I_int, ↓r3I0_int, ↓r3Add_int, ↓r3Add_tup, ↓r3Add_ref, ↓r3Mul_int, ↓r3Mul_ref, datD_non, ↓datD_bl, ↓datD_int, eqv_int, ↓items_tup, ↓items_rol, ↓items_new, ↓len_new, ↓mupd_same, L3.MO.lst.injEq, List.length_cons, List.length_nil, Nat.reduceAdd, Nat.zero_add, sizeLine_eq, Nat.reduceLeDiff, Nat.reducePow, Int.reduceLT, Int.reduceLE, Int.reducePow, Int.reduceToNat, Int.reduceNeg, Int.reduceAdd, Int.cast_ofNat_Int, Int.reduceSub, Int.reduceMul, Nat.reduceMul, Nat.reduceLT, cpow_lit, List.length_append, List.length_map, ↓u3Neg_int, fdiv_pos, ↓q_tDict0, ix_1_0, ix_2_0, ix_2_1, ix_3_0, ix_3_1, ix_3_2, ix_4_0, ix_4_1, ix_4_2, ix_4_3, ix_5_0, ix_5_1, ix_5_2, ix_5_3, ix_5_4, decide_eq_false_iff_not, ↓lc_seq, ↓lc_r1, ↓lc_r2, ↓for_seq, ↓for_r1, ↓for_r2, ↓c3Tuple_it, ↓c3Min2_int, ↓c3Max2_int, ↓m3Pop_ref, ↓lc_zip, ↓for_zip, ↓lc_enum, ↓for_enum, ↓q_tAug3, r3AddI, ↓datD_pair, datD_pair, eqv_pair, ↓m3Index_ref, wipe3, ↓len_tup, ↓len_rol, ↓c3Len_tup, ↓c3Len_rol, ↓c3Len_ref, ↓c3Int_int, ↓c3Int_bl, ↓c3Abs_int, ↓c3All_ref, ↓c3Any_ref, ↓c3Isi_tl, ↓c3Isi_ty, ↓m3Append_ref, ↓s3Lst_ref, ↓r3Is_non, ↓r3IsNot_non, atI_0, atI_1, atI_2, atI_3, atI_4, tyD_tup, tyD_int, tyD_bl, mc_bool, mc_int, mc_str, mc_tuple, mc_list, mc_dict, ib_NoneType_bool, ib_NoneType_int, ib_NoneType_str, ib_NoneType_tuple, ib_NoneType_list, ib_NoneType_dict, ib_bool_bool, ib_bool_int, ib_bool_str, ib_bool_tuple, ib_bool_list, ib_bool_dict, ib_int_bool, ib_int_int, ib_int_str, ib_int_tuple, ib_int_list, ib_int_dict, ib_str_bool, ib_str_int, ib_str_str, ib_str_tuple, ib_str_list, ib_str_dict, ib_tuple_bool, ib_tuple_int, ib_tuple_str, ib_tuple_tuple, ib_tuple_list, ib_tuple_dict, ib_list_bool, ib_list_int, ib_list_str, ib_list_tuple, ib_list_list, ib_list_dict, ib_dict_bool, ib_dict_int, ib_dict_str, ib_dict_tuple, ib_dict_list, ib_dict_dict, tyD_str, tyD_non, tyD_rol, Bool.or_false, Bool.false_or, Bool.or_true, Bool.true_or, ↓truD_bl, ↓truD_int, List.getElem?_cons_zero, List.getElem?_cons_succ, List.set_cons_zero, List.set_cons_succ, Option.some.injEq, L3.D.bl.injEq, L3.D.int.injEq, L3.D.ref.injEq, L3.D.tup.injEq, L3.D.ty.injEq, L3.D.str.injEq, List.cons.injEq, and_true, true_and, exists_eq_left, exists_eq_left', exists_eq, exists_eq', exists_and_left, exists_and_right, exists_const, and_assoc, exists_eq_right_right, exists_eq_right, ↓ite_both, decide_eq_true_eq, reduceCtorEq, false_and, and_false, exists_false, not_false_eq_true, not_true_eq_false, Bool.false_eq_true, implies_true, forall_const, true_implies, false_implies, Bool.not_eq_true, Bool.not_true, Bool.not_false, decide_true, decide_false, Bool.not_eq_true', Bool.not_eq_false', Bool.not_eq_false, if_true, if_false, Bool.and_true, Bool.true_and, Bool.and_false, Bool.false_and, r3Eq, r3Ne]
      refine ⟨by omega, nx _ _ _ .refl ⟨⟨_, _, _, rfl⟩, ?_⟩⟩
      rw [List.range_succ, List.map_append]
      rfl
  · rintro σ' acc ⟨⟨v4, v5, v6, rfl⟩, rfl⟩
    have s1 : ∀ o, MSub M (mupd M l o) := fun o => MSub.new .refl hl
    simp -implicitDefEqProofs only [↓ex_bl, ↓ex_int, ↓ex_str, ↓ex_ref, ↓ex_tup, ↓ex_some, ↓ex_eq, ↓ex_eq', ↓ex_1, ↓ex_2, ↓ex_3, ↓ex_4, ↓ex_5, ↓ite_tt, ↓ite_ff, ↓v3_0, ↓v3_s, ↓eq_int, ↓ne_int, ↓eq_bl, ↓ne_bl, ↓eq_pair, ↓ne_pair, eqv_bool, eqv_str, ↓pow_lit, ↓ix_t0, ↓ix_t1, ↓ix_tup, ↓ix_it, ↓q_tC3, ↓q_tOp3, ↓q_tUn3, ↓q_tTest3, ↓q_tChain3, ↓q_tTruth3, ↓q_tAnd3, ↓q_tOr3, ↓q_tNot3, ↓q_tAndV3, ↓q_tOrV3, ↓q_tNotV3, ↓q_tIf3, ↓q_tNil3, ↓q_tCons3, ↓q_tTup3, ↓q_tLst3, ↓q_tNoPart3, ↓q_tPart3, ↓q_tSl3, ↓q_tRev3, ↓r3Rev_tup, ↓r3IsNot_bl, ↓r3Is_bl, ↓r3Sl_tup, ↓c3List_tup, ↓c3List_ref, ↓q_tCB3, ↓q_tBM3, ↓q_tBM03, ↓q_tNext3, ↓q_tSeq3, ↓q_tDrop3, ↓q_tRet3, ↓q_tRetN3, ↓q_tIfS3, ↓q_gName3, ↓gnil_eq, ↓gcons_eq, ↓q_gTup3, ↓q_gSub3, ↓q_tAsg3, ↓q_tPar3, ↓q_tYes3, ↓q_tCall3, ↓q_tTryAs3, ↓q_goneE_nx, ↓q_goneE_rt, ↓q_c3IsE, ↓is_bl, ↓c3Str_int, ↓q_tRaise3, ↓q_spA0, ↓q_spA1, ↓q_spA2, ↓q_spA3, ↓q_spA4, ↓q_spA5, ↓q_endF_rt, ↓q_endF_nx, ↓q_endF_xx, r3Lt, r3Le, r3Gt, r3Ge, r3Mod, r3Div, r3Pow, r3Sub, ↓r3I_int, ↓r3I0_int, ↓r3Add_int, ↓r3Add_tup, ↓r3Add_ref, ↓r3Mul_int, ↓r3Mul_ref, datD_non, ↓datD_bl, ↓datD_int, eqv_int, ↓items_tup, ↓items_rol, ↓items_new, ↓len_new, ↓mupd_same, L3.MO.lst.injEq, List.length_cons, List.length_nil, Nat.reduceAdd, Nat.zero_add, sizeLine_eq, Nat.reduceLeDiff, Nat.reducePow, Int.reduceLT, Int.reduceLE, Int.reducePow, Int.reduceToNat, Int.reduceNeg, Int.reduceAdd, Int.cast_ofNat_Int, Int.reduceSub, Int.reduceMul, Nat.reduceMul, Nat.reduceLT, cpow_lit, List.length_append, List.length_map, ↓u3Neg_int, fdiv_pos, ↓q_tDict0, ix_1_0, ix_2_0, ix_2_1, ix_3_0, ix_3_1, ix_3_2, ix_4_0, ix_4_1, ix_4_2, ix_4_3, ix_5_0, ix_5_1, ix_5_2, ix_5_3, ix_5_4, decide_eq_false_iff_not, ↓lc_seq, ↓lc_r1, ↓lc_r2, ↓for_seq, ↓for_r1, ↓for_r2, ↓c3Tuple_it, ↓c3Min2_int, ↓c3Max2_int, ↓m3Pop_ref, ↓lc_zip, ↓for_zip, ↓lc_enum, ↓for_enum, ↓q_tAug3, r3AddI, ↓datD_pair, datD_pair, eqv_pair, ↓m3Index_ref, wipe3, ↓len_tup, ↓len_rol, ↓c3Len_tup, ↓c3Len_rol, ↓c3Len_ref, ↓c3Int_int, ↓c3Int_bl, ↓c3Abs_int, ↓c3All_ref, ↓c3Any_ref, ↓c3Isi_tl, ↓c3Isi_ty, ↓m3Append_ref, ↓s3Lst_ref, ↓r3Is_non, ↓r3IsNot_non, atI_0, atI_1, atI_2, atI_3, atI_4, tyD_tup, tyD_int, tyD_bl, mc_bool, mc_int, mc_str, mc_tuple, mc_list, mc_dict, ib_NoneType_bool, ib_NoneType_int, ib_NoneType_str, ib_NoneType_tuple, ib_NoneType_list, ib_NoneType_dict, ib_bool_bool, ib_bool_int, ib_bool_str, ib_bool_tuple, ib_bool_list, ib_bool_dict, ib_int_bool, ib_int_int, ib_int_str, ib_int_tuple, ib_int_list, ib_int_dict, ib_str_bool, ib_str_int, ib_str_str, ib_str_tuple, ib_str_list, ib_str_dict, ib_tuple_bool, ib_tuple_int, ib_tuple_str, ib_tuple_tuple, ib_tuple_list, ib_tuple_dict, ib_list_bool, ib_list_int, ib_list_str, ib_list_tuple, ib_list_list, ib_list_dict, ib_dict_bool, ib_dict_int, ib_dict_str, ib_dict_tuple, ib_dict_list, ib_dict_dict, tyD_str, tyD_non, tyD_rol, Bool.or_false, Bool.false_or, Bool.or_true, Bool.true_or, ↓truD_bl, ↓truD_int, List.getElem?_cons_zero, List.getElem?_cons_succ, List.set_cons_zero, List.set_cons_succ, Option.some.injEq, L3.D.bl.injEq, L3.D.int.injEq, L3.D.ref.injEq, L3.D.tup.injEq, L3.D.ty.injEq, L3.D.str.injEq, List.cons.injEq, and_true, true_and, exists_eq_left, exists_eq_left', exists_eq, exists_eq', exists_and_left, exists_and_right, exists_const, and_assoc, exists_eq_right_right, exists_eq_right, ↓ite_both, decide_eq_true_eq, reduceCtorEq, false_and, and_false, exists_false, not_false_eq_true, not_true_eq_false, Bool.false_eq_true, implies_true, forall_const, true_implies, false_implies, Bool.not_eq_true, Bool.not_true, Bool.not_false, decide_true, decide_false, Bool.not_eq_true', Bool.not_eq_false', Bool.not_eq_false, if_true, if_false, Bool.and_true, Bool.true_and, Bool.and_false, Bool.false_and, r3Eq, r3Ne]
    refine ⟨fun h0 => ⟨fun h1 => ret_pure (s1 _) ?_, fun h1 => ret_pure (s1 _) ?_⟩, fun h0 => ret_pure (s1 _) ?_⟩
    · rw [show mulL p xs ys = (List.range (xs.length + ys.length - 1)).map (coefN p xs ys xs.length) from if_neg (by omega)] at q
      have e : (rngL 0 ((xs.length : Int) + (ys.length : Int) - 1)).length = xs.length + ys.length - 1 := by rw [rng_len]; omega
      show Q (.tup ((List.range (rngL 0 ((xs.length : Int) + (ys.length : Int) - 1)).length).map _)) M
      rw [e]
      unfold polyD at q
      rw [List.map_map] at q
      exact q
    · rw [show mulL p xs ys = [] from if_pos (by omega)] at q; exact q
    · rw [show mulL p xs ys = [] from if_pos (by omega)] at q; exact q

def sp_is_integer (K : PySem.W.Frag) : Sp3 := spA1 fun a M Q X => HasTy M a ∧ Q (.bl (isInt a)) M
abbrev N_is_integer : List Str := ["thing"]
def tr_is_integer (K : PySem.W.Frag) : TS3 := (tRet3 (tAndV3 (tCB3 c3Isi (tCons3 (tVar3 0) (tCons3 (tC3 (.ty "int")) tNil3))) (tNotV3 (tCB3 c3Isi (tCons3 (tVar3 0) (tCons3 (tC3 (.ty "bool")) tNil3))))))
theorem rd_is_integer (K : PySem.W.Frag) : ∀ ds M Q E, sp_is_integer K ds M Q E → tr_is_integer K (endF M Q E) (start3 N_is_integer ds) M := by
  rintro ds M Q E ⟨a, rfl, ⟨t, ht⟩, q⟩
  unfold tr_is_integer
  simp only [start3, List.map_cons, List.map_nil, List.length_cons, List.length_nil, List.cons_append, List.nil_append, List.replicate_succ, List.replicate_zero, Nat.reduceAdd, Nat.reduceSub, Nat.zero_add]
  simp -implicitDefEqProofs only [↓ex_bl, ↓ex_int, ↓ex_str, ↓ex_ref, ↓ex_tup, ↓ex_some, ↓ex_eq, ↓ex_eq', ↓ex_1, ↓ex_2, ↓ex_3, ↓ex_4, ↓ex_5, ↓ite_tt, ↓ite_ff, ↓v3_0, ↓v3_s, ↓eq_int, ↓ne_int, ↓eq_bl, ↓ne_bl, ↓eq_pair, ↓ne_pair, eqv_bool, eqv_str, ↓pow_lit, ↓ix_t0, ↓ix_t1, ↓ix_tup, ↓ix_it, ↓q_tC3, ↓q_tOp3, ↓q_tUn3, ↓q_tTest3, ↓q_tChain3, ↓q_tTruth3, ↓q_tAnd3, ↓q_tOr3, ↓q_tNot3, ↓q_tAndV3, ↓q_tOrV3, ↓q_tNotV3, ↓q_tIf3, ↓q_tNil3, ↓q_tCons3, ↓q_tTup3, ↓q_tLst3, ↓q_tNoPart3, ↓q_tPart3, ↓q_tSl3, ↓q_tRev3, ↓r3Rev_tup, ↓r3IsNot_bl, ↓r3Is_bl, ↓r3Sl_tup, ↓c3List_tup, ↓c3List_ref, ↓q_tCB3, ↓q_tBM3, ↓q_tBM03, ↓q_tNext3, ↓q_tSeq3, ↓q_tDrop3, ↓q_tRet3, ↓q_tRetN3, ↓q_tIfS3, ↓q_gName3, ↓gnil_eq, ↓gcons_eq, ↓q_gTup3, ↓q_gSub3, ↓q_tAsg3, ↓q_tPar3, ↓q_tYes3, ↓q_tCall3, ↓q_tTryAs3, ↓q_goneE_nx, ↓q_goneE_rt, ↓q_c3IsE, ↓is_bl, ↓c3Str_int, ↓q_tRaise3, ↓q_spA0, ↓q_spA1, ↓q_spA2, ↓q_spA3, ↓q_spA4, ↓q_spA5, ↓q_endF_rt, ↓q_endF_nx, ↓q_endF_xx, r3Lt, r3Le, r3Gt, r3Ge, r3Mod, r3Div, r3Pow, r3Sub, ↓r3I_int, ↓r3I0_int, ↓r3Add_int, ↓r3Add_tup, ↓r3Add_ref, ↓r3Mul_int, ↓r3Mul_ref, datD_non, ↓datD_bl, ↓datD_int, eqv_int, ↓items_tup, ↓items_rol, ↓items_new, ↓len_new, ↓mupd_same, L3.MO.lst.injEq, List.length_cons, List.length_nil, Nat.reduceAdd, Nat.zero_add, sizeLine_eq, Nat.reduceLeDiff, Nat.reducePow, Int.reduceLT, Int.reduceLE, Int.reducePow, Int.reduceToNat, Int.reduceNeg, Int.reduceAdd, Int.cast_ofNat_Int, Int.reduceSub, Int.reduceMul, Nat.reduceMul, Nat.reduceLT, cpow_lit, List.length_append, List.length_map, ↓u3Neg_int, fdiv_pos, ↓q_tDict0, ix_1_0, ix_2_0, ix_2_1, ix_3_0, ix_3_1, ix_3_2, ix_4_0, ix_4_1, ix_4_2, ix_4_3, ix_5_0, ix_5_1, ix_5_2, ix_5_3, ix_5_4, decide_eq_false_iff_not, ↓lc_seq, ↓lc_r1, ↓lc_r2, ↓for_seq, ↓for_r1, ↓for_r2, ↓c3Tuple_it, ↓c3Min2_int, ↓c3Max2_int, ↓m3Pop_ref, ↓lc_zip, ↓for_zip, ↓lc_enum, ↓for_enum, ↓q_tAug3, r3AddI, ↓datD_pair, datD_pair, eqv_pair, ↓m3Index_ref, wipe3, ↓len_tup, ↓len_rol, ↓c3Len_tup, ↓c3Len_rol, ↓c3Len_ref, ↓c3Int_int, ↓c3Int_bl, ↓c3Abs_int, ↓c3All_ref, ↓c3Any_ref, ↓c3Isi_tl, ↓c3Isi_ty, ↓m3Append_ref, ↓s3Lst_ref, ↓r3Is_non, ↓r3IsNot_non, atI_0, atI_1, atI_2, atI_3, atI_4, tyD_tup, tyD_int, tyD_bl, mc_bool, mc_int, mc_str, mc_tuple, mc_list, mc_dict, ib_NoneType_bool, ib_NoneType_int, ib_NoneType_str, ib_NoneType_tuple, ib_NoneType_list, ib_NoneType_dict, ib_bool_bool, ib_bool_int, ib_bool_str, ib_bool_tuple, ib_bool_list, ib_bool_dict, ib_int_bool, ib_int_int, ib_int_str, ib_int_tuple, ib_int_list, ib_int_dict, ib_str_bool, ib_str_int, ib_str_str, ib_str_tuple, ib_str_list, ib_str_dict, ib_tuple_bool, ib_tuple_int, ib_tuple_str, ib_tuple_tuple, ib_tuple_list, ib_tuple_dict, ib_list_bool, ib_list_int, ib_list_str, ib_list_tuple, ib_list_list, ib_list_dict, ib_dict_bool, ib_dict_int, ib_dict_str, ib_dict_tuple, ib_dict_list, ib_dict_dict, tyD_str, tyD_non, tyD_rol, Bool.or_false, Bool.false_or, Bool.or_true, Bool.true_or, ↓truD_bl, ↓truD_int, List.getElem?_cons_zero, List.getElem?_cons_succ, List.set_cons_zero, List.set_cons_succ, Option.some.injEq, L3.D.bl.injEq, L3.D.int.injEq, L3.D.ref.injEq, L3.D.tup.injEq, L3.D.ty.injEq, L3.D.str.injEq, List.cons.injEq, and_true, true_and, exists_eq_left, exists_eq_left', exists_eq, exists_eq', exists_and_left, exists_and_right, exists_const, and_assoc, exists_eq_right_right, exists_eq_right, ↓ite_both, decide_eq_true_eq, reduceCtorEq, false_and, and_false, exists_false, not_false_eq_true, not_true_eq_false, Bool.false_eq_true, implies_true, forall_const, true_implies, false_implies, Bool.not_eq_true, Bool.not_true, Bool.not_false, decide_true, decide_false, Bool.not_eq_true', Bool.not_eq_false', Bool.not_eq_false, if_true, if_false, Bool.and_true, Bool.true_and, Bool.and_false, Bool.false_and, r3Eq, r3Ne]
  refine ⟨t, ht, ?_⟩
  have e := isi_int ht
  cases h1 : isiB t "int" with
  | false =>
    rw [h1] at e
    rw [← e] at q
    exact ⟨fun z => (Bool.noConfusion z), fun _ => ret_same q⟩
  | true =>
    rw [h1] at e
    rw [← e] at q
    exact ⟨fun _ => ⟨t, ht, ret_same q⟩, fun z => (Bool.noConfusion z)⟩

def sp_is_ground (K : PySem.W.Frag) : Sp3 := spA1 fun a M Q X => HasTy M a ∧ Q (.bl (isGr a)) M
abbrev N_is_ground : List Str := ["thing"]
def tr_is_ground (K : PySem.W.Frag) : TS3 := (tRet3 (tAndV3 (tCall3 (sp_is_integer K) (tCons3 (tVar3 0) tNil3)) (tOrV3 (tOp3 r3Eq (tVar3 0) (tC3 (.int 0))) (tOp3 (r3In false) (tVar3 0) (tC3 c_PRIMES)))))
theorem rd_is_ground (K : PySem.W.Frag) : ∀ ds M Q E, sp_is_ground K ds M Q E → tr_is_ground K (endF M Q E) (start3 N_is_ground ds) M := by
  rintro ds M Q E ⟨a, rfl, ha, q⟩
  unfold tr_is_ground
  simp only [start3, List.map_cons, List.map_nil, List.length_cons, List.length_nil, List.cons_append, List.nil_append, List.replicate_succ, List.replicate_zero, Nat.reduceAdd, Nat.reduceSub, Nat.zero_add]
  simp -implicitDefEqProofs only [sp_is_integer, ↓ex_bl, ↓ex_int, ↓ex_str, ↓ex_ref, ↓ex_tup, ↓ex_some, ↓ex_eq, ↓ex_eq', ↓ex_1, ↓ex_2, ↓ex_3, ↓ex_4, ↓ex_5, ↓ite_tt, ↓ite_ff, ↓v3_0, ↓v3_s, ↓eq_int, ↓ne_int, ↓eq_bl, ↓ne_bl, ↓eq_pair, ↓ne_pair, eqv_bool, eqv_str, ↓pow_lit, ↓ix_t0, ↓ix_t1, ↓ix_tup, ↓ix_it, ↓q_tC3, ↓q_tOp3, ↓q_tUn3, ↓q_tTest3, ↓q_tChain3, ↓q_tTruth3, ↓q_tAnd3, ↓q_tOr3, ↓q_tNot3, ↓q_tAndV3, ↓q_tOrV3, ↓q_tNotV3, ↓q_tIf3, ↓q_tNil3, ↓q_tCons3, ↓q_tTup3, ↓q_tLst3, ↓q_tNoPart3, ↓q_tPart3, ↓q_tSl3, ↓q_tRev3, ↓r3Rev_tup, ↓r3IsNot_bl, ↓r3Is_bl, ↓r3Sl_tup, ↓c3List_tup, ↓c3List_ref, ↓q_tCB3, ↓q_tBM3, ↓q_tBM03, ↓q_tNext3, ↓q_tSeq3, ↓q_tDrop3, ↓q_tRet3, ↓q_tRetN3, ↓q_tIfS3, ↓q_gName3, ↓gnil_eq, ↓gcons_eq, ↓q_gTup3, ↓q_gSub3, ↓q_tAsg3, ↓q_tPar3, ↓q_tYes3, ↓q_tCall3, ↓q_tTryAs3, ↓q_goneE_nx, ↓q_goneE_rt, ↓q_c3IsE, ↓is_bl, ↓c3Str_int, ↓q_tRaise3, ↓q_spA0, ↓q_spA1, ↓q_spA2, ↓q_spA3, ↓q_spA4, ↓q_spA5, ↓q_endF_rt, ↓q_endF_nx, ↓q_endF_xx, r3Lt, r3Le, r3Gt, r3Ge, r3Mod, r3Div, r3Pow, r3Sub, ↓r3I_int, ↓r3I0_int, ↓r3Add_int, ↓r3Add_tup, ↓r3Add_ref, ↓r3Mul_int, ↓r3Mul_ref, datD_non, ↓datD_bl, ↓datD_int, eqv_int, ↓items_tup, ↓items_rol, ↓items_new, ↓len_new, ↓mupd_same, L3.MO.lst.injEq, List.length_cons, List.length_nil, Nat.reduceAdd, Nat.zero_add, sizeLine_eq, Nat.reduceLeDiff, Nat.reducePow, Int.reduceLT, Int.reduceLE, Int.reducePow, Int.reduceToNat, Int.reduceNeg, Int.reduceAdd, Int.cast_ofNat_Int, Int.reduceSub, Int.reduceMul, Nat.reduceMul, Nat.reduceLT, cpow_lit, List.length_append, List.length_map, ↓u3Neg_int, fdiv_pos, ↓q_tDict0, ix_1_0, ix_2_0, ix_2_1, ix_3_0, ix_3_1, ix_3_2, ix_4_0, ix_4_1, ix_4_2, ix_4_3, ix_5_0, ix_5_1, ix_5_2, ix_5_3, ix_5_4, decide_eq_false_iff_not, ↓lc_seq, ↓lc_r1, ↓lc_r2, ↓for_seq, ↓for_r1, ↓for_r2, ↓c3Tuple_it, ↓c3Min2_int, ↓c3Max2_int, ↓m3Pop_ref, ↓lc_zip, ↓for_zip, ↓lc_enum, ↓for_enum, ↓q_tAug3, r3AddI, ↓datD_pair, datD_pair, eqv_pair, ↓m3Index_ref, wipe3, ↓len_tup, ↓len_rol, ↓c3Len_tup, ↓c3Len_rol, ↓c3Len_ref, ↓c3Int_int, ↓c3Int_bl, ↓c3Abs_int, ↓c3All_ref, ↓c3Any_ref, ↓c3Isi_tl, ↓c3Isi_ty, ↓m3Append_ref, ↓s3Lst_ref, ↓r3Is_non, ↓r3IsNot_non, atI_0, atI_1, atI_2, atI_3, atI_4, tyD_tup, tyD_int, tyD_bl, mc_bool, mc_int, mc_str, mc_tuple, mc_list, mc_dict, ib_NoneType_bool, ib_NoneType_int, ib_NoneType_str, ib_NoneType_tuple, ib_NoneType_list, ib_NoneType_dict, ib_bool_bool, ib_bool_int, ib_bool_str, ib_bool_tuple, ib_bool_list, ib_bool_dict, ib_int_bool, ib_int_int, ib_int_str, ib_int_tuple, ib_int_list, ib_int_dict, ib_str_bool, ib_str_int, ib_str_str, ib_str_tuple, ib_str_list, ib_str_dict, ib_tuple_bool, ib_tuple_int, ib_tuple_str, ib_tuple_tuple, ib_tuple_list, ib_tuple_dict, ib_list_bool, ib_list_int, ib_list_str, ib_list_tuple, ib_list_list, ib_list_dict, ib_dict_bool, ib_dict_int, ib_dict_str, ib_dict_tuple, ib_dict_list, ib_dict_dict, tyD_str, tyD_non, tyD_rol, Bool.or_false, Bool.false_or, Bool.or_true, Bool.true_or, ↓truD_bl, ↓truD_int, List.getElem?_cons_zero, List.getElem?_cons_succ, List.set_cons_zero, List.set_cons_succ, Option.some.injEq, L3.D.bl.injEq, L3.D.int.injEq, L3.D.ref.injEq, L3.D.tup.injEq, L3.D.ty.injEq, L3.D.str.injEq, List.cons.injEq, and_true, true_and, exists_eq_left, exists_eq_left', exists_eq, exists_eq', exists_and_left, exists_and_right, exists_const, and_assoc, exists_eq_right_right, exists_eq_right, ↓ite_both, decide_eq_true_eq, reduceCtorEq, false_and, and_false, exists_false, not_false_eq_true, not_true_eq_false, Bool.false_eq_true, implies_true, forall_const, true_implies, false_implies, Bool.not_eq_true, Bool.not_true, Bool.not_false, decide_true, decide_false, Bool.not_eq_true', Bool.not_eq_false', Bool.not_eq_false, if_true, if_false, Bool.and_true, Bool.true_and, Bool.and_false, Bool.false_and, r3Eq, r3Ne]
  refine ⟨ha, ?_⟩
  cases a with
  | int k =>
    simp -implicitDefEqProofs only [isInt, ↓ex_bl, ↓ex_int, ↓ex_str, ↓ex_ref, ↓ex_tup, ↓ex_some, ↓ex_eq, ↓ex_eq', ↓ex_1, ↓ex_2, ↓ex_3, ↓ex_4, ↓ex_5, ↓ite_tt, ↓ite_ff, ↓v3_0, ↓v3_s, ↓eq_int, ↓ne_int, ↓eq_bl, ↓ne_bl, ↓eq_pair, ↓ne_pair, eqv_bool, eqv_str, ↓pow_lit, ↓ix_t0, ↓ix_t1, ↓ix_tup, ↓ix_it, ↓q_tC3, ↓q_tOp3, ↓q_tUn3, ↓q_tTest3, ↓q_tChain3, ↓q_tTruth3, ↓q_tAnd3, ↓q_tOr3, ↓q_tNot3, ↓q_tAndV3, ↓q_tOrV3, ↓q_tNotV3, ↓q_tIf3, ↓q_tNil3, ↓q_tCons3, ↓q_tTup3, ↓q_tLst3, ↓q_tNoPart3, ↓q_tPart3, ↓q_tSl3, ↓q_tRev3, ↓r3Rev_tup, ↓r3IsNot_bl, ↓r3Is_bl, ↓r3Sl_tup, ↓c3List_tup, ↓c3List_ref, ↓q_tCB3, ↓q_tBM3, ↓q_tBM03, ↓q_tNext3, ↓q_tSeq3, ↓q_tDrop3, ↓q_tRet3, ↓q_tRetN3, ↓q_tIfS3, ↓q_gName3, ↓gnil_eq, ↓gcons_eq, ↓q_gTup3, ↓q_gSub3, ↓q_tAsg3, ↓q_tPar3, ↓q_tYes3, ↓q_tCall3, ↓q_tTryAs3, ↓q_goneE_nx, ↓q_goneE_rt, ↓q_c3IsE, ↓is_bl, ↓c3Str_int, ↓q_tRaise3, ↓q_spA0, ↓q_spA1, ↓q_spA2, ↓q_spA3, ↓q_spA4, ↓q_spA5, ↓q_endF_rt, ↓q_endF_nx, ↓q_endF_xx, r3Lt, r3Le, r3Gt, r3Ge, r3Mod, r3Div, r3Pow, r3Sub, ↓r3I_int, ↓r3I0_int, ↓r3Add_int, ↓r3Add_tup, ↓r3Add_ref, ↓r3Mul_int, ↓r3Mul_ref, datD_non, ↓datD_bl, ↓datD_int, eqv_int, ↓items_tup, ↓items_rol, ↓items_new, ↓len_new, ↓mupd_same, L3.MO.lst.injEq, List.length_cons, List.length_nil, Nat.reduceAdd, Nat.zero_add, sizeLine_eq, Nat.reduceLeDiff, Nat.reducePow, Int.reduceLT, Int.reduceLE, Int.reducePow, Int.reduceToNat, Int.reduceNeg, Int.reduceAdd, Int.cast_ofNat_Int, Int.reduceSub, Int.reduceMul, Nat.reduceMul, Nat.reduceLT, cpow_lit, List.length_append, List.length_map, ↓u3Neg_int, fdiv_pos, ↓q_tDict0, ix_1_0, ix_2_0, ix_2_1, ix_3_0, ix_3_1, ix_3_2, ix_4_0, ix_4_1, ix_4_2, ix_4_3, ix_5_0, ix_5_1, ix_5_2, ix_5_3, ix_5_4, decide_eq_false_iff_not, ↓lc_seq, ↓lc_r1, ↓lc_r2, ↓for_seq, ↓for_r1, ↓for_r2, ↓c3Tuple_it, ↓c3Min2_int, ↓c3Max2_int, ↓m3Pop_ref, ↓lc_zip, ↓for_zip, ↓lc_enum, ↓for_enum, ↓q_tAug3, r3AddI, ↓datD_pair, datD_pair, eqv_pair, ↓m3Index_ref, wipe3, ↓len_tup, ↓len_rol, ↓c3Len_tup, ↓c3Len_rol, ↓c3Len_ref, ↓c3Int_int, ↓c3Int_bl, ↓c3Abs_int, ↓c3All_ref, ↓c3Any_ref, ↓c3Isi_tl, ↓c3Isi_ty, ↓m3Append_ref, ↓s3Lst_ref, ↓r3Is_non, ↓r3IsNot_non, atI_0, atI_1, atI_2, atI_3, atI_4, tyD_tup, tyD_int, tyD_bl, mc_bool, mc_int, mc_str, mc_tuple, mc_list, mc_dict, ib_NoneType_bool, ib_NoneType_int, ib_NoneType_str, ib_NoneType_tuple, ib_NoneType_list, ib_NoneType_dict, ib_bool_bool, ib_bool_int, ib_bool_str, ib_bool_tuple, ib_bool_list, ib_bool_dict, ib_int_bool, ib_int_int, ib_int_str, ib_int_tuple, ib_int_list, ib_int_dict, ib_str_bool, ib_str_int, ib_str_str, ib_str_tuple, ib_str_list, ib_str_dict, ib_tuple_bool, ib_tuple_int, ib_tuple_str, ib_tuple_tuple, ib_tuple_list, ib_tuple_dict, ib_list_bool, ib_list_int, ib_list_str, ib_list_tuple, ib_list_list, ib_list_dict, ib_dict_bool, ib_dict_int, ib_dict_str, ib_dict_tuple, ib_dict_list, ib_dict_dict, tyD_str, tyD_non, tyD_rol, Bool.or_false, Bool.false_or, Bool.or_true, Bool.true_or, ↓truD_bl, ↓truD_int, List.getElem?_cons_zero, List.getElem?_cons_succ, List.set_cons_zero, List.set_cons_succ, Option.some.injEq, L3.D.bl.injEq, L3.D.int.injEq, L3.D.ref.injEq, L3.D.tup.injEq, L3.D.ty.injEq, L3.D.str.injEq, List.cons.injEq, and_true, true_and, exists_eq_left, exists_eq_left', exists_eq, exists_eq', exists_and_left, exists_and_right, exists_const, and_assoc, exists_eq_right_right, exists_eq_right, ↓ite_both, decide_eq_true_eq, reduceCtorEq, false_and, and_false, exists_false, not_false_eq_true, not_true_eq_false, Bool.false_eq_true, implies_true, forall_const, true_implies, false_implies, Bool.not_eq_true, Bool.not_true, Bool.not_false, decide_true, decide_false, Bool.not_eq_true', Bool.not_eq_false', Bool.not_eq_false, if_true, if_false, Bool.and_true, Bool.true_and, Bool.and_false, Bool.false_and, r3Eq, r3Ne]
    simp only [isGr] at q
    refine ⟨fun h => ?_, fun h => ?_⟩
    · rw [decide_eq_true h, Bool.true_or] at q
      exact ret_same q
    · rw [decide_eq_false h, Bool.false_or, ← primes_any] at q
      exact ⟨_, rfl, rfl, by decide, ret_same q⟩
  | _ => exact ⟨fun z => (Bool.noConfusion z), fun _ => ret_same q⟩

def sp_check_ground (K : PySem.W.Frag) : Sp3 := spA1 fun a M Q X => HasTy M a ∧ (isGr a = true → Q .non M) ∧ (isGr a = false → X (.ref (He.ga K "NoGround")) [] M)
abbrev N_check_ground : List Str := ["thing"]
def tr_check_ground (K : PySem.W.Frag) : TS3 := (tIfS3 (tNot3 (tTruth3 (tCall3 (sp_is_ground K) (tCons3 (tVar3 0) tNil3)))) (tRaise3 (He.ga K "NoGround")) tNext3)
theorem rd_check_ground (K : PySem.W.Frag) : ∀ ds M Q E, sp_check_ground K ds M Q E → tr_check_ground K (endF M Q E) (start3 N_check_ground ds) M := by
  rintro ds M Q E ⟨a, rfl, ha, q1, q2⟩
  unfold tr_check_ground
  simp only [start3, List.map_cons, List.map_nil, List.length_cons, List.length_nil, List.cons_append, List.nil_append, List.replicate_succ, List.replicate_zero, Nat.reduceAdd, Nat.reduceSub, Nat.zero_add]
  simp -implicitDefEqProofs only [sp_is_ground, ↓ex_bl, ↓ex_int, ↓ex_str, ↓ex_ref, ↓ex_tup, ↓ex_some, ↓ex_eq, ↓ex_eq', ↓ex_1, ↓ex_2, ↓ex_3, ↓ex_4, ↓ex_5, ↓ite_tt, ↓ite_ff, ↓v3_0, ↓v3_s, ↓eq_int, ↓ne_int, ↓eq_bl, ↓ne_bl, ↓eq_pair, ↓ne_pair, eqv_bool, eqv_str, ↓pow_lit, ↓ix_t0, ↓ix_t1, ↓ix_tup, ↓ix_it, ↓q_tC3, ↓q_tOp3, ↓q_tUn3, ↓q_tTest3, ↓q_tChain3, ↓q_tTruth3, ↓q_tAnd3, ↓q_tOr3, ↓q_tNot3, ↓q_tAndV3, ↓q_tOrV3, ↓q_tNotV3, ↓q_tIf3, ↓q_tNil3, ↓q_tCons3, ↓q_tTup3, ↓q_tLst3, ↓q_tNoPart3, ↓q_tPart3, ↓q_tSl3, ↓q_tRev3, ↓r3Rev_tup, ↓r3IsNot_bl, ↓r3Is_bl, ↓r3Sl_tup, ↓c3List_tup, ↓c3List_ref, ↓q_tCB3, ↓q_tBM3, ↓q_tBM03, ↓q_tNext3, ↓q_tSeq3, ↓q_tDrop3, ↓q_tRet3, ↓q_tRetN3, ↓q_tIfS3, ↓q_gName3, ↓gnil_eq, ↓gcons_eq, ↓q_gTup3, ↓q_gSub3, ↓q_tAsg3, ↓q_tPar3, ↓q_tYes3, ↓q_tCall3, ↓q_tTryAs3, ↓q_goneE_nx, ↓q_goneE_rt, ↓q_c3IsE, ↓is_bl, ↓c3Str_int, ↓q_tRaise3, ↓q_spA0, ↓q_spA1, ↓q_spA2, ↓q_spA3, ↓q_spA4, ↓q_spA5, ↓q_endF_rt, ↓q_endF_nx, ↓q_endF_xx, r3Lt, r3Le, r3Gt, r3Ge, r3Mod, r3Div, r3Pow, r3Sub, ↓r3I_int, ↓r3I0_int, ↓r3Add_int, ↓r3Add_tup, ↓r3Add_ref, ↓r3Mul_int, ↓r3Mul_ref, datD_non, ↓datD_bl, ↓datD_int, eqv_int, ↓items_tup, ↓items_rol, ↓items_new, ↓len_new, ↓mupd_same, L3.MO.lst.injEq, List.length_cons, List.length_nil, Nat.reduceAdd, Nat.zero_add, sizeLine_eq, Nat.reduceLeDiff, Nat.reducePow, Int.reduceLT, Int.reduceLE, Int.reducePow, Int.reduceToNat, Int.reduceNeg, Int.reduceAdd, Int.cast_ofNat_Int, Int.reduceSub, Int.reduceMul, Nat.reduceMul, Nat.reduceLT, cpow_lit, List.length_append, List.length_map, ↓u3Neg_int, fdiv_pos, ↓q_tDict0, ix_1_0, ix_2_0, ix_2_1, ix_3_0, ix_3_1, ix_3_2, ix_4_0, ix_4_1, ix_4_2, ix_4_3, ix_5_0, ix_5_1, ix_5_2, ix_5_3, ix_5_4, decide_eq_false_iff_not, ↓lc_seq, ↓lc_r1, ↓lc_r2, ↓for_seq, ↓for_r1, ↓for_r2, ↓c3Tuple_it, ↓c3Min2_int, ↓c3Max2_int, ↓m3Pop_ref, ↓lc_zip, ↓for_zip, ↓lc_enum, ↓for_enum, ↓q_tAug3, r3AddI, ↓datD_pair, datD_pair, eqv_pair, ↓m3Index_ref, wipe3, ↓len_tup, ↓len_rol, ↓c3Len_tup, ↓c3Len_rol, ↓c3Len_ref, ↓c3Int_int, ↓c3Int_bl, ↓c3Abs_int, ↓c3All_ref, ↓c3Any_ref, ↓c3Isi_tl, ↓c3Isi_ty, ↓m3Append_ref, ↓s3Lst_ref, ↓r3Is_non, ↓r3IsNot_non, atI_0, atI_1, atI_2, atI_3, atI_4, tyD_tup, tyD_int, tyD_bl, mc_bool, mc_int, mc_str, mc_tuple, mc_list, mc_dict, ib_NoneType_bool, ib_NoneType_int, ib_NoneType_str, ib_NoneType_tuple, ib_NoneType_list, ib_NoneType_dict, ib_bool_bool, ib_bool_int, ib_bool_str, ib_bool_tuple, ib_bool_list, ib_bool_dict, ib_int_bool, ib_int_int, ib_int_str, ib_int_tuple, ib_int_list, ib_int_dict, ib_str_bool, ib_str_int, ib_str_str, ib_str_tuple, ib_str_list, ib_str_dict, ib_tuple_bool, ib_tuple_int, ib_tuple_str, ib_tuple_tuple, ib_tuple_list, ib_tuple_dict, ib_list_bool, ib_list_int, ib_list_str, ib_list_tuple, ib_list_list, ib_list_dict, ib_dict_bool, ib_dict_int, ib_dict_str, ib_dict_tuple, ib_dict_list, ib_dict_dict, tyD_str, tyD_non, tyD_rol, Bool.or_false, Bool.false_or, Bool.or_true, Bool.true_or, ↓truD_bl, ↓truD_int, List.getElem?_cons_zero, List.getElem?_cons_succ, List.set_cons_zero, List.set_cons_succ, Option.some.injEq, L3.D.bl.injEq, L3.D.int.injEq, L3.D.ref.injEq, L3.D.tup.injEq, L3.D.ty.injEq, L3.D.str.injEq, List.cons.injEq, and_true, true_and, exists_eq_left, exists_eq_left', exists_eq, exists_eq', exists_and_left, exists_and_right, exists_const, and_assoc, exists_eq_right_right, exists_eq_right, ↓ite_both, decide_eq_true_eq, reduceCtorEq, false_and, and_false, exists_false, not_false_eq_true, not_true_eq_false, Bool.false_eq_true, implies_true, forall_const, true_implies, false_implies, Bool.not_eq_true, Bool.not_true, Bool.not_false, decide_true, decide_false, Bool.not_eq_true', Bool.not_eq_false', Bool.not_eq_false, if_true, if_false, Bool.and_true, Bool.true_and, Bool.and_false, Bool.false_and, r3Eq, r3Ne]
  refine ⟨ha, ?_⟩
  cases h : isGr a with
  | true => exact ⟨fun z => (Bool.noConfusion z), fun _ => ret_same (q1 h)⟩
  | false => exact ⟨fun _ => ret_x .refl (q2 h), fun z => (Bool.noConfusion z)⟩

def sp_is_pair (K : PySem.W.Frag) : Sp3 := spA1 fun a M Q X => HasTy M a ∧ Q (.bl (isPairD a)) M
abbrev N_is_pair : List Str := ["thing"]
def tr_is_pair (K : PySem.W.Frag) : TS3 := (tRet3 (tAndV3 (tCB3 c3Isi (tCons3 (tVar3 0) (tCons3 (tC3 (.ty "tuple")) tNil3))) (tOp3 r3Eq (tCB3 c3Len (tCons3 (tVar3 0) tNil3)) (tC3 (.int 2)))))
theorem rd_is_pair (K : PySem.W.Frag) : ∀ ds M Q E, sp_is_pair K ds M Q E → tr_is_pair K (endF M Q E) (start3 N_is_pair ds) M := by
  rintro ds M Q E ⟨a, rfl, ⟨t, ht⟩, q⟩
  unfold tr_is_pair
  simp only [start3, List.map_cons, List.map_nil, List.length_cons, List.length_nil, List.cons_append, List.nil_append, List.replicate_succ, List.replicate_zero, Nat.reduceAdd, Nat.reduceSub, Nat.zero_add]
  simp -implicitDefEqProofs only [↓ex_bl, ↓ex_int, ↓ex_str, ↓ex_ref, ↓ex_tup, ↓ex_some, ↓ex_eq, ↓ex_eq', ↓ex_1, ↓ex_2, ↓ex_3, ↓ex_4, ↓ex_5, ↓ite_tt, ↓ite_ff, ↓v3_0, ↓v3_s, ↓eq_int, ↓ne_int, ↓eq_bl, ↓ne_bl, ↓eq_pair, ↓ne_pair, eqv_bool, eqv_str, ↓pow_lit, ↓ix_t0, ↓ix_t1, ↓ix_tup, ↓ix_it, ↓q_tC3, ↓q_tOp3, ↓q_tUn3, ↓q_tTest3, ↓q_tChain3, ↓q_tTruth3, ↓q_tAnd3, ↓q_tOr3, ↓q_tNot3, ↓q_tAndV3, ↓q_tOrV3, ↓q_tNotV3, ↓q_tIf3, ↓q_tNil3, ↓q_tCons3, ↓q_tTup3, ↓q_tLst3, ↓q_tNoPart3, ↓q_tPart3, ↓q_tSl3, ↓q_tRev3, ↓r3Rev_tup, ↓r3IsNot_bl, ↓r3Is_bl, ↓r3Sl_tup, ↓c3List_tup, ↓c3List_ref, ↓q_tCB3, ↓q_tBM3, ↓q_tBM03, ↓q_tNext3, ↓q_tSeq3, ↓q_tDrop3, ↓q_tRet3, ↓q_tRetN3, ↓q_tIfS3, ↓q_gName3, ↓gnil_eq, ↓gcons_eq, ↓q_gTup3, ↓q_gSub3, ↓q_tAsg3, ↓q_tPar3, ↓q_tYes3, ↓q_tCall3, ↓q_tTryAs3, ↓q_goneE_nx, ↓q_goneE_rt, ↓q_c3IsE, ↓is_bl, ↓c3Str_int, ↓q_tRaise3, ↓q_spA0, ↓q_spA1, ↓q_spA2, ↓q_spA3, ↓q_spA4, ↓q_spA5, ↓q_endF_rt, ↓q_endF_nx, ↓q_endF_xx, r3Lt, r3Le, r3Gt, r3Ge, r3Mod, r3Div, r3Pow, r3Sub, ↓r3I_int, ↓r3I0_int, ↓r3Add_int, ↓r3Add_tup, ↓r3Add_ref, ↓r3Mul_int, ↓r3Mul_ref, datD_non, ↓datD_bl, ↓datD_int, eqv_int, ↓items_tup, ↓items_rol, ↓items_new, ↓len_new, ↓mupd_same, L3.MO.lst.injEq, List.length_cons, List.length_nil, Nat.reduceAdd, Nat.zero_add, sizeLine_eq, Nat.reduceLeDiff, Nat.reducePow, Int.reduceLT, Int.reduceLE, Int.reducePow, Int.reduceToNat, Int.reduceNeg, Int.reduceAdd, Int.cast_ofNat_Int, Int.reduceSub, Int.reduceMul, Nat.reduceMul, Nat.reduceLT, cpow_lit, List.length_append, List.length_map, ↓u3Neg_int, fdiv_pos, ↓q_tDict0, ix_1_0, ix_2_0, ix_2_1, ix_3_0, ix_3_1, ix_3_2, ix_4_0, ix_4_1, ix_4_2, ix_4_3, ix_5_0, ix_5_1, ix_5_2, ix_5_3, ix_5_4, decide_eq_false_iff_not, ↓lc_seq, ↓lc_r1, ↓lc_r2, ↓for_seq, ↓for_r1, ↓for_r2, ↓c3Tuple_it, ↓c3Min2_int, ↓c3Max2_int, ↓m3Pop_ref, ↓lc_zip, ↓for_zip, ↓lc_enum, ↓for_enum, ↓q_tAug3, r3AddI, ↓datD_pair, datD_pair, eqv_pair, ↓m3Index_ref, wipe3, ↓len_tup, ↓len_rol, ↓c3Len_tup, ↓c3Len_rol, ↓c3Len_ref, ↓c3Int_int, ↓c3Int_bl, ↓c3Abs_int, ↓c3All_ref, ↓c3Any_ref, ↓c3Isi_tl, ↓c3Isi_ty, ↓m3Append_ref, ↓s3Lst_ref, ↓r3Is_non, ↓r3IsNot_non, atI_0, atI_1, atI_2, atI_3, atI_4, tyD_tup, tyD_int, tyD_bl, mc_bool, mc_int, mc_str, mc_tuple, mc_list, mc_dict, ib_NoneType_bool, ib_NoneType_int, ib_NoneType_str, ib_NoneType_tuple, ib_NoneType_list, ib_NoneType_dict, ib_bool_bool, ib_bool_int, ib_bool_str, ib_bool_tuple, ib_bool_list, ib_bool_dict, ib_int_bool, ib_int_int, ib_int_str, ib_int_tuple, ib_int_list, ib_int_dict, ib_str_bool, ib_str_int, ib_str_str, ib_str_tuple, ib_str_list, ib_str_dict, ib_tuple_bool, ib_tuple_int, ib_tuple_str, ib_tuple_tuple, ib_tuple_list, ib_tuple_dict, ib_list_bool, ib_list_int, ib_list_str, ib_list_tuple, ib_list_list, ib_list_dict, ib_dict_bool, ib_dict_int, ib_dict_str, ib_dict_tuple, ib_dict_list, ib_dict_dict, tyD_str, tyD_non, tyD_rol, Bool.or_false, Bool.false_or, Bool.or_true, Bool.true_or, ↓truD_bl, ↓truD_int, List.getElem?_cons_zero, List.getElem?_cons_succ, List.set_cons_zero, List.set_cons_succ, Option.some.injEq, L3.D.bl.injEq, L3.D.int.injEq, L3.D.ref.injEq, L3.D.tup.injEq, L3.D.ty.injEq, L3.D.str.injEq, List.cons.injEq, and_true, true_and, exists_eq_left, exists_eq_left', exists_eq, exists_eq', exists_and_left, exists_and_right, exists_const, and_assoc, exists_eq_right_right, exists_eq_right, ↓ite_both, decide_eq_true_eq, reduceCtorEq, false_and, and_false, exists_false, not_false_eq_true, not_true_eq_false, Bool.false_eq_true, implies_true, forall_const, true_implies, false_implies, Bool.not_eq_true, Bool.not_true, Bool.not_false, decide_true, decide_false, Bool.not_eq_true', Bool.not_eq_false', Bool.not_eq_false, if_true, if_false, Bool.and_true, Bool.true_and, Bool.and_false, Bool.false_and, r3Eq, r3Ne]
  refine ⟨t, ht, ?_⟩
  rw [isi_tup ht]
  cases a with
  | tup ds =>
    simp -implicitDefEqProofs only [isTupD, ↓ex_bl, ↓ex_int, ↓ex_str, ↓ex_ref, ↓ex_tup, ↓ex_some, ↓ex_eq, ↓ex_eq', ↓ex_1, ↓ex_2, ↓ex_3, ↓ex_4, ↓ex_5, ↓ite_tt, ↓ite_ff, ↓v3_0, ↓v3_s, ↓eq_int, ↓ne_int, ↓eq_bl, ↓ne_bl, ↓eq_pair, ↓ne_pair, eqv_bool, eqv_str, ↓pow_lit, ↓ix_t0, ↓ix_t1, ↓ix_tup, ↓ix_it, ↓q_tC3, ↓q_tOp3, ↓q_tUn3, ↓q_tTest3, ↓q_tChain3, ↓q_tTruth3, ↓q_tAnd3, ↓q_tOr3, ↓q_tNot3, ↓q_tAndV3, ↓q_tOrV3, ↓q_tNotV3, ↓q_tIf3, ↓q_tNil3, ↓q_tCons3, ↓q_tTup3, ↓q_tLst3, ↓q_tNoPart3, ↓q_tPart3, ↓q_tSl3, ↓q_tRev3, ↓r3Rev_tup, ↓r3IsNot_bl, ↓r3Is_bl, ↓r3Sl_tup, ↓c3List_tup, ↓c3List_ref, ↓q_tCB3, ↓q_tBM3, ↓q_tBM03, ↓q_tNext3, ↓q_tSeq3, ↓q_tDrop3, ↓q_tRet3, ↓q_tRetN3, ↓q_tIfS3, ↓q_gName3, ↓gnil_eq, ↓gcons_eq, ↓q_gTup3, ↓q_gSub3, ↓q_tAsg3, ↓q_tPar3, ↓q_tYes3, ↓q_tCall3, ↓q_tTryAs3, ↓q_goneE_nx, ↓q_goneE_rt, ↓q_c3IsE, ↓is_bl, ↓c3Str_int, ↓q_tRaise3, ↓q_spA0, ↓q_spA1, ↓q_spA2, ↓q_spA3, ↓q_spA4, ↓q_spA5, ↓q_endF_rt, ↓q_endF_nx, ↓q_endF_xx, r3Lt, r3Le, r3Gt, r3Ge, r3Mod, r3Div, r3Pow, r3Sub, ↓r3I_int, ↓r3I0_int, ↓r3Add_int, ↓r3Add_tup, ↓r3Add_ref, ↓r3Mul_int, ↓r3Mul_ref, datD_non, ↓datD_bl, ↓datD_int, eqv_int, ↓items_tup, ↓items_rol, ↓items_new, ↓len_new, ↓mupd_same, L3.MO.lst.injEq, List.length_cons, List.length_nil, Nat.reduceAdd, Nat.zero_add, sizeLine_eq, Nat.reduceLeDiff, Nat.reducePow, Int.reduceLT, Int.reduceLE, Int.reducePow, Int.reduceToNat, Int.reduceNeg, Int.reduceAdd, Int.cast_ofNat_Int, Int.reduceSub, Int.reduceMul, Nat.reduceMul, Nat.reduceLT, cpow_lit, List.length_append, List.length_map, ↓u3Neg_int, fdiv_pos, ↓q_tDict0, ix_1_0, ix_2_0, ix_2_1, ix_3_0, ix_3_1, ix_3_2, ix_4_0, ix_4_1, ix_4_2, ix_4_3, ix_5_0, ix_5_1, ix_5_2, ix_5_3, ix_5_4, decide_eq_false_iff_not, ↓lc_seq, ↓lc_r1, ↓lc_r2, ↓for_seq, ↓for_r1, ↓for_r2, ↓c3Tuple_it, ↓c3Min2_int, ↓c3Max2_int, ↓m3Pop_ref, ↓lc_zip, ↓for_zip, ↓lc_enum, ↓for_enum, ↓q_tAug3, r3AddI, ↓datD_pair, datD_pair, eqv_pair, ↓m3Index_ref, wipe3, ↓len_tup, ↓len_rol, ↓c3Len_tup, ↓c3Len_rol, ↓c3Len_ref, ↓c3Int_int, ↓c3Int_bl, ↓c3Abs_int, ↓c3All_ref, ↓c3Any_ref, ↓c3Isi_tl, ↓c3Isi_ty, ↓m3Append_ref, ↓s3Lst_ref, ↓r3Is_non, ↓r3IsNot_non, atI_0, atI_1, atI_2, atI_3, atI_4, tyD_tup, tyD_int, tyD_bl, mc_bool, mc_int, mc_str, mc_tuple, mc_list, mc_dict, ib_NoneType_bool, ib_NoneType_int, ib_NoneType_str, ib_NoneType_tuple, ib_NoneType_list, ib_NoneType_dict, ib_bool_bool, ib_bool_int, ib_bool_str, ib_bool_tuple, ib_bool_list, ib_bool_dict, ib_int_bool, ib_int_int, ib_int_str, ib_int_tuple, ib_int_list, ib_int_dict, ib_str_bool, ib_str_int, ib_str_str, ib_str_tuple, ib_str_list, ib_str_dict, ib_tuple_bool, ib_tuple_int, ib_tuple_str, ib_tuple_tuple, ib_tuple_list, ib_tuple_dict, ib_list_bool, ib_list_int, ib_list_str, ib_list_tuple, ib_list_list, ib_list_dict, ib_dict_bool, ib_dict_int, ib_dict_str, ib_dict_tuple, ib_dict_list, ib_dict_dict, tyD_str, tyD_non, tyD_rol, Bool.or_false, Bool.false_or, Bool.or_true, Bool.true_or, ↓truD_bl, ↓truD_int, List.getElem?_cons_zero, List.getElem?_cons_succ, List.set_cons_zero, List.set_cons_succ, Option.some.injEq, L3.D.bl.injEq, L3.D.int.injEq, L3.D.ref.injEq, L3.D.tup.injEq, L3.D.ty.injEq, L3.D.str.injEq, List.cons.injEq, and_true, true_and, exists_eq_left, exists_eq_left', exists_eq, exists_eq', exists_and_left, exists_and_right, exists_const, and_assoc, exists_eq_right_right, exists_eq_right, ↓ite_both, decide_eq_true_eq, reduceCtorEq, false_and, and_false, exists_false, not_false_eq_true, not_true_eq_false, Bool.false_eq_true, implies_true, forall_const, true_implies, false_implies, Bool.not_eq_true, Bool.not_true, Bool.not_false, decide_true, decide_false, Bool.not_eq_true', Bool.not_eq_false', Bool.not_eq_false, if_true, if_false, Bool.and_true, Bool.true_and, Bool.and_false, Bool.false_and, r3Eq, r3Ne]
    have e : decide (((ds.length : Nat) : Int) = 2) = isPairD (.tup ds) := decide_eq_decide.mpr (by omega)
    rw [← e] at q
    exact ret_same q
  | _ => exact ⟨fun z => (Bool.noConfusion z), fun _ => ret_same q⟩

def sp_is_within (K : PySem.W.Frag) : Sp3 := spA3 fun a b c M Q X => ∃ i j, HasTy M a ∧ b = .int i ∧ c = .int j ∧ Q (.bl (withinB a i j)) M
abbrev N_is_within : List Str := ["thing", "least", "most"]
def tr_is_within (K : PySem.W.Frag) : TS3 := (tRet3 (tAndV3 (tCall3 (sp_is_integer K) (tCons3 (tVar3 0) tNil3)) (tChain3 r3Le r3Le (tVar3 1) (tVar3 0) (tVar3 2))))
theorem rd_is_within (K : PySem.W.Frag) : ∀ ds M Q E, sp_is_within K ds M Q E → tr_is_within K (endF M Q E) (start3 N_is_within ds) M := by
  rintro ds M Q E ⟨a, b, c, rfl, i, j, ha, rfl, rfl, q⟩
  unfold tr_is_within
  simp only [start3, List.map_cons, List.map_nil, List.length_cons, List.length_nil, List.cons_append, List.nil_append, List.replicate_succ, List.replicate_zero, Nat.reduceAdd, Nat.reduceSub, Nat.zero_add]
  simp -implicitDefEqProofs only [sp_is_integer, ↓ex_bl, ↓ex_int, ↓ex_str, ↓ex_ref, ↓ex_tup, ↓ex_some, ↓ex_eq, ↓ex_eq', ↓ex_1, ↓ex_2, ↓ex_3, ↓ex_4, ↓ex_5, ↓ite_tt, ↓ite_ff, ↓v3_0, ↓v3_s, ↓eq_int, ↓ne_int, ↓eq_bl, ↓ne_bl, ↓eq_pair, ↓ne_pair, eqv_bool, eqv_str, ↓pow_lit, ↓ix_t0, ↓ix_t1, ↓ix_tup, ↓ix_it, ↓q_tC3, ↓q_tOp3, ↓q_tUn3, ↓q_tTest3, ↓q_tChain3, ↓q_tTruth3, ↓q_tAnd3, ↓q_tOr3, ↓q_tNot3, ↓q_tAndV3, ↓q_tOrV3, ↓q_tNotV3, ↓q_tIf3, ↓q_tNil3, ↓q_tCons3, ↓q_tTup3, ↓q_tLst3, ↓q_tNoPart3, ↓q_tPart3, ↓q_tSl3, ↓q_tRev3, ↓r3Rev_tup, ↓r3IsNot_bl, ↓r3Is_bl, ↓r3Sl_tup, ↓c3List_tup, ↓c3List_ref, ↓q_tCB3, ↓q_tBM3, ↓q_tBM03, ↓q_tNext3, ↓q_tSeq3, ↓q_tDrop3, ↓q_tRet3, ↓q_tRetN3, ↓q_tIfS3, ↓q_gName3, ↓gnil_eq, ↓gcons_eq, ↓q_gTup3, ↓q_gSub3, ↓q_tAsg3, ↓q_tPar3, ↓q_tYes3, ↓q_tCall3, ↓q_tTryAs3, ↓q_goneE_nx, ↓q_goneE_rt, ↓q_c3IsE, ↓is_bl, ↓c3Str_int, ↓q_tRaise3, ↓q_spA0, ↓q_spA1, ↓q_spA2, ↓q_spA3, ↓q_spA4, ↓q_spA5, ↓q_endF_rt, ↓q_endF_nx, ↓q_endF_xx, r3Lt, r3Le, r3Gt, r3Ge, r3Mod, r3Div, r3Pow, r3Sub, ↓r3I_int, ↓r3I0_int, ↓r3Add_int, ↓r3Add_tup, ↓r3Add_ref, ↓r3Mul_int, ↓r3Mul_ref, datD_non, ↓datD_bl, ↓datD_int, eqv_int, ↓items_tup, ↓items_rol, ↓items_new, ↓len_new, ↓mupd_same, L3.MO.lst.injEq, List.length_cons, List.length_nil, Nat.reduceAdd, Nat.zero_add, sizeLine_eq, Nat.reduceLeDiff, Nat.reducePow, Int.reduceLT, Int.reduceLE, Int.reducePow, Int.reduceToNat, Int.reduceNeg, Int.reduceAdd, Int.cast_ofNat_Int, Int.reduceSub, Int.reduceMul, Nat.reduceMul, Nat.reduceLT, cpow_lit, List.length_append, List.length_map, ↓u3Neg_int, fdiv_pos, ↓q_tDict0, ix_1_0, ix_2_0, ix_2_1, ix_3_0, ix_3_1, ix_3_2, ix_4_0, ix_4_1, ix_4_2, ix_4_3, ix_5_0, ix_5_1, ix_5_2, ix_5_3, ix_5_4, decide_eq_false_iff_not, ↓lc_seq, ↓lc_r1, ↓lc_r2, ↓for_seq, ↓for_r1, ↓for_r2, ↓c3Tuple_it, ↓c3Min2_int, ↓c3Max2_int, ↓m3Pop_ref, ↓lc_zip, ↓for_zip, ↓lc_enum, ↓for_enum, ↓q_tAug3, r3AddI, ↓datD_pair, datD_pair, eqv_pair, ↓m3Index_ref, wipe3, ↓len_tup, ↓len_rol, ↓c3Len_tup, ↓c3Len_rol, ↓c3Len_ref, ↓c3Int_int, ↓c3Int_bl, ↓c3Abs_int, ↓c3All_ref, ↓c3Any_ref, ↓c3Isi_tl, ↓c3Isi_ty, ↓m3Append_ref, ↓s3Lst_ref, ↓r3Is_non, ↓r3IsNot_non, atI_0, atI_1, atI_2, atI_3, atI_4, tyD_tup, tyD_int, tyD_bl, mc_bool, mc_int, mc_str, mc_tuple, mc_list, mc_dict, ib_NoneType_bool, ib_NoneType_int, ib_NoneType_str, ib_NoneType_tuple, ib_NoneType_list, ib_NoneType_dict, ib_bool_bool, ib_bool_int, ib_bool_str, ib_bool_tuple, ib_bool_list, ib_bool_dict, ib_int_bool, ib_int_int, ib_int_str, ib_int_tuple, ib_int_list, ib_int_dict, ib_str_bool, ib_str_int, ib_str_str, ib_str_tuple, ib_str_list, ib_str_dict, ib_tuple_bool, ib_tuple_int, ib_tuple_str, ib_tuple_tuple, ib_tuple_list, ib_tuple_dict, ib_list_bool, ib_list_int, ib_list_str, ib_list_tuple, ib_list_list, ib_list_dict, ib_dict_bool, ib_dict_int, ib_dict_str, ib_dict_tuple, ib_dict_list, ib_dict_dict, tyD_str, tyD_non, tyD_rol, Bool.or_false, Bool.false_or, Bool.or_true, Bool.true_or, ↓truD_bl, ↓truD_int, List.getElem?_cons_zero, List.getElem?_cons_succ, List.set_cons_zero, List.set_cons_succ, Option.some.injEq, L3.D.bl.injEq, L3.D.int.injEq, L3.D.ref.injEq, L3.D.tup.injEq, L3.D.ty.injEq, L3.D.str.injEq, List.cons.injEq, and_true, true_and, exists_eq_left, exists_eq_left', exists_eq, exists_eq', exists_and_left, exists_and_right, exists_const, and_assoc, exists_eq_right_right, exists_eq_right, ↓ite_both, decide_eq_true_eq, reduceCtorEq, false_and, and_false, exists_false, not_false_eq_true, not_true_eq_false, Bool.false_eq_true, implies_true, forall_const, true_implies, false_implies, Bool.not_eq_true, Bool.not_true, Bool.not_false, decide_true, decide_false, Bool.not_eq_true', Bool.not_eq_false', Bool.not_eq_false, if_true, if_false, Bool.and_true, Bool.true_and, Bool.and_false, Bool.false_and, r3Eq, r3Ne]
  refine ⟨ha, ?_⟩
  cases a with
  | int k =>
    simp -implicitDefEqProofs only [isInt, ↓ex_bl, ↓ex_int, ↓ex_str, ↓ex_ref, ↓ex_tup, ↓ex_some, ↓ex_eq, ↓ex_eq', ↓ex_1, ↓ex_2, ↓ex_3, ↓ex_4, ↓ex_5, ↓ite_tt, ↓ite_ff, ↓v3_0, ↓v3_s, ↓eq_int, ↓ne_int, ↓eq_bl, ↓ne_bl, ↓eq_pair, ↓ne_pair, eqv_bool, eqv_str, ↓pow_lit, ↓ix_t0, ↓ix_t1, ↓ix_tup, ↓ix_it, ↓q_tC3, ↓q_tOp3, ↓q_tUn3, ↓q_tTest3, ↓q_tChain3, ↓q_tTruth3, ↓q_tAnd3, ↓q_tOr3, ↓q_tNot3, ↓q_tAndV3, ↓q_tOrV3, ↓q_tNotV3, ↓q_tIf3, ↓q_tNil3, ↓q_tCons3, ↓q_tTup3, ↓q_tLst3, ↓q_tNoPart3, ↓q_tPart3, ↓q_tSl3, ↓q_tRev3, ↓r3Rev_tup, ↓r3IsNot_bl, ↓r3Is_bl, ↓r3Sl_tup, ↓c3List_tup, ↓c3List_ref, ↓q_tCB3, ↓q_tBM3, ↓q_tBM03, ↓q_tNext3, ↓q_tSeq3, ↓q_tDrop3, ↓q_tRet3, ↓q_tRetN3, ↓q_tIfS3, ↓q_gName3, ↓gnil_eq, ↓gcons_eq, ↓q_gTup3, ↓q_gSub3, ↓q_tAsg3, ↓q_tPar3, ↓q_tYes3, ↓q_tCall3, ↓q_tTryAs3, ↓q_goneE_nx, ↓q_goneE_rt, ↓q_c3IsE, ↓is_bl, ↓c3Str_int, ↓q_tRaise3, ↓q_spA0, ↓q_spA1, ↓q_spA2, ↓q_spA3, ↓q_spA4, ↓q_spA5, ↓q_endF_rt, ↓q_endF_nx, ↓q_endF_xx, r3Lt, r3Le, r3Gt, r3Ge, r3Mod, r3Div, r3Pow, r3Sub, ↓r3I_int, ↓r3I0_int, ↓r3Add_int, ↓r3Add_tup, ↓r3Add_ref, ↓r3Mul_int, ↓r3Mul_ref, datD_non, ↓datD_bl, ↓datD_int, eqv_int, ↓items_tup, ↓items_rol, ↓items_new, ↓len_new, ↓mupd_same, L3.MO.lst.injEq, List.length_cons, List.length_nil, Nat.reduceAdd, Nat.zero_add, sizeLine_eq, Nat.reduceLeDiff, Nat.reducePow, Int.reduceLT, Int.reduceLE, Int.reducePow, Int.reduceToNat, Int.reduceNeg, Int.reduceAdd, Int.cast_ofNat_Int, Int.reduceSub, Int.reduceMul, Nat.reduceMul, Nat.reduceLT, cpow_lit, List.length_append, List.length_map, ↓u3Neg_int, fdiv_pos, ↓q_tDict0, ix_1_0, ix_2_0, ix_2_1, ix_3_0, ix_3_1, ix_3_2, ix_4_0, ix_4_1, ix_4_2, ix_4_3, ix_5_0, ix_5_1, ix_5_2, ix_5_3, ix_5_4, decide_eq_false_iff_not, ↓lc_seq, ↓lc_r1, ↓lc_r2, ↓for_seq, ↓for_r1, ↓for_r2, ↓c3Tuple_it, ↓c3Min2_int, ↓c3Max2_int, ↓m3Pop_ref, ↓lc_zip, ↓for_zip, ↓lc_enum, ↓for_enum, ↓q_tAug3, r3AddI, ↓datD_pair, datD_pair, eqv_pair, ↓m3Index_ref, wipe3, ↓len_tup, ↓len_rol, ↓c3Len_tup, ↓c3Len_rol, ↓c3Len_ref, ↓c3Int_int, ↓c3Int_bl, ↓c3Abs_int, ↓c3All_ref, ↓c3Any_ref, ↓c3Isi_tl, ↓c3Isi_ty, ↓m3Append_ref, ↓s3Lst_ref, ↓r3Is_non, ↓r3IsNot_non, atI_0, atI_1, atI_2, atI_3, atI_4, tyD_tup, tyD_int, tyD_bl, mc_bool, mc_int, mc_str, mc_tuple, mc_list, mc_dict, ib_NoneType_bool, ib_NoneType_int, ib_NoneType_str, ib_NoneType_tuple, ib_NoneType_list, ib_NoneType_dict, ib_bool_bool, ib_bool_int, ib_bool_str, ib_bool_tuple, ib_bool_list, ib_bool_dict, ib_int_bool, ib_int_int, ib_int_str, ib_int_tuple, ib_int_list, ib_int_dict, ib_str_bool, ib_str_int, ib_str_str, ib_str_tuple, ib_str_list, ib_str_dict, ib_tuple_bool, ib_tuple_int, ib_tuple_str, ib_tuple_tuple, ib_tuple_list, ib_tuple_dict, ib_list_bool, ib_list_int, ib_list_str, ib_list_tuple, ib_list_list, ib_list_dict, ib_dict_bool, ib_dict_int, ib_dict_str, ib_dict_tuple, ib_dict_list, ib_dict_dict, tyD_str, tyD_non, tyD_rol, Bool.or_false, Bool.false_or, Bool.or_true, Bool.true_or, ↓truD_bl, ↓truD_int, List.getElem?_cons_zero, List.getElem?_cons_succ, List.set_cons_zero, List.set_cons_succ, Option.some.injEq, L3.D.bl.injEq, L3.D.int.injEq, L3.D.ref.injEq, L3.D.tup.injEq, L3.D.ty.injEq, L3.D.str.injEq, List.cons.injEq, and_true, true_and, exists_eq_left, exists_eq_left', exists_eq, exists_eq', exists_and_left, exists_and_right, exists_const, and_assoc, exists_eq_right_right, exists_eq_right, ↓ite_both, decide_eq_true_eq, reduceCtorEq, false_and, and_false, exists_false, not_false_eq_true, not_true_eq_false, Bool.false_eq_true, implies_true, forall_const, true_implies, false_implies, Bool.not_eq_true, Bool.not_true, Bool.not_false, decide_true, decide_false, Bool.not_eq_true', Bool.not_eq_false', Bool.not_eq_false, if_true, if_false, Bool.and_true, Bool.true_and, Bool.and_false, Bool.false_and, r3Eq, r3Ne]
    refine ⟨fun h => ?_, fun h => ?_⟩
    · have e : withinB (.int k) i j = decide (k ≤ j) := by simp [withinB, h]
      rw [e] at q
      exact ret_same q
    · have e : withinB (.int k) i j = false := by simp [withinB, h]
      rw [e] at q
      exact ret_same q
  | _ => exact ⟨fun z => (Bool.noConfusion z), fun _ => ret_same q⟩

def sp_divisor (K : PySem.W.Frag) : Sp3 := spA2 fun a b M Q X => ∃ i j : Nat, a = .int (i : Int) ∧ b = .int (j : Int) ∧ Q (.int ((Nat.gcd i j : Nat) : Int)) M
abbrev N_divisor : List Str := ["one", "other"]
def tr_divisor (K : PySem.W.Frag) : TS3 := (tSeq3 (tWhile3 (tTest3 (tOp3 r3Gt (tVar3 1) (tC3 (.int 0)))) (tPar3 0 1 (tCons3 (tVar3 1) (tCons3 (tOp3 r3Mod (tVar3 0) (tVar3 1)) tNil3)))) (tRet3 (tVar3 0)))
theorem rd_divisor (K : PySem.W.Frag) : ∀ ds M Q E, sp_divisor K ds M Q E → tr_divisor K (endF M Q E) (start3 N_divisor ds) M := by
  rintro ds M Q E ⟨a, b, rfl, i, j, rfl, rfl, q⟩
  unfold tr_divisor
  simp only [start3, List.map_cons, List.map_nil, List.length_cons, List.length_nil, List.cons_append, List.nil_append, List.replicate_succ, List.replicate_zero, Nat.reduceAdd, Nat.reduceSub, Nat.zero_add]
  refine while_p (fun σ => ∃ i' j' : Nat, σ = [some (.int (i' : Int)), some (.int (j' : Int))] ∧ Nat.gcd i' j' = Nat.gcd i j) (fun σ => match σ with
    | [_, some (.int j)] => j.toNat
    | _ => 0) ⟨i, j, rfl, rfl⟩ ?_
  rintro σ' N ⟨i', j', rfl, e⟩ n
  simp -implicitDefEqProofs only [↓ex_bl, ↓ex_int, ↓ex_str, ↓ex_ref, ↓ex_tup, ↓ex_some, ↓ex_eq, ↓ex_eq', ↓ex_1, ↓ex_2, ↓ex_3, ↓ex_4, ↓ex_5, ↓ite_tt, ↓ite_ff, ↓v3_0, ↓v3_s, ↓eq_int, ↓ne_int, ↓eq_bl, ↓ne_bl, ↓eq_pair, ↓ne_pair, eqv_bool, eqv_str, ↓pow_lit, ↓ix_t0, ↓ix_t1, ↓ix_tup, ↓ix_it, ↓q_tC3, ↓q_tOp3, ↓q_tUn3, ↓q_tTest3, ↓q_tChain3, ↓q_tTruth3, ↓q_tAnd3, ↓q_tOr3, ↓q_tNot3, ↓q_tAndV3, ↓q_tOrV3, ↓q_tNotV3, ↓q_tIf3, ↓q_tNil3, ↓q_tCons3, ↓q_tTup3, ↓q_tLst3, ↓q_tNoPart3, ↓q_tPart3, ↓q_tSl3, ↓q_tRev3, ↓r3Rev_tup, ↓r3IsNot_bl, ↓r3Is_bl, ↓r3Sl_tup, ↓c3List_tup, ↓c3List_ref, ↓q_tCB3, ↓q_tBM3, ↓q_tBM03, ↓q_tNext3, ↓q_tSeq3, ↓q_tDrop3, ↓q_tRet3, ↓q_tRetN3, ↓q_tIfS3, ↓q_gName3, ↓gnil_eq, ↓gcons_eq, ↓q_gTup3, ↓q_gSub3, ↓q_tAsg3, ↓q_tPar3, ↓q_tYes3, ↓q_tCall3, ↓q_tTryAs3, ↓q_goneE_nx, ↓q_goneE_rt, ↓q_c3IsE, ↓is_bl, ↓c3Str_int, ↓q_tRaise3, ↓q_spA0, ↓q_spA1, ↓q_spA2, ↓q_spA3, ↓q_spA4, ↓q_spA5, ↓q_endF_rt, ↓q_endF_nx, ↓q_endF_xx, r3Lt, r3Le, r3Gt, r3Ge, r3Mod, r3Div, r3Pow, r3Sub, ↓r3I_int, ↓r3I0_int, ↓r3Add_int, ↓r3Add_tup, ↓r3Add_ref, ↓r3Mul_int, ↓r3Mul_ref, datD_non, ↓datD_bl, ↓datD_int, eqv_int, ↓items_tup, ↓items_rol, ↓items_new, ↓len_new, ↓mupd_same, L3.MO.lst.injEq, List.length_cons, List.length_nil, Nat.reduceAdd, Nat.zero_add, sizeLine_eq, Nat.reduceLeDiff, Nat.reducePow, Int.reduceLT, Int.reduceLE, Int.reducePow, Int.reduceToNat, Int.reduceNeg, Int.reduceAdd, Int.cast_ofNat_Int, Int.reduceSub, Int.reduceMul, Nat.reduceMul, Nat.reduceLT, cpow_lit, List.length_append, List.length_map, ↓u3Neg_int, fdiv_pos, ↓q_tDict0, ix_1_0, ix_2_0, ix_2_1, ix_3_0, ix_3_1, ix_3_2, ix_4_0, ix_4_1, ix_4_2, ix_4_3, ix_5_0, ix_5_1, ix_5_2, ix_5_3, ix_5_4, decide_eq_false_iff_not, ↓lc_seq, ↓lc_r1, ↓lc_r2, ↓for_seq, ↓for_r1, ↓for_r2, ↓c3Tuple_it, ↓c3Min2_int, ↓c3Max2_int, ↓m3Pop_ref, ↓lc_zip, ↓for_zip, ↓lc_enum, ↓for_enum, ↓q_tAug3, r3AddI, ↓datD_pair, datD_pair, eqv_pair, ↓m3Index_ref, wipe3, ↓len_tup, ↓len_rol, ↓c3Len_tup, ↓c3Len_rol, ↓c3Len_ref, ↓c3Int_int, ↓c3Int_bl, ↓c3Abs_int, ↓c3All_ref, ↓c3Any_ref, ↓c3Isi_tl, ↓c3Isi_ty, ↓m3Append_ref, ↓s3Lst_ref, ↓r3Is_non, ↓r3IsNot_non, atI_0, atI_1, atI_2, atI_3, atI_4, tyD_tup, tyD_int, tyD_bl, mc_bool, mc_int, mc_str, mc_tuple, mc_list, mc_dict, ib_NoneType_bool, ib_NoneType_int, ib_NoneType_str, ib_NoneType_tuple, ib_NoneType_list, ib_NoneType_dict, ib_bool_bool, ib_bool_int, ib_bool_str, ib_bool_tuple, ib_bool_list, ib_bool_dict, ib_int_bool, ib_int_int, ib_int_str, ib_int_tuple, ib_int_list, ib_int_dict, ib_str_bool, ib_str_int, ib_str_str, ib_str_tuple, ib_str_list, ib_str_dict, ib_tuple_bool, ib_tuple_int, ib_tuple_str, ib_tuple_tuple, ib_tuple_list, ib_tuple_dict, ib_list_bool, ib_list_int, ib_list_str, ib_list_tuple, ib_list_list, ib_list_dict, ib_dict_bool, ib_dict_int, ib_dict_str, ib_dict_tuple, ib_dict_list, ib_dict_dict, tyD_str, tyD_non, tyD_rol, Bool.or_false, Bool.false_or, Bool.or_true, Bool.true_or, ↓truD_bl, ↓truD_int, List.getElem?_cons_zero, List.getElem?_cons_succ, List.set_cons_zero, List.set_cons_succ, Option.some.injEq, L3.D.bl.injEq, L3.D.int.injEq, L3.D.ref.injEq, L3.D.tup.injEq, L3.D.ty.injEq, L3.D.str.injEq, List.cons.injEq, and_true, true_and, exists_eq_left, exists_eq_left', exists_eq, exists_eq', exists_and_left, exists_and_right, exists_const, and_assoc, exists_eq_right_right, exists_eq_right, ↓ite_both, decide_eq_true_eq, reduceCtorEq, false_and, and_false, exists_false, not_false_eq_true, not_true_eq_false, Bool.false_eq_true, implies_true, forall_const, true_implies, false_implies, Bool.not_eq_true, Bool.not_true, Bool.not_false, decide_true, decide_false, Bool.not_eq_true', Bool.not_eq_false', Bool.not_eq_false, if_true, if_false, Bool.and_true, Bool.true_and, Bool.and_false, Bool.false_and, r3Eq, r3Ne]
  refine ⟨fun h => ⟨h, n _ _ .refl ⟨j', i' % j', rfl, ?_⟩ ?_⟩, fun h => ret_same ?_⟩
  · rw [← e, Nat.gcd_comm i' j', Nat.gcd_rec j' i', Nat.gcd_comm]
  · show ((((i' : Int) % (j' : Int))).toNat) < ((j' : Int)).toNat
    have h1 := Int.emod_lt_of_pos (i' : Int) h
    have h2 := Int.emod_nonneg (i' : Int) (show (j' : Int) ≠ 0 by omega)
    omega
  · have z : j' = 0 := by omega
    subst z
    rw [Nat.gcd_zero_right] at e
    rw [e]
    exact q

def sp_is_num (K : PySem.W.Frag) : Sp3 := spA2 fun g a M Q X => ∃ p : Int, g = .int p ∧ Ty1 M a ∧ Q (.bl (isNumB p a)) M
abbrev N_is_num : List Str := ["ground", "thing"]
def tr_is_num (K : PySem.W.Frag) : TS3 := (tSeq3 (tIfS3 (tOr3 (tNot3 (tTruth3 (tCall3 (sp_is_pair K) (tCons3 (tVar3 1) tNil3)))) (tOr3 (tNot3 (tTruth3 (tCall3 (sp_is_integer K) (tCons3 (tOp3 r3Ix (tVar3 1) (tC3 (.int 0))) tNil3)))) (tNot3 (tTruth3 (tCall3 (sp_is_integer K) (tCons3 (tOp3 r3Ix (tVar3 1) (tC3 (.int 1))) tNil3)))))) (tRet3 (tC3 (.bl false))) tNext3) (tSeq3 (tIfS3 (tTest3 (tOp3 r3Gt (tVar3 0) (tC3 (.int 0)))) (tRet3 (tAndV3 (tCall3 (sp_is_within K) (tCons3 (tOp3 r3Ix (tVar3 1) (tC3 (.int 0))) (tCons3 (tC3 (.int 0)) (tCons3 (tOp3 r3Sub (tVar3 0) (tC3 (.int 1))) tNil3)))) (tOp3 r3Eq (tOp3 r3Ix (tVar3 1) (tC3 (.int 1))) (tC3 (.int 1))))) tNext3) (tRet3 (tAndV3 (tOp3 r3Gt (tOp3 r3Ix (tVar3 1) (tC3 (.int 1))) (tC3 (.int 0))) (tOp3 r3Eq (tCall3 (sp_divisor K) (tCons3 (tCB3 c3Abs (tCons3 (tOp3 r3Ix (tVar3 1) (tC3 (.int 0))) tNil3)) (tCons3 (tOp3 r3Ix (tVar3 1) (tC3 (.int 1))) tNil3))) (tC3 (.int 1)))))))
theorem rd_is_num (K : PySem.W.Frag) : ∀ ds M Q E, sp_is_num K ds M Q E → tr_is_num K (endF M Q E) (start3 N_is_num ds) M := by
  rintro ds M Q E ⟨g, a, rfl, p, rfl, ⟨ha, hb⟩, q⟩
  unfold tr_is_num
  simp only [start3, List.map_cons, List.map_nil, List.length_cons, List.length_nil, List.cons_append, List.nil_append, List.replicate_succ, List.replicate_zero, Nat.reduceAdd, Nat.reduceSub, Nat.zero_add]
  simp -implicitDefEqProofs only [sp_is_integer, sp_is_pair, sp_is_within, sp_divisor, ↓ex_bl, ↓ex_int, ↓ex_str, ↓ex_ref, ↓ex_tup, ↓ex_some, ↓ex_eq, ↓ex_eq', ↓ex_1, ↓ex_2, ↓ex_3, ↓ex_4, ↓ex_5, ↓ite_tt, ↓ite_ff, ↓v3_0, ↓v3_s, ↓eq_int, ↓ne_int, ↓eq_bl, ↓ne_bl, ↓eq_pair, ↓ne_pair, eqv_bool, eqv_str, ↓pow_lit, ↓ix_t0, ↓ix_t1, ↓ix_tup, ↓ix_it, ↓q_tC3, ↓q_tOp3, ↓q_tUn3, ↓q_tTest3, ↓q_tChain3, ↓q_tTruth3, ↓q_tAnd3, ↓q_tOr3, ↓q_tNot3, ↓q_tAndV3, ↓q_tOrV3, ↓q_tNotV3, ↓q_tIf3, ↓q_tNil3, ↓q_tCons3, ↓q_tTup3, ↓q_tLst3, ↓q_tNoPart3, ↓q_tPart3, ↓q_tSl3, ↓q_tRev3, ↓r3Rev_tup, ↓r3IsNot_bl, ↓r3Is_bl, ↓r3Sl_tup, ↓c3List_tup, ↓c3List_ref, ↓q_tCB3, ↓q_tBM3, ↓q_tBM03, ↓q_tNext3, ↓q_tSeq3, ↓q_tDrop3, ↓q_tRet3, ↓q_tRetN3, ↓q_tIfS3, ↓q_gName3, ↓gnil_eq, ↓gcons_eq, ↓q_gTup3, ↓q_gSub3, ↓q_tAsg3, ↓q_tPar3, ↓q_tYes3, ↓q_tCall3, ↓q_tTryAs3, ↓q_goneE_nx, ↓q_goneE_rt, ↓q_c3IsE, ↓is_bl, ↓c3Str_int, ↓q_tRaise3, ↓q_spA0, ↓q_spA1, ↓q_spA2, ↓q_spA3, ↓q_spA4, ↓q_spA5, ↓q_endF_rt, ↓q_endF_nx, ↓q_endF_xx, r3Lt, r3Le, r3Gt, r3Ge, r3Mod, r3Div, r3Pow, r3Sub, ↓r3I_int, ↓r3I0_int, ↓r3Add_int, ↓r3Add_tup, ↓r3Add_ref, ↓r3Mul_int, ↓r3Mul_ref, datD_non, ↓datD_bl, ↓datD_int, eqv_int, ↓items_tup, ↓items_rol, ↓items_new, ↓len_new, ↓mupd_same, L3.MO.lst.injEq, List.length_cons, List.length_nil, Nat.reduceAdd, Nat.zero_add, sizeLine_eq, Nat.reduceLeDiff, Nat.reducePow, Int.reduceLT, Int.reduceLE, Int.reducePow, Int.reduceToNat, Int.reduceNeg, Int.reduceAdd, Int.cast_ofNat_Int, Int.reduceSub, Int.reduceMul, Nat.reduceMul, Nat.reduceLT, cpow_lit, List.length_append, List.length_map, ↓u3Neg_int, fdiv_pos, ↓q_tDict0, ix_1_0, ix_2_0, ix_2_1, ix_3_0, ix_3_1, ix_3_2, ix_4_0, ix_4_1, ix_4_2, ix_4_3, ix_5_0, ix_5_1, ix_5_2, ix_5_3, ix_5_4, decide_eq_false_iff_not, ↓lc_seq, ↓lc_r1, ↓lc_r2, ↓for_seq, ↓for_r1, ↓for_r2, ↓c3Tuple_it, ↓c3Min2_int, ↓c3Max2_int, ↓m3Pop_ref, ↓lc_zip, ↓for_zip, ↓lc_enum, ↓for_enum, ↓q_tAug3, r3AddI, ↓datD_pair, datD_pair, eqv_pair, ↓m3Index_ref, wipe3, ↓len_tup, ↓len_rol, ↓c3Len_tup, ↓c3Len_rol, ↓c3Len_ref, ↓c3Int_int, ↓c3Int_bl, ↓c3Abs_int, ↓c3All_ref, ↓c3Any_ref, ↓c3Isi_tl, ↓c3Isi_ty, ↓m3Append_ref, ↓s3Lst_ref, ↓r3Is_non, ↓r3IsNot_non, atI_0, atI_1, atI_2, atI_3, atI_4, tyD_tup, tyD_int, tyD_bl, mc_bool, mc_int, mc_str, mc_tuple, mc_list, mc_dict, ib_NoneType_bool, ib_NoneType_int, ib_NoneType_str, ib_NoneType_tuple, ib_NoneType_list, ib_NoneType_dict, ib_bool_bool, ib_bool_int, ib_bool_str, ib_bool_tuple, ib_bool_list, ib_bool_dict, ib_int_bool, ib_int_int, ib_int_str, ib_int_tuple, ib_int_list, ib_int_dict, ib_str_bool, ib_str_int, ib_str_str, ib_str_tuple, ib_str_list, ib_str_dict, ib_tuple_bool, ib_tuple_int, ib_tuple_str, ib_tuple_tuple, ib_tuple_list, ib_tuple_dict, ib_list_bool, ib_list_int, ib_list_str, ib_list_tuple, ib_list_list, ib_list_dict, ib_dict_bool, ib_dict_int, ib_dict_str, ib_dict_tuple, ib_dict_list, ib_dict_dict, tyD_str, tyD_non, tyD_rol, Bool.or_false, Bool.false_or, Bool.or_true, Bool.true_or, ↓truD_bl, ↓truD_int, List.getElem?_cons_zero, List.getElem?_cons_succ, List.set_cons_zero, List.set_cons_succ, Option.some.injEq, L3.D.bl.injEq, L3.D.int.injEq, L3.D.ref.injEq, L3.D.tup.injEq, L3.D.ty.injEq, L3.D.str.injEq, List.cons.injEq, and_true, true_and, exists_eq_left, exists_eq_left', exists_eq, exists_eq', exists_and_left, exists_and_right, exists_const, and_assoc, exists_eq_right_right, exists_eq_right, ↓ite_both, decide_eq_true_eq, reduceCtorEq, false_and, and_false, exists_false, not_false_eq_true, not_true_eq_false, Bool.false_eq_true, implies_true, forall_const, true_implies, false_implies, Bool.not_eq_true, Bool.not_true, Bool.not_false, decide_true, decide_false, Bool.not_eq_true', Bool.not_eq_false', Bool.not_eq_false, if_true, if_false, Bool.and_true, Bool.true_and, Bool.and_false, Bool.false_and, r3Eq, r3Ne]
  refine ⟨ha, ?_⟩
  cases h : isPairD a with
  | false =>
    rw [isNumB_no h] at q
    exact ⟨fun _ => ret_same q, fun z => (Bool.noConfusion z)⟩
  | true =>
    match a, h, ha, hb, q with
    | .tup [x, y], h, ha, hb, q =>
      simp -implicitDefEqProofs only [↓ex_bl, ↓ex_int, ↓ex_str, ↓ex_ref, ↓ex_tup, ↓ex_some, ↓ex_eq, ↓ex_eq', ↓ex_1, ↓ex_2, ↓ex_3, ↓ex_4, ↓ex_5, ↓ite_tt, ↓ite_ff, ↓v3_0, ↓v3_s, ↓eq_int, ↓ne_int, ↓eq_bl, ↓ne_bl, ↓eq_pair, ↓ne_pair, eqv_bool, eqv_str, ↓pow_lit, ↓ix_t0, ↓ix_t1, ↓ix_tup, ↓ix_it, ↓q_tC3, ↓q_tOp3, ↓q_tUn3, ↓q_tTest3, ↓q_tChain3, ↓q_tTruth3, ↓q_tAnd3, ↓q_tOr3, ↓q_tNot3, ↓q_tAndV3, ↓q_tOrV3, ↓q_tNotV3, ↓q_tIf3, ↓q_tNil3, ↓q_tCons3, ↓q_tTup3, ↓q_tLst3, ↓q_tNoPart3, ↓q_tPart3, ↓q_tSl3, ↓q_tRev3, ↓r3Rev_tup, ↓r3IsNot_bl, ↓r3Is_bl, ↓r3Sl_tup, ↓c3List_tup, ↓c3List_ref, ↓q_tCB3, ↓q_tBM3, ↓q_tBM03, ↓q_tNext3, ↓q_tSeq3, ↓q_tDrop3, ↓q_tRet3, ↓q_tRetN3, ↓q_tIfS3, ↓q_gName3, ↓gnil_eq, ↓gcons_eq, ↓q_gTup3, ↓q_gSub3, ↓q_tAsg3, ↓q_tPar3, ↓q_tYes3, ↓q_tCall3, ↓q_tTryAs3, ↓q_goneE_nx, ↓q_goneE_rt, ↓q_c3IsE, ↓is_bl, ↓c3Str_int, ↓q_tRaise3, ↓q_spA0, ↓q_spA1, ↓q_spA2, ↓q_spA3, ↓q_spA4, ↓q_spA5, ↓q_endF_rt, ↓q_endF_nx, ↓q_endF_xx, r3Lt, r3Le, r3Gt, r3Ge, r3Mod, r3Div, r3Pow, r3Sub, ↓r3I_int, ↓r3I0_int, ↓r3Add_int, ↓r3Add_tup, ↓r3Add_ref, ↓r3Mul_int, ↓r3Mul_ref, datD_non, ↓datD_bl, ↓datD_int, eqv_int, ↓items_tup, ↓items_rol, ↓items_new, ↓len_new, ↓mupd_same, L3.MO.lst.injEq, List.length_cons, List.length_nil, Nat.reduceAdd, Nat.zero_add, sizeLine_eq, Nat.reduceLeDiff, Nat.reducePow, Int.reduceLT, Int.reduceLE, Int.reducePow, Int.reduceToNat, Int.reduceNeg, Int.reduceAdd, Int.cast_ofNat_Int, Int.reduceSub, Int.reduceMul, Nat.reduceMul, Nat.reduceLT, cpow_lit, List.length_append, List.length_map, ↓u3Neg_int, fdiv_pos, ↓q_tDict0, ix_1_0, ix_2_0, ix_2_1, ix_3_0, ix_3_1, ix_3_2, ix_4_0, ix_4_1, ix_4_2, ix_4_3, ix_5_0, ix_5_1, ix_5_2, ix_5_3, ix_5_4, decide_eq_false_iff_not, ↓lc_seq, ↓lc_r1, ↓lc_r2, ↓for_seq, ↓for_r1, ↓for_r2, ↓c3Tuple_it, ↓c3Min2_int, ↓c3Max2_int, ↓m3Pop_ref, ↓lc_zip, ↓for_zip, ↓lc_enum, ↓for_enum, ↓q_tAug3, r3AddI, ↓datD_pair, datD_pair, eqv_pair, ↓m3Index_ref, wipe3, ↓len_tup, ↓len_rol, ↓c3Len_tup, ↓c3Len_rol, ↓c3Len_ref, ↓c3Int_int, ↓c3Int_bl, ↓c3Abs_int, ↓c3All_ref, ↓c3Any_ref, ↓c3Isi_tl, ↓c3Isi_ty, ↓m3Append_ref, ↓s3Lst_ref, ↓r3Is_non, ↓r3IsNot_non, atI_0, atI_1, atI_2, atI_3, atI_4, tyD_tup, tyD_int, tyD_bl, mc_bool, mc_int, mc_str, mc_tuple, mc_list, mc_dict, ib_NoneType_bool, ib_NoneType_int, ib_NoneType_str, ib_NoneType_tuple, ib_NoneType_list, ib_NoneType_dict, ib_bool_bool, ib_bool_int, ib_bool_str, ib_bool_tuple, ib_bool_list, ib_bool_dict, ib_int_bool, ib_int_int, ib_int_str, ib_int_tuple, ib_int_list, ib_int_dict, ib_str_bool, ib_str_int, ib_str_str, ib_str_tuple, ib_str_list, ib_str_dict, ib_tuple_bool, ib_tuple_int, ib_tuple_str, ib_tuple_tuple, ib_tuple_list, ib_tuple_dict, ib_list_bool, ib_list_int, ib_list_str, ib_list_tuple, ib_list_list, ib_list_dict, ib_dict_bool, ib_dict_int, ib_dict_str, ib_dict_tuple, ib_dict_list, ib_dict_dict, tyD_str, tyD_non, tyD_rol, Bool.or_false, Bool.false_or, Bool.or_true, Bool.true_or, ↓truD_bl, ↓truD_int, List.getElem?_cons_zero, List.getElem?_cons_succ, List.set_cons_zero, List.set_cons_succ, Option.some.injEq, L3.D.bl.injEq, L3.D.int.injEq, L3.D.ref.injEq, L3.D.tup.injEq, L3.D.ty.injEq, L3.D.str.injEq, List.cons.injEq, and_true, true_and, exists_eq_left, exists_eq_left', exists_eq, exists_eq', exists_and_left, exists_and_right, exists_const, and_assoc, exists_eq_right_right, exists_eq_right, ↓ite_both, decide_eq_true_eq, reduceCtorEq, false_and, and_false, exists_false, not_false_eq_true, not_true_eq_false, Bool.false_eq_true, implies_true, forall_const, true_implies, false_implies, Bool.not_eq_true, Bool.not_true, Bool.not_false, decide_true, decide_false, Bool.not_eq_true', Bool.not_eq_false', Bool.not_eq_false, if_true, if_false, Bool.and_true, Bool.true_and, Bool.and_false, Bool.false_and, r3Eq, r3Ne]
      refine ⟨hb _ rfl x (by simp), ?_⟩
      cases x with
      | int i =>
        simp -implicitDefEqProofs only [isInt, ↓ex_bl, ↓ex_int, ↓ex_str, ↓ex_ref, ↓ex_tup, ↓ex_some, ↓ex_eq, ↓ex_eq', ↓ex_1, ↓ex_2, ↓ex_3, ↓ex_4, ↓ex_5, ↓ite_tt, ↓ite_ff, ↓v3_0, ↓v3_s, ↓eq_int, ↓ne_int, ↓eq_bl, ↓ne_bl, ↓eq_pair, ↓ne_pair, eqv_bool, eqv_str, ↓pow_lit, ↓ix_t0, ↓ix_t1, ↓ix_tup, ↓ix_it, ↓q_tC3, ↓q_tOp3, ↓q_tUn3, ↓q_tTest3, ↓q_tChain3, ↓q_tTruth3, ↓q_tAnd3, ↓q_tOr3, ↓q_tNot3, ↓q_tAndV3, ↓q_tOrV3, ↓q_tNotV3, ↓q_tIf3, ↓q_tNil3, ↓q_tCons3, ↓q_tTup3, ↓q_tLst3, ↓q_tNoPart3, ↓q_tPart3, ↓q_tSl3, ↓q_tRev3, ↓r3Rev_tup, ↓r3IsNot_bl, ↓r3Is_bl, ↓r3Sl_tup, ↓c3List_tup, ↓c3List_ref, ↓q_tCB3, ↓q_tBM3, ↓q_tBM03, ↓q_tNext3, ↓q_tSeq3, ↓q_tDrop3, ↓q_tRet3, ↓q_tRetN3, ↓q_tIfS3, ↓q_gName3, ↓gnil_eq, ↓gcons_eq, ↓q_gTup3, ↓q_gSub3, ↓q_tAsg3, ↓q_tPar3, ↓q_tYes3, ↓q_tCall3, ↓q_tTryAs3, ↓q_goneE_nx, ↓q_goneE_rt, ↓q_c3IsE, ↓is_bl, ↓c3Str_int, ↓q_tRaise3, ↓q_spA0, ↓q_spA1, ↓q_spA2, ↓q_spA3, ↓q_spA4, ↓q_spA5, ↓q_endF_rt, ↓q_endF_nx, ↓q_endF_xx, r3Lt, r3Le, r3Gt, r3Ge, r3Mod, r3Div, r3Pow, r3Sub, ↓r3I_int, ↓r3I0_int, ↓r3Add_int, ↓r3Add_tup, ↓r3Add_ref, ↓r3Mul_int, ↓r3Mul_ref, datD_non, ↓datD_bl, ↓datD_int, eqv_int, ↓items_tup, ↓items_rol, ↓items_new, ↓len_new, ↓mupd_same, L3.MO.lst.injEq, List.length_cons, List.length_nil, Nat.reduceAdd, Nat.zero_add, sizeLine_eq, Nat.reduceLeDiff, Nat.reducePow, Int.reduceLT, Int.reduceLE, Int.reducePow, Int.reduceToNat, Int.reduceNeg, Int.reduceAdd, Int.cast_ofNat_Int, Int.reduceSub, Int.reduceMul, Nat.reduceMul, Nat.reduceLT, cpow_lit, List.length_append, List.length_map, ↓u3Neg_int, fdiv_pos, ↓q_tDict0, ix_1_0, ix_2_0, ix_2_1, ix_3_0, ix_3_1, ix_3_2, ix_4_0, ix_4_1, ix_4_2, ix_4_3, ix_5_0, ix_5_1, ix_5_2, ix_5_3, ix_5_4, decide_eq_false_iff_not, ↓lc_seq, ↓lc_r1, ↓lc_r2, ↓for_seq, ↓for_r1, ↓for_r2, ↓c3Tuple_it, ↓c3Min2_int, ↓c3Max2_int, ↓m3Pop_ref, ↓lc_zip, ↓for_zip, ↓lc_enum, ↓for_enum, ↓q_tAug3, r3AddI, ↓datD_pair, datD_pair, eqv_pair, ↓m3Index_ref, wipe3, ↓len_tup, ↓len_rol, ↓c3Len_tup, ↓c3Len_rol, ↓c3Len_ref, ↓c3Int_int, ↓c3Int_bl, ↓c3Abs_int, ↓c3All_ref, ↓c3Any_ref, ↓c3Isi_tl, ↓c3Isi_ty, ↓m3Append_ref, ↓s3Lst_ref, ↓r3Is_non, ↓r3IsNot_non, atI_0, atI_1, atI_2, atI_3, atI_4, tyD_tup, tyD_int, tyD_bl, mc_bool, mc_int, mc_str, mc_tuple, mc_list, mc_dict, ib_NoneType_bool, ib_NoneType_int, ib_NoneType_str, ib_NoneType_tuple, ib_NoneType_list, ib_NoneType_dict, ib_bool_bool, ib_bool_int, ib_bool_str, ib_bool_tuple, ib_bool_list, ib_bool_dict, ib_int_bool, ib_int_int, ib_int_str, ib_int_tuple, ib_int_list, ib_int_dict, ib_str_bool, ib_str_int, ib_str_str, ib_str_tuple, ib_str_list, ib_str_dict, ib_tuple_bool, ib_tuple_int, ib_tuple_str, ib_tuple_tuple, ib_tuple_list, ib_tuple_dict, ib_list_bool, ib_list_int, ib_list_str, ib_list_tuple, ib_list_list, ib_list_dict, ib_dict_bool, ib_dict_int, ib_dict_str, ib_dict_tuple, ib_dict_list, ib_dict_dict, tyD_str, tyD_non, tyD_rol, Bool.or_false, Bool.false_or, Bool.or_true, Bool.true_or, ↓truD_bl, ↓truD_int, List.getElem?_cons_zero, List.getElem?_cons_succ, List.set_cons_zero, List.set_cons_succ, Option.some.injEq, L3.D.bl.injEq, L3.D.int.injEq, L3.D.ref.injEq, L3.D.tup.injEq, L3.D.ty.injEq, L3.D.str.injEq, List.cons.injEq, and_true, true_and, exists_eq_left, exists_eq_left', exists_eq, exists_eq', exists_and_left, exists_and_right, exists_const, and_assoc, exists_eq_right_right, exists_eq_right, ↓ite_both, decide_eq_true_eq, reduceCtorEq, false_and, and_false, exists_false, not_false_eq_true, not_true_eq_false, Bool.false_eq_true, implies_true, forall_const, true_implies, false_implies, Bool.not_eq_true, Bool.not_true, Bool.not_false, decide_true, decide_false, Bool.not_eq_true', Bool.not_eq_false', Bool.not_eq_false, if_true, if_false, Bool.and_true, Bool.true_and, Bool.and_false, Bool.false_and, r3Eq, r3Ne]
        refine ⟨hb _ rfl y (by simp), ?_⟩
        cases y with
        | int j =>
          simp -implicitDefEqProofs only [isInt, ↓ex_bl, ↓ex_int, ↓ex_str, ↓ex_ref, ↓ex_tup, ↓ex_some, ↓ex_eq, ↓ex_eq', ↓ex_1, ↓ex_2, ↓ex_3, ↓ex_4, ↓ex_5, ↓ite_tt, ↓ite_ff, ↓v3_0, ↓v3_s, ↓eq_int, ↓ne_int, ↓eq_bl, ↓ne_bl, ↓eq_pair, ↓ne_pair, eqv_bool, eqv_str, ↓pow_lit, ↓ix_t0, ↓ix_t1, ↓ix_tup, ↓ix_it, ↓q_tC3, ↓q_tOp3, ↓q_tUn3, ↓q_tTest3, ↓q_tChain3, ↓q_tTruth3, ↓q_tAnd3, ↓q_tOr3, ↓q_tNot3, ↓q_tAndV3, ↓q_tOrV3, ↓q_tNotV3, ↓q_tIf3, ↓q_tNil3, ↓q_tCons3, ↓q_tTup3, ↓q_tLst3, ↓q_tNoPart3, ↓q_tPart3, ↓q_tSl3, ↓q_tRev3, ↓r3Rev_tup, ↓r3IsNot_bl, ↓r3Is_bl, ↓r3Sl_tup, ↓c3List_tup, ↓c3List_ref, ↓q_tCB3, ↓q_tBM3, ↓q_tBM03, ↓q_tNext3, ↓q_tSeq3, ↓q_tDrop3, ↓q_tRet3, ↓q_tRetN3, ↓q_tIfS3, ↓q_gName3, ↓gnil_eq, ↓gcons_eq, ↓q_gTup3, ↓q_gSub3, ↓q_tAsg3, ↓q_tPar3, ↓q_tYes3, ↓q_tCall3, ↓q_tTryAs3, ↓q_goneE_nx, ↓q_goneE_rt, ↓q_c3IsE, ↓is_bl, ↓c3Str_int, ↓q_tRaise3, ↓q_spA0, ↓q_spA1, ↓q_spA2, ↓q_spA3, ↓q_spA4, ↓q_spA5, ↓q_endF_rt, ↓q_endF_nx, ↓q_endF_xx, r3Lt, r3Le, r3Gt, r3Ge, r3Mod, r3Div, r3Pow, r3Sub, ↓r3I_int, ↓r3I0_int, ↓r3Add_int, ↓r3Add_tup, ↓r3Add_ref, ↓r3Mul_int, ↓r3Mul_ref, datD_non, ↓datD_bl, ↓datD_int, eqv_int, ↓items_tup, ↓items_rol, ↓items_new, ↓len_new, ↓mupd_same, L3.MO.lst.injEq, List.length_cons, List.length_nil, Nat.reduceAdd, Nat.zero_add, sizeLine_eq, Nat.reduceLeDiff, Nat.reducePow, Int.reduceLT, Int.reduceLE, Int.reducePow, Int.reduceToNat, Int.reduceNeg, Int.reduceAdd, Int.cast_ofNat_Int, Int.reduceSub, Int.reduceMul, Nat.reduceMul, Nat.reduceLT, cpow_lit, List.length_append, List.length_map, ↓u3Neg_int, fdiv_pos, ↓q_tDict0, ix_1_0, ix_2_0, ix_2_1, ix_3_0, ix_3_1, ix_3_2, ix_4_0, ix_4_1, ix_4_2, ix_4_3, ix_5_0, ix_5_1, ix_5_2, ix_5_3, ix_5_4, decide_eq_false_iff_not, ↓lc_seq, ↓lc_r1, ↓lc_r2, ↓for_seq, ↓for_r1, ↓for_r2, ↓c3Tuple_it, ↓c3Min2_int, ↓c3Max2_int, ↓m3Pop_ref, ↓lc_zip, ↓for_zip, ↓lc_enum, ↓for_enum, ↓q_tAug3, r3AddI, ↓datD_pair, datD_pair, eqv_pair, ↓m3Index_ref, wipe3, ↓len_tup, ↓len_rol, ↓c3Len_tup, ↓c3Len_rol, ↓c3Len_ref, ↓c3Int_int, ↓c3Int_bl, ↓c3Abs_int, ↓c3All_ref, ↓c3Any_ref, ↓c3Isi_tl, ↓c3Isi_ty, ↓m3Append_ref, ↓s3Lst_ref, ↓r3Is_non, ↓r3IsNot_non, atI_0, atI_1, atI_2, atI_3, atI_4, tyD_tup, tyD_int, tyD_bl, mc_bool, mc_int, mc_str, mc_tuple, mc_list, mc_dict, ib_NoneType_bool, ib_NoneType_int, ib_NoneType_str, ib_NoneType_tuple, ib_NoneType_list, ib_NoneType_dict, ib_bool_bool, ib_bool_int, ib_bool_str, ib_bool_tuple, ib_bool_list, ib_bool_dict, ib_int_bool, ib_int_int, ib_int_str, ib_int_tuple, ib_int_list, ib_int_dict, ib_str_bool, ib_str_int, ib_str_str, ib_str_tuple, ib_str_list, ib_str_dict, ib_tuple_bool, ib_tuple_int, ib_tuple_str, ib_tuple_tuple, ib_tuple_list, ib_tuple_dict, ib_list_bool, ib_list_int, ib_list_str, ib_list_tuple, ib_list_list, ib_list_dict, ib_dict_bool, ib_dict_int, ib_dict_str, ib_dict_tuple, ib_dict_list, ib_dict_dict, tyD_str, tyD_non, tyD_rol, Bool.or_false, Bool.false_or, Bool.or_true, Bool.true_or, ↓truD_bl, ↓truD_int, List.getElem?_cons_zero, List.getElem?_cons_succ, List.set_cons_zero, List.set_cons_succ, Option.some.injEq, L3.D.bl.injEq, L3.D.int.injEq, L3.D.ref.injEq, L3.D.tup.injEq, L3.D.ty.injEq, L3.D.str.injEq, List.cons.injEq, and_true, true_and, exists_eq_left, exists_eq_left', exists_eq, exists_eq', exists_and_left, exists_and_right, exists_const, and_assoc, exists_eq_right_right, exists_eq_right, ↓ite_both, decide_eq_true_eq, reduceCtorEq, false_and, and_false, exists_false, not_false_eq_true, not_true_eq_false, Bool.false_eq_true, implies_true, forall_const, true_implies, false_implies, Bool.not_eq_true, Bool.not_true, Bool.not_false, decide_true, decide_false, Bool.not_eq_true', Bool.not_eq_false', Bool.not_eq_false, if_true, if_false, Bool.and_true, Bool.true_and, Bool.and_false, Bool.false_and, r3Eq, r3Ne]
          refine ⟨fun hp => ⟨hasTy_int, fun h1 => ?_, fun h1 => ?_⟩, fun hp => ⟨fun h1 => ⟨i.natAbs, rfl, j.natAbs, by omega, ?_⟩, fun h1 => ?_⟩⟩
          all_goals refine ret_same ?_
          · simp only [isNumB, if_pos hp] at q
            simp only [withinB] at h1
            rw [h1, Bool.true_and] at q
            exact q
          · simp only [isNumB, if_pos hp] at q
            simp only [withinB] at h1
            rw [h1, Bool.false_and] at q
            exact q
          · simp only [isNumB, if_neg hp] at q
            rw [decide_eq_true h1, Bool.true_and] at q
            rw [show decide (((Nat.gcd i.natAbs j.natAbs : Nat) : Int) = 1) = decide (Nat.gcd i.natAbs j.natAbs = 1) from decide_eq_decide.mpr (by omega)]
            exact q
          · simp only [isNumB, if_neg hp] at q
            rw [decide_eq_false h1, Bool.false_and] at q
            exact q
        | _ => simp -implicitDefEqProofs only [isInt, ↓ex_bl, ↓ex_int, ↓ex_str, ↓ex_ref, ↓ex_tup, ↓ex_some, ↓ex_eq, ↓ex_eq', ↓ex_1, ↓ex_2, ↓ex_3, ↓ex_4, ↓ex_5, ↓ite_tt, ↓ite_ff, ↓v3_0, ↓v3_s, ↓eq_int, ↓ne_int, ↓eq_bl, ↓ne_bl, ↓eq_pair, ↓ne_pair, eqv_bool, eqv_str, ↓pow_lit, ↓ix_t0, ↓ix_t1, ↓ix_tup, ↓ix_it, ↓q_tC3, ↓q_tOp3, ↓q_tUn3, ↓q_tTest3, ↓q_tChain3, ↓q_tTruth3, ↓q_tAnd3, ↓q_tOr3, ↓q_tNot3, ↓q_tAndV3, ↓q_tOrV3, ↓q_tNotV3, ↓q_tIf3, ↓q_tNil3, ↓q_tCons3, ↓q_tTup3, ↓q_tLst3, ↓q_tNoPart3, ↓q_tPart3, ↓q_tSl3, ↓q_tRev3, ↓r3Rev_tup, ↓r3IsNot_bl, ↓r3Is_bl, ↓r3Sl_tup, ↓c3List_tup, ↓c3List_ref, ↓q_tCB3, ↓q_tBM3, ↓q_tBM03, ↓q_tNext3, ↓q_tSeq3, ↓q_tDrop3, ↓q_tRet3, ↓q_tRetN3, ↓q_tIfS3, ↓q_gName3, ↓gnil_eq, ↓gcons_eq, ↓q_gTup3, ↓q_gSub3, ↓q_tAsg3, ↓q_tPar3, ↓q_tYes3, ↓q_tCall3, ↓q_tTryAs3, ↓q_goneE_nx, ↓q_goneE_rt, ↓q_c3IsE, ↓is_bl, ↓c3Str_int, ↓q_tRaise3, ↓q_spA0, ↓q_spA1, ↓q_spA2, ↓q_spA3, ↓q_spA4, ↓q_spA5, ↓q_endF_rt, ↓q_endF_nx, ↓q_endF_xx, r3Lt, r3Le, r3Gt, r3Ge, r3Mod, r3Div, r3Pow, r3Sub, ↓r3I_int, ↓r3I0_int, ↓r3Add_int, ↓r3Add_tup, ↓r3Add_ref, ↓r3Mul_int, ↓r3Mul_ref, datD_non, ↓datD_bl, ↓datD_int, eqv_int, ↓items_tup, ↓items_rol, ↓items_new, ↓len_new, ↓mupd_same, L3.MO.lst.injEq, List.length_cons, List.length_nil, Nat.reduceAdd, Nat.zero_add, sizeLine_eq, Nat.reduceLeDiff, Nat.reducePow, Int.reduceLT, Int.reduceLE, Int.reducePow, Int.reduceToNat, Int.reduceNeg, Int.reduceAdd, Int.cast_ofNat_Int, Int.reduceSub, Int.reduceMul, Nat.reduceMul, Nat.reduceLT, cpow_lit, List.length_append, List.length_map, ↓u3Neg_int, fdiv_pos, ↓q_tDict0, ix_1_0, ix_2_0, ix_2_1, ix_3_0, ix_3_1, ix_3_2, ix_4_0, ix_4_1, ix_4_2, ix_4_3, ix_5_0, ix_5_1, ix_5_2, ix_5_3, ix_5_4, decide_eq_false_iff_not, ↓lc_seq, ↓lc_r1, ↓lc_r2, ↓for_seq, ↓for_r1, ↓for_r2, ↓c3Tuple_it, ↓c3Min2_int, ↓c3Max2_int, ↓m3Pop_ref, ↓lc_zip, ↓for_zip, ↓lc_enum, ↓for_enum, ↓q_tAug3, r3AddI, ↓datD_pair, datD_pair, eqv_pair, ↓m3Index_ref, wipe3, ↓len_tup, ↓len_rol, ↓c3Len_tup, ↓c3Len_rol, ↓c3Len_ref, ↓c3Int_int, ↓c3Int_bl, ↓c3Abs_int, ↓c3All_ref, ↓c3Any_ref, ↓c3Isi_tl, ↓c3Isi_ty, ↓m3Append_ref, ↓s3Lst_ref, ↓r3Is_non, ↓r3IsNot_non, atI_0, atI_1, atI_2, atI_3, atI_4, tyD_tup, tyD_int, tyD_bl, mc_bool, mc_int, mc_str, mc_tuple, mc_list, mc_dict, ib_NoneType_bool, ib_NoneType_int, ib_NoneType_str, ib_NoneType_tuple, ib_NoneType_list, ib_NoneType_dict, ib_bool_bool, ib_bool_int, ib_bool_str, ib_bool_tuple, ib_bool_list, ib_bool_dict, ib_int_bool, ib_int_int, ib_int_str, ib_int_tuple, ib_int_list, ib_int_dict, ib_str_bool, ib_str_int, ib_str_str, ib_str_tuple, ib_str_list, ib_str_dict, ib_tuple_bool, ib_tuple_int, ib_tuple_str, ib_tuple_tuple, ib_tuple_list, ib_tuple_dict, ib_list_bool, ib_list_int, ib_list_str, ib_list_tuple, ib_list_list, ib_list_dict, ib_dict_bool, ib_dict_int, ib_dict_str, ib_dict_tuple, ib_dict_list, ib_dict_dict, tyD_str, tyD_non, tyD_rol, Bool.or_false, Bool.false_or, Bool.or_true, Bool.true_or, ↓truD_bl, ↓truD_int, List.getElem?_cons_zero, List.getElem?_cons_succ, List.set_cons_zero, List.set_cons_succ, Option.some.injEq, L3.D.bl.injEq, L3.D.int.injEq, L3.D.ref.injEq, L3.D.tup.injEq, L3.D.ty.injEq, L3.D.str.injEq, List.cons.injEq, and_true, true_and, exists_eq_left, exists_eq_left', exists_eq, exists_eq', exists_and_left, exists_and_right, exists_const, and_assoc, exists_eq_right_right, exists_eq_right, ↓ite_both, decide_eq_true_eq, reduceCtorEq, false_and, and_false, exists_false, not_false_eq_true, not_true_eq_false, Bool.false_eq_true, implies_true, forall_const, true_implies, false_implies, Bool.not_eq_true, Bool.not_true, Bool.not_false, decide_true, decide_false, Bool.not_eq_true', Bool.not_eq_false', Bool.not_eq_false, if_true, if_false, Bool.and_true, Bool.true_and, Bool.and_false, Bool.false_and, r3Eq, r3Ne]; exact ret_same q
      | _ => simp -implicitDefEqProofs only [isInt, ↓ex_bl, ↓ex_int, ↓ex_str, ↓ex_ref, ↓ex_tup, ↓ex_some, ↓ex_eq, ↓ex_eq', ↓ex_1, ↓ex_2, ↓ex_3, ↓ex_4, ↓ex_5, ↓ite_tt, ↓ite_ff, ↓v3_0, ↓v3_s, ↓eq_int, ↓ne_int, ↓eq_bl, ↓ne_bl, ↓eq_pair, ↓ne_pair, eqv_bool, eqv_str, ↓pow_lit, ↓ix_t0, ↓ix_t1, ↓ix_tup, ↓ix_it, ↓q_tC3, ↓q_tOp3, ↓q_tUn3, ↓q_tTest3, ↓q_tChain3, ↓q_tTruth3, ↓q_tAnd3, ↓q_tOr3, ↓q_tNot3, ↓q_tAndV3, ↓q_tOrV3, ↓q_tNotV3, ↓q_tIf3, ↓q_tNil3, ↓q_tCons3, ↓q_tTup3, ↓q_tLst3, ↓q_tNoPart3, ↓q_tPart3, ↓q_tSl3, ↓q_tRev3, ↓r3Rev_tup, ↓r3IsNot_bl, ↓r3Is_bl, ↓r3Sl_tup, ↓c3List_tup, ↓c3List_ref, ↓q_tCB3, ↓q_tBM3, ↓q_tBM03, ↓q_tNext3, ↓q_tSeq3, ↓q_tDrop3, ↓q_tRet3, ↓q_tRetN3, ↓q_tIfS3, ↓q_gName3, ↓gnil_eq, ↓gcons_eq, ↓q_gTup3, ↓q_gSub3, ↓q_tAsg3, ↓q_tPar3, ↓q_tYes3, ↓q_tCall3, ↓q_tTryAs3, ↓q_goneE_nx, ↓q_goneE_rt, ↓q_c3IsE, ↓is_bl, ↓c3Str_int, ↓q_tRaise3, ↓q_spA0, ↓q_spA1, ↓q_spA2, ↓q_spA3, ↓q_spA4, ↓q_spA5, ↓q_endF_rt, ↓q_endF_nx, ↓q_endF_xx, r3Lt, r3Le, r3Gt, r3Ge, r3Mod, r3Div, r3Pow, r3Sub, ↓r3I_int, ↓r3I0_int, ↓r3Add_int, ↓r3Add_tup, ↓r3Add_ref, ↓r3Mul_int, ↓r3Mul_ref, datD_non, ↓datD_bl, ↓datD_int, eqv_int, ↓items_tup, ↓items_rol, ↓items_new, ↓len_new, ↓mupd_same, L3.MO.lst.injEq, List.length_cons, List.length_nil, Nat.reduceAdd, Nat.zero_add, sizeLine_eq, Nat.reduceLeDiff, Nat.reducePow, Int.reduceLT, Int.reduceLE, Int.reducePow, Int.reduceToNat, Int.reduceNeg, Int.reduceAdd, Int.cast_ofNat_Int, Int.reduceSub, Int.reduceMul, Nat.reduceMul, Nat.reduceLT, cpow_lit, List.length_append, List.length_map, ↓u3Neg_int, fdiv_pos, ↓q_tDict0, ix_1_0, ix_2_0, ix_2_1, ix_3_0, ix_3_1, ix_3_2, ix_4_0, ix_4_1, ix_4_2, ix_4_3, ix_5_0, ix_5_1, ix_5_2, ix_5_3, ix_5_4, decide_eq_false_iff_not, ↓lc_seq, ↓lc_r1, ↓lc_r2, ↓for_seq, ↓for_r1, ↓for_r2, ↓c3Tuple_it, ↓c3Min2_int, ↓c3Max2_int, ↓m3Pop_ref, ↓lc_zip, ↓for_zip, ↓lc_enum, ↓for_enum, ↓q_tAug3, r3AddI, ↓datD_pair, datD_pair, eqv_pair, ↓m3Index_ref, wipe3, ↓len_tup, ↓len_rol, ↓c3Len_tup, ↓c3Len_rol, ↓c3Len_ref, ↓c3Int_int, ↓c3Int_bl, ↓c3Abs_int, ↓c3All_ref, ↓c3Any_ref, ↓c3Isi_tl, ↓c3Isi_ty, ↓m3Append_ref, ↓s3Lst_ref, ↓r3Is_non, ↓r3IsNot_non, atI_0, atI_1, atI_2, atI_3, atI_4, tyD_tup, tyD_int, tyD_bl, mc_bool, mc_int, mc_str, mc_tuple, mc_list, mc_dict, ib_NoneType_bool, ib_NoneType_int, ib_NoneType_str, ib_NoneType_tuple, ib_NoneType_list, ib_NoneType_dict, ib_bool_bool, ib_bool_int, ib_bool_str, ib_bool_tuple, ib_bool_list, ib_bool_dict, ib_int_bool, ib_int_int, ib_int_str, ib_int_tuple, ib_int_list, ib_int_dict, ib_str_bool, ib_str_int, ib_str_str, ib_str_tuple, ib_str_list, ib_str_dict, ib_tuple_bool, ib_tuple_int, ib_tuple_str, ib_tuple_tuple, ib_tuple_list, ib_tuple_dict, ib_list_bool, ib_list_int, ib_list_str, ib_list_tuple, ib_list_list, ib_list_dict, ib_dict_bool, ib_dict_int, ib_dict_str, ib_dict_tuple, ib_dict_list, ib_dict_dict, tyD_str, tyD_non, tyD_rol, Bool.or_false, Bool.false_or, Bool.or_true, Bool.true_or, ↓truD_bl, ↓truD_int, List.getElem?_cons_zero, List.getElem?_cons_succ, List.set_cons_zero, List.set_cons_succ, Option.some.injEq, L3.D.bl.injEq, L3.D.int.injEq, L3.D.ref.injEq, L3.D.tup.injEq, L3.D.ty.injEq, L3.D.str.injEq, List.cons.injEq, and_true, true_and, exists_eq_left, exists_eq_left', exists_eq, exists_eq', exists_and_left, exists_and_right, exists_const, and_assoc, exists_eq_right_right, exists_eq_right, ↓ite_both, decide_eq_true_eq, reduceCtorEq, false_and, and_false, exists_false, not_false_eq_true, not_true_eq_false, Bool.false_eq_true, implies_true, forall_const, true_implies, false_implies, Bool.not_eq_true, Bool.not_true, Bool.not_false, decide_true, decide_false, Bool.not_eq_true', Bool.not_eq_false', Bool.not_eq_false, if_true, if_false, Bool.and_true, Bool.true_and, Bool.and_false, Bool.false_and, r3Eq, r3Ne]; exact ret_same q

def sp_is_poly (K : PySem.W.Frag) : Sp3 := spA2 fun g a M Q X => ∃ p, g = .int p ∧ Gd p ∧ tyA M a ∧ Q (.bl (isPolyB p a)) M
abbrev N_is_poly : List Str := ["ground", "thing", "number"]
def tr_is_poly (K : PySem.W.Frag) : TS3 := (tSeq3 (tIfS3 (tOr3 (tNot3 (tTruth3 (tCB3 c3Isi (tCons3 (tVar3 1) (tCons3 (tC3 (.ty "tuple")) tNil3))))) (tNot3 (tTruth3 (tCB3 c3All (tCons3 (tLc3 (iSeq3 (tVar3 1)) (gName3 2) tYes3 (tCall3 (sp_is_num K) (tCons3 (tVar3 0) (tCons3 (tVar3 2) tNil3))) [2]) tNil3))))) (tRet3 (tC3 (.bl false))) tNext3) (tRet3 (tOrV3 (tOp3 r3Eq (tCB3 c3Len (tCons3 (tVar3 1) tNil3)) (tC3 (.int 0))) (tOp3 r3Ne (tOp3 r3Ix (tVar3 1) (tUn3 u3Neg (tC3 (.int 1)))) (tC3 c_NOUGHT)))))
theorem rd_is_poly (K : PySem.W.Frag) : ∀ ds M Q E, sp_is_poly K ds M Q E → tr_is_poly K (endF M Q E) (start3 N_is_poly ds) M := by
  rintro ds M Q E ⟨g, a, rfl, p, rfl, hg, ta, q⟩
  unfold tr_is_poly
  simp only [start3, List.map_cons, List.map_nil, List.length_cons, List.length_nil, List.cons_append, List.nil_append, List.replicate_succ, List.replicate_zero, Nat.reduceAdd, Nat.reduceSub, Nat.zero_add]
  obtain ⟨t, ht⟩ := ta.ty
  simp -implicitDefEqProofs only [ht, ↓ex_bl, ↓ex_int, ↓ex_str, ↓ex_ref, ↓ex_tup, ↓ex_some, ↓ex_eq, ↓ex_eq', ↓ex_1, ↓ex_2, ↓ex_3, ↓ex_4, ↓ex_5, ↓ite_tt, ↓ite_ff, ↓v3_0, ↓v3_s, ↓eq_int, ↓ne_int, ↓eq_bl, ↓ne_bl, ↓eq_pair, ↓ne_pair, eqv_bool, eqv_str, ↓pow_lit, ↓ix_t0, ↓ix_t1, ↓ix_tup, ↓ix_it, ↓q_tC3, ↓q_tOp3, ↓q_tUn3, ↓q_tTest3, ↓q_tChain3, ↓q_tTruth3, ↓q_tAnd3, ↓q_tOr3, ↓q_tNot3, ↓q_tAndV3, ↓q_tOrV3, ↓q_tNotV3, ↓q_tIf3, ↓q_tNil3, ↓q_tCons3, ↓q_tTup3, ↓q_tLst3, ↓q_tNoPart3, ↓q_tPart3, ↓q_tSl3, ↓q_tRev3, ↓r3Rev_tup, ↓r3IsNot_bl, ↓r3Is_bl, ↓r3Sl_tup, ↓c3List_tup, ↓c3List_ref, ↓q_tCB3, ↓q_tBM3, ↓q_tBM03, ↓q_tNext3, ↓q_tSeq3, ↓q_tDrop3, ↓q_tRet3, ↓q_tRetN3, ↓q_tIfS3, ↓q_gName3, ↓gnil_eq, ↓gcons_eq, ↓q_gTup3, ↓q_gSub3, ↓q_tAsg3, ↓q_tPar3, ↓q_tYes3, ↓q_tCall3, ↓q_tTryAs3, ↓q_goneE_nx, ↓q_goneE_rt, ↓q_c3IsE, ↓is_bl, ↓c3Str_int, ↓q_tRaise3, ↓q_spA0, ↓q_spA1, ↓q_spA2, ↓q_spA3, ↓q_spA4, ↓q_spA5, ↓q_endF_rt, ↓q_endF_nx, ↓q_endF_xx, r3Lt, r3Le, r3Gt, r3Ge, r3Mod, r3Div, r3Pow, r3Sub, ↓r3I_int, ↓r3I0_int, ↓r3Add_int, ↓r3Add_tup, ↓r3Add_ref, ↓r3Mul_int, ↓r3Mul_ref, datD_non, ↓datD_bl, ↓datD_int, eqv_int, ↓items_tup, ↓items_rol, ↓items_new, ↓len_new, ↓mupd_same, L3.MO.lst.injEq, List.length_cons, List.length_nil, Nat.reduceAdd, Nat.zero_add, sizeLine_eq, Nat.reduceLeDiff, Nat.reducePow, Int.reduceLT, Int.reduceLE, Int.reducePow, Int.reduceToNat, Int.reduceNeg, Int.reduceAdd, Int.cast_ofNat_Int, Int.reduceSub, Int.reduceMul, Nat.reduceMul, Nat.reduceLT, cpow_lit, List.length_append, List.length_map, ↓u3Neg_int, fdiv_pos, ↓q_tDict0, ix_1_0, ix_2_0, ix_2_1, ix_3_0, ix_3_1, ix_3_2, ix_4_0, ix_4_1, ix_4_2, ix_4_3, ix_5_0, ix_5_1, ix_5_2, ix_5_3, ix_5_4, decide_eq_false_iff_not, ↓lc_seq, ↓lc_r1, ↓lc_r2, ↓for_seq, ↓for_r1, ↓for_r2, ↓c3Tuple_it, ↓c3Min2_int, ↓c3Max2_int, ↓m3Pop_ref, ↓lc_zip, ↓for_zip, ↓lc_enum, ↓for_enum, ↓q_tAug3, r3AddI, ↓datD_pair, datD_pair, eqv_pair, ↓m3Index_ref, wipe3, ↓len_tup, ↓len_rol, ↓c3Len_tup, ↓c3Len_rol, ↓c3Len_ref, ↓c3Int_int, ↓c3Int_bl, ↓c3Abs_int, ↓c3All_ref, ↓c3Any_ref, ↓c3Isi_tl, ↓c3Isi_ty, ↓m3Append_ref, ↓s3Lst_ref, ↓r3Is_non, ↓r3IsNot_non, atI_0, atI_1, atI_2, atI_3, atI_4, tyD_tup, tyD_int, tyD_bl, mc_bool, mc_int, mc_str, mc_tuple, mc_list, mc_dict, ib_NoneType_bool, ib_NoneType_int, ib_NoneType_str, ib_NoneType_tuple, ib_NoneType_list, ib_NoneType_dict, ib_bool_bool, ib_bool_int, ib_bool_str, ib_bool_tuple, ib_bool_list, ib_bool_dict, ib_int_bool, ib_int_int, ib_int_str, ib_int_tuple, ib_int_list, ib_int_dict, ib_str_bool, ib_str_int, ib_str_str, ib_str_tuple, ib_str_list, ib_str_dict, ib_tuple_bool, ib_tuple_int, ib_tuple_str, ib_tuple_tuple, ib_tuple_list, ib_tuple_dict, ib_list_bool, ib_list_int, ib_list_str, ib_list_tuple, ib_list_list, ib_list_dict, ib_dict_bool, ib_dict_int, ib_dict_str, ib_dict_tuple, ib_dict_list, ib_dict_dict, tyD_str, tyD_non, tyD_rol, Bool.or_false, Bool.false_or, Bool.or_true, Bool.true_or, ↓truD_bl, ↓truD_int, List.getElem?_cons_zero, List.getElem?_cons_succ, List.set_cons_zero, List.set_cons_succ, Option.some.injEq, L3.D.bl.injEq, L3.D.int.injEq, L3.D.ref.injEq, L3.D.tup.injEq, L3.D.ty.injEq, L3.D.str.injEq, List.cons.injEq, and_true, true_and, exists_eq_left, exists_eq_left', exists_eq, exists_eq', exists_and_left, exists_and_right, exists_const, and_assoc, exists_eq_right_right, exists_eq_right, ↓ite_both, decide_eq_true_eq, reduceCtorEq, false_and, and_false, exists_false, not_false_eq_true, not_true_eq_false, Bool.false_eq_true, implies_true, forall_const, true_implies, false_implies, Bool.not_eq_true, Bool.not_true, Bool.not_false, decide_true, decide_false, Bool.not_eq_true', Bool.not_eq_false', Bool.not_eq_false, if_true, if_false, Bool.and_true, Bool.true_and, Bool.and_false, Bool.false_and, r3Eq, r3Ne]
  rw [isi_tup ht]
  cases a with
  | tup es =>
    simp -implicitDefEqProofs only [isTupD, ↓ex_bl, ↓ex_int, ↓ex_str, ↓ex_ref, ↓ex_tup, ↓ex_some, ↓ex_eq, ↓ex_eq', ↓ex_1, ↓ex_2, ↓ex_3, ↓ex_4, ↓ex_5, ↓ite_tt, ↓ite_ff, ↓v3_0, ↓v3_s, ↓eq_int, ↓ne_int, ↓eq_bl, ↓ne_bl, ↓eq_pair, ↓ne_pair, eqv_bool, eqv_str, ↓pow_lit, ↓ix_t0, ↓ix_t1, ↓ix_tup, ↓ix_it, ↓q_tC3, ↓q_tOp3, ↓q_tUn3, ↓q_tTest3, ↓q_tChain3, ↓q_tTruth3, ↓q_tAnd3, ↓q_tOr3, ↓q_tNot3, ↓q_tAndV3, ↓q_tOrV3, ↓q_tNotV3, ↓q_tIf3, ↓q_tNil3, ↓q_tCons3, ↓q_tTup3, ↓q_tLst3, ↓q_tNoPart3, ↓q_tPart3, ↓q_tSl3, ↓q_tRev3, ↓r3Rev_tup, ↓r3IsNot_bl, ↓r3Is_bl, ↓r3Sl_tup, ↓c3List_tup, ↓c3List_ref, ↓q_tCB3, ↓q_tBM3, ↓q_tBM03, ↓q_tNext3, ↓q_tSeq3, ↓q_tDrop3, ↓q_tRet3, ↓q_tRetN3, ↓q_tIfS3, ↓q_gName3, ↓gnil_eq, ↓gcons_eq, ↓q_gTup3, ↓q_gSub3, ↓q_tAsg3, ↓q_tPar3, ↓q_tYes3, ↓q_tCall3, ↓q_tTryAs3, ↓q_goneE_nx, ↓q_goneE_rt, ↓q_c3IsE, ↓is_bl, ↓c3Str_int, ↓q_tRaise3, ↓q_spA0, ↓q_spA1, ↓q_spA2, ↓q_spA3, ↓q_spA4, ↓q_spA5, ↓q_endF_rt, ↓q_endF_nx, ↓q_endF_xx, r3Lt, r3Le, r3Gt, r3Ge, r3Mod, r3Div, r3Pow, r3Sub, ↓r3I_int, ↓r3I0_int, ↓r3Add_int, ↓r3Add_tup, ↓r3Add_ref, ↓r3Mul_int, ↓r3Mul_ref, datD_non, ↓datD_bl, ↓datD_int, eqv_int, ↓items_tup, ↓items_rol, ↓items_new, ↓len_new, ↓mupd_same, L3.MO.lst.injEq, List.length_cons, List.length_nil, Nat.reduceAdd, Nat.zero_add, sizeLine_eq, Nat.reduceLeDiff, Nat.reducePow, Int.reduceLT, Int.reduceLE, Int.reducePow, Int.reduceToNat, Int.reduceNeg, Int.reduceAdd, Int.cast_ofNat_Int, Int.reduceSub, Int.reduceMul, Nat.reduceMul, Nat.reduceLT, cpow_lit, List.length_append, List.length_map, ↓u3Neg_int, fdiv_pos, ↓q_tDict0, ix_1_0, ix_2_0, ix_2_1, ix_3_0, ix_3_1, ix_3_2, ix_4_0, ix_4_1, ix_4_2, ix_4_3, ix_5_0, ix_5_1, ix_5_2, ix_5_3, ix_5_4, decide_eq_false_iff_not, ↓lc_seq, ↓lc_r1, ↓lc_r2, ↓for_seq, ↓for_r1, ↓for_r2, ↓c3Tuple_it, ↓c3Min2_int, ↓c3Max2_int, ↓m3Pop_ref, ↓lc_zip, ↓for_zip, ↓lc_enum, ↓for_enum, ↓q_tAug3, r3AddI, ↓datD_pair, datD_pair, eqv_pair, ↓m3Index_ref, wipe3, ↓len_tup, ↓len_rol, ↓c3Len_tup, ↓c3Len_rol, ↓c3Len_ref, ↓c3Int_int, ↓c3Int_bl, ↓c3Abs_int, ↓c3All_ref, ↓c3Any_ref, ↓c3Isi_tl, ↓c3Isi_ty, ↓m3Append_ref, ↓s3Lst_ref, ↓r3Is_non, ↓r3IsNot_non, atI_0, atI_1, atI_2, atI_3, atI_4, tyD_tup, tyD_int, tyD_bl, mc_bool, mc_int, mc_str, mc_tuple, mc_list, mc_dict, ib_NoneType_bool, ib_NoneType_int, ib_NoneType_str, ib_NoneType_tuple, ib_NoneType_list, ib_NoneType_dict, ib_bool_bool, ib_bool_int, ib_bool_str, ib_bool_tuple, ib_bool_list, ib_bool_dict, ib_int_bool, ib_int_int, ib_int_str, ib_int_tuple, ib_int_list, ib_int_dict, ib_str_bool, ib_str_int, ib_str_str, ib_str_tuple, ib_str_list, ib_str_dict, ib_tuple_bool, ib_tuple_int, ib_tuple_str, ib_tuple_tuple, ib_tuple_list, ib_tuple_dict, ib_list_bool, ib_list_int, ib_list_str, ib_list_tuple, ib_list_list, ib_list_dict, ib_dict_bool, ib_dict_int, ib_dict_str, ib_dict_tuple, ib_dict_list, ib_dict_dict, tyD_str, tyD_non, tyD_rol, Bool.or_false, Bool.false_or, Bool.or_true, Bool.true_or, ↓truD_bl, ↓truD_int, List.getElem?_cons_zero, List.getElem?_cons_succ, List.set_cons_zero, List.set_cons_succ, Option.some.injEq, L3.D.bl.injEq, L3.D.int.injEq, L3.D.ref.injEq, L3.D.tup.injEq, L3.D.ty.injEq, L3.D.str.injEq, List.cons.injEq, and_true, true_and, exists_eq_left, exists_eq_left', exists_eq, exists_eq', exists_and_left, exists_and_right, exists_const, and_assoc, exists_eq_right_right, exists_eq_right, ↓ite_both, decide_eq_true_eq, reduceCtorEq, false_and, and_false, exists_false, not_false_eq_true, not_true_eq_false, Bool.false_eq_true, implies_true, forall_const, true_implies, false_implies, Bool.not_eq_true, Bool.not_true, Bool.not_false, decide_true, decide_false, Bool.not_eq_true', Bool.not_eq_false', Bool.not_eq_false, if_true, if_false, Bool.and_true, Bool.true_and, Bool.and_false, Bool.false_and, r3Eq, r3Ne]
    refine lcb_map (fun d => .bl (isNumB p d)) trivial (Nat.le_trans ta.len (by decide)) ?_ ?_
    · intro i d R hd hR
      simp -implicitDefEqProofs only [sp_is_num, ↓ex_bl, ↓ex_int, ↓ex_str, ↓ex_ref, ↓ex_tup, ↓ex_some, ↓ex_eq, ↓ex_eq', ↓ex_1, ↓ex_2, ↓ex_3, ↓ex_4, ↓ex_5, ↓ite_tt, ↓ite_ff, ↓v3_0, ↓v3_s, ↓eq_int, ↓ne_int, ↓eq_bl, ↓ne_bl, ↓eq_pair, ↓ne_pair, eqv_bool, eqv_str, ↓pow_lit, ↓ix_t0, ↓ix_t1, ↓ix_tup, ↓ix_it, ↓q_tC3, ↓q_tOp3, ↓q_tUn3, ↓q_tTest3, ↓q_tChain3, ↓q_tTruth3, ↓q_tAnd3, ↓q_tOr3, ↓q_tNot3, ↓q_tAndV3, ↓q_tOrV3, ↓q_tNotV3, ↓q_tIf3, ↓q_tNil3, ↓q_tCons3, ↓q_tTup3, ↓q_tLst3, ↓q_tNoPart3, ↓q_tPart3, ↓q_tSl3, ↓q_tRev3, ↓r3Rev_tup, ↓r3IsNot_bl, ↓r3Is_bl, ↓r3Sl_tup, ↓c3List_tup, ↓c3List_ref, ↓q_tCB3, ↓q_tBM3, ↓q_tBM03, ↓q_tNext3, ↓q_tSeq3, ↓q_tDrop3, ↓q_tRet3, ↓q_tRetN3, ↓q_tIfS3, ↓q_gName3, ↓gnil_eq, ↓gcons_eq, ↓q_gTup3, ↓q_gSub3, ↓q_tAsg3, ↓q_tPar3, ↓q_tYes3, ↓q_tCall3, ↓q_tTryAs3, ↓q_goneE_nx, ↓q_goneE_rt, ↓q_c3IsE, ↓is_bl, ↓c3Str_int, ↓q_tRaise3, ↓q_spA0, ↓q_spA1, ↓q_spA2, ↓q_spA3, ↓q_spA4, ↓q_spA5, ↓q_endF_rt, ↓q_endF_nx, ↓q_endF_xx, r3Lt, r3Le, r3Gt, r3Ge, r3Mod, r3Div, r3Pow, r3Sub, ↓r3I_int, ↓r3I0_int, ↓r3Add_int, ↓r3Add_tup, ↓r3Add_ref, ↓r3Mul_int, ↓r3Mul_ref, datD_non, ↓datD_bl, ↓datD_int, eqv_int, ↓items_tup, ↓items_rol, ↓items_new, ↓len_new, ↓mupd_same, L3.MO.lst.injEq, List.length_cons, List.length_nil, Nat.reduceAdd, Nat.zero_add, sizeLine_eq, Nat.reduceLeDiff, Nat.reducePow, Int.reduceLT, Int.reduceLE, Int.reducePow, Int.reduceToNat, Int.reduceNeg, Int.reduceAdd, Int.cast_ofNat_Int, Int.reduceSub, Int.reduceMul, Nat.reduceMul, Nat.reduceLT, cpow_lit, List.length_append, List.length_map, ↓u3Neg_int, fdiv_pos, ↓q_tDict0, ix_1_0, ix_2_0, ix_2_1, ix_3_0, ix_3_1, ix_3_2, ix_4_0, ix_4_1, ix_4_2, ix_4_3, ix_5_0, ix_5_1, ix_5_2, ix_5_3, ix_5_4, decide_eq_false_iff_not, ↓lc_seq, ↓lc_r1, ↓lc_r2, ↓for_seq, ↓for_r1, ↓for_r2, ↓c3Tuple_it, ↓c3Min2_int, ↓c3Max2_int, ↓m3Pop_ref, ↓lc_zip, ↓for_zip, ↓lc_enum, ↓for_enum, ↓q_tAug3, r3AddI, ↓datD_pair, datD_pair, eqv_pair, ↓m3Index_ref, wipe3, ↓len_tup, ↓len_rol, ↓c3Len_tup, ↓c3Len_rol, ↓c3Len_ref, ↓c3Int_int, ↓c3Int_bl, ↓c3Abs_int, ↓c3All_ref, ↓c3Any_ref, ↓c3Isi_tl, ↓c3Isi_ty, ↓m3Append_ref, ↓s3Lst_ref, ↓r3Is_non, ↓r3IsNot_non, atI_0, atI_1, atI_2, atI_3, atI_4, tyD_tup, tyD_int, tyD_bl, mc_bool, mc_int, mc_str, mc_tuple, mc_list, mc_dict, ib_NoneType_bool, ib_NoneType_int, ib_NoneType_str, ib_NoneType_tuple, ib_NoneType_list, ib_NoneType_dict, ib_bool_bool, ib_bool_int, ib_bool_str, ib_bool_tuple, ib_bool_list, ib_bool_dict, ib_int_bool, ib_int_int, ib_int_str, ib_int_tuple, ib_int_list, ib_int_dict, ib_str_bool, ib_str_int, ib_str_str, ib_str_tuple, ib_str_list, ib_str_dict, ib_tuple_bool, ib_tuple_int, ib_tuple_str, ib_tuple_tuple, ib_tuple_list, ib_tuple_dict, ib_list_bool, ib_list_int, ib_list_str, ib_list_tuple, ib_list_list, ib_list_dict, ib_dict_bool, ib_dict_int, ib_dict_str, ib_dict_tuple, ib_dict_list, ib_dict_dict, tyD_str, tyD_non, tyD_rol, Bool.or_false, Bool.false_or, Bool.or_true, Bool.true_or, ↓truD_bl, ↓truD_int, List.getElem?_cons_zero, List.getElem?_cons_succ, List.set_cons_zero, List.set_cons_succ, Option.some.injEq, L3.D.bl.injEq, L3.D.int.injEq, L3.D.ref.injEq, L3.D.tup.injEq, L3.D.ty.injEq, L3.D.str.injEq, List.cons.injEq, and_true, true_and, exists_eq_left, exists_eq_left', exists_eq, exists_eq', exists_and_left, exists_and_right, exists_const, and_assoc, exists_eq_right_right, exists_eq_right, ↓ite_both, decide_eq_true_eq, reduceCtorEq, false_and, and_false, exists_false, not_false_eq_true, not_true_eq_false, Bool.false_eq_true, implies_true, forall_const, true_implies, false_implies, Bool.not_eq_true, Bool.not_true, Bool.not_false, decide_true, decide_false, Bool.not_eq_true', Bool.not_eq_false', Bool.not_eq_false, if_true, if_false, Bool.and_true, Bool.true_and, Bool.and_false, Bool.false_and, r3Eq, r3Ne]
      exact ⟨(ta.mem (List.mem_of_getElem? hd)).ty1, hR⟩
    · intro l hl
      have s1 : MSub M (mupd M l (.lst (es.map fun d => D.bl (isNumB p d)))) := MSub.new .refl hl
      have eb : blsD (es.map fun d => D.bl (isNumB p d)) = some (es.map (isNumB p)) := by
        have := blsD_map (es.map (isNumB p))
        rw [List.map_map] at this
        exact this
      simp -implicitDefEqProofs only [↓ex_bl, ↓ex_int, ↓ex_str, ↓ex_ref, ↓ex_tup, ↓ex_some, ↓ex_eq, ↓ex_eq', ↓ex_1, ↓ex_2, ↓ex_3, ↓ex_4, ↓ex_5, ↓ite_tt, ↓ite_ff, ↓v3_0, ↓v3_s, ↓eq_int, ↓ne_int, ↓eq_bl, ↓ne_bl, ↓eq_pair, ↓ne_pair, eqv_bool, eqv_str, ↓pow_lit, ↓ix_t0, ↓ix_t1, ↓ix_tup, ↓ix_it, ↓q_tC3, ↓q_tOp3, ↓q_tUn3, ↓q_tTest3, ↓q_tChain3, ↓q_tTruth3, ↓q_tAnd3, ↓q_tOr3, ↓q_tNot3, ↓q_tAndV3, ↓q_tOrV3, ↓q_tNotV3, ↓q_tIf3, ↓q_tNil3, ↓q_tCons3, ↓q_tTup3, ↓q_tLst3, ↓q_tNoPart3, ↓q_tPart3, ↓q_tSl3, ↓q_tRev3, ↓r3Rev_tup, ↓r3IsNot_bl, ↓r3Is_bl, ↓r3Sl_tup, ↓c3List_tup, ↓c3List_ref, ↓q_tCB3, ↓q_tBM3, ↓q_tBM03, ↓q_tNext3, ↓q_tSeq3, ↓q_tDrop3, ↓q_tRet3, ↓q_tRetN3, ↓q_tIfS3, ↓q_gName3, ↓gnil_eq, ↓gcons_eq, ↓q_gTup3, ↓q_gSub3, ↓q_tAsg3, ↓q_tPar3, ↓q_tYes3, ↓q_tCall3, ↓q_tTryAs3, ↓q_goneE_nx, ↓q_goneE_rt, ↓q_c3IsE, ↓is_bl, ↓c3Str_int, ↓q_tRaise3, ↓q_spA0, ↓q_spA1, ↓q_spA2, ↓q_spA3, ↓q_spA4, ↓q_spA5, ↓q_endF_rt, ↓q_endF_nx, ↓q_endF_xx, r3Lt, r3Le, r3Gt, r3Ge, r3Mod, r3Div, r3Pow, r3Sub, ↓r3I_int, ↓r3I0_int, ↓r3Add_int, ↓r3Add_tup, ↓r3Add_ref, ↓r3Mul_int, ↓r3Mul_ref, datD_non, ↓datD_bl, ↓datD_int, eqv_int, ↓items_tup, ↓items_rol, ↓items_new, ↓len_new, ↓mupd_same, L3.MO.lst.injEq, List.length_cons, List.length_nil, Nat.reduceAdd, Nat.zero_add, sizeLine_eq, Nat.reduceLeDiff, Nat.reducePow, Int.reduceLT, Int.reduceLE, Int.reducePow, Int.reduceToNat, Int.reduceNeg, Int.reduceAdd, Int.cast_ofNat_Int, Int.reduceSub, Int.reduceMul, Nat.reduceMul, Nat.reduceLT, cpow_lit, List.length_append, List.length_map, ↓u3Neg_int, fdiv_pos, ↓q_tDict0, ix_1_0, ix_2_0, ix_2_1, ix_3_0, ix_3_1, ix_3_2, ix_4_0, ix_4_1, ix_4_2, ix_4_3, ix_5_0, ix_5_1, ix_5_2, ix_5_3, ix_5_4, decide_eq_false_iff_not, ↓lc_seq, ↓lc_r1, ↓lc_r2, ↓for_seq, ↓for_r1, ↓for_r2, ↓c3Tuple_it, ↓c3Min2_int, ↓c3Max2_int, ↓m3Pop_ref, ↓lc_zip, ↓for_zip, ↓lc_enum, ↓for_enum, ↓q_tAug3, r3AddI, ↓datD_pair, datD_pair, eqv_pair, ↓m3Index_ref, wipe3, ↓len_tup, ↓len_rol, ↓c3Len_tup, ↓c3Len_rol, ↓c3Len_ref, ↓c3Int_int, ↓c3Int_bl, ↓c3Abs_int, ↓c3All_ref, ↓c3Any_ref, ↓c3Isi_tl, ↓c3Isi_ty, ↓m3Append_ref, ↓s3Lst_ref, ↓r3Is_non, ↓r3IsNot_non, atI_0, atI_1, atI_2, atI_3, atI_4, tyD_tup, tyD_int, tyD_bl, mc_bool, mc_int, mc_str, mc_tuple, mc_list, mc_dict, ib_NoneType_bool, ib_NoneType_int, ib_NoneType_str, ib_NoneType_tuple, ib_NoneType_list, ib_NoneType_dict, ib_bool_bool, ib_bool_int, ib_bool_str, ib_bool_tuple, ib_bool_list, ib_bool_dict, ib_int_bool, ib_int_int, ib_int_str, ib_int_tuple, ib_int_list, ib_int_dict, ib_str_bool, ib_str_int, ib_str_str, ib_str_tuple, ib_str_list, ib_str_dict, ib_tuple_bool, ib_tuple_int, ib_tuple_str, ib_tuple_tuple, ib_tuple_list, ib_tuple_dict, ib_list_bool, ib_list_int, ib_list_str, ib_list_tuple, ib_list_list, ib_list_dict, ib_dict_bool, ib_dict_int, ib_dict_str, ib_dict_tuple, ib_dict_list, ib_dict_dict, tyD_str, tyD_non, tyD_rol, Bool.or_false, Bool.false_or, Bool.or_true, Bool.true_or, ↓truD_bl, ↓truD_int, List.getElem?_cons_zero, List.getElem?_cons_succ, List.set_cons_zero, List.set_cons_succ, Option.some.injEq, L3.D.bl.injEq, L3.D.int.injEq, L3.D.ref.injEq, L3.D.tup.injEq, L3.D.ty.injEq, L3.D.str.injEq, List.cons.injEq, and_true, true_and, exists_eq_left, exists_eq_left', exists_eq, exists_eq', exists_and_left, exists_and_right, exists_const, and_assoc, exists_eq_right_right, exists_eq_right, ↓ite_both, decide_eq_true_eq, reduceCtorEq, false_and, and_false, exists_false, not_false_eq_true, not_true_eq_false, Bool.false_eq_true, implies_true, forall_const, true_implies, false_implies, Bool.not_eq_true, Bool.not_true, Bool.not_false, decide_true, decide_false, Bool.not_eq_true', Bool.not_eq_false', Bool.not_eq_false, if_true, if_false, Bool.and_true, Bool.true_and, Bool.and_false, Bool.false_and, r3Eq, r3Ne]
      refine ⟨_, eb, ?_⟩
      have e2 : (es.map (isNumB p)).all id = es.all (isNumB p) := by
        rw [List.all_map]
        rfl
      rw [e2]
      simp only [isPolyB] at q
      cases h : es.all (isNumB p) with
      | false =>
        rw [h, Bool.false_and] at q
        exact ⟨fun _ => ret_pure s1 q, fun z => (Bool.noConfusion z)⟩
      | true =>
        rw [h, Bool.true_and] at q
        refine ⟨fun z => (Bool.noConfusion z), fun _ => ⟨fun h0 => ret_pure s1 ?_, fun h0 => ?_⟩⟩
        · have : es = [] := List.length_eq_zero_iff.mp (by omega)
          subst this
          exact q
        · cases e : es.getLast? with
          | none =>
            rw [List.getLast?_eq_none_iff] at e
            subst e
            exact absurd rfl h0
          | some d =>
            obtain ⟨x, rfl, hx⟩ := nu_of hg.lt.1 (List.all_eq_true.mp h d (List.mem_of_getLast? e))
            obtain ⟨c, f, ey⟩ := nu_pair x
            have iz := (isZ_pair hx ey).1
            refine ⟨_, atI_last e, nuP x, datD_nu, .tuple [.int 0, .int 1], datD_pair 0 1, ret_pure s1 ?_⟩
            have ep : nuP x = .tuple [.int c, .int f] := by
              have := datD_nu (M := M) (x := x)
              rw [ey, datD_pair] at this
              exact (Option.some.inj this).symm
            rw [ep, eqv_pair, iz]
            unfold lastOk at q
            rw [e] at q
            rw [← isNoughtD_nu hx]
            exact q
  | _ => simp -implicitDefEqProofs only [isTupD, ↓ex_bl, ↓ex_int, ↓ex_str, ↓ex_ref, ↓ex_tup, ↓ex_some, ↓ex_eq, ↓ex_eq', ↓ex_1, ↓ex_2, ↓ex_3, ↓ex_4, ↓ex_5, ↓ite_tt, ↓ite_ff, ↓v3_0, ↓v3_s, ↓eq_int, ↓ne_int, ↓eq_bl, ↓ne_bl, ↓eq_pair, ↓ne_pair, eqv_bool, eqv_str, ↓pow_lit, ↓ix_t0, ↓ix_t1, ↓ix_tup, ↓ix_it, ↓q_tC3, ↓q_tOp3, ↓q_tUn3, ↓q_tTest3, ↓q_tChain3, ↓q_tTruth3, ↓q_tAnd3, ↓q_tOr3, ↓q_tNot3, ↓q_tAndV3, ↓q_tOrV3, ↓q_tNotV3, ↓q_tIf3, ↓q_tNil3, ↓q_tCons3, ↓q_tTup3, ↓q_tLst3, ↓q_tNoPart3, ↓q_tPart3, ↓q_tSl3, ↓q_tRev3, ↓r3Rev_tup, ↓r3IsNot_bl, ↓r3Is_bl, ↓r3Sl_tup, ↓c3List_tup, ↓c3List_ref, ↓q_tCB3, ↓q_tBM3, ↓q_tBM03, ↓q_tNext3, ↓q_tSeq3, ↓q_tDrop3, ↓q_tRet3, ↓q_tRetN3, ↓q_tIfS3, ↓q_gName3, ↓gnil_eq, ↓gcons_eq, ↓q_gTup3, ↓q_gSub3, ↓q_tAsg3, ↓q_tPar3, ↓q_tYes3, ↓q_tCall3, ↓q_tTryAs3, ↓q_goneE_nx, ↓q_goneE_rt, ↓q_c3IsE, ↓is_bl, ↓c3Str_int, ↓q_tRaise3, ↓q_spA0, ↓q_spA1, ↓q_spA2, ↓q_spA3, ↓q_spA4, ↓q_spA5, ↓q_endF_rt, ↓q_endF_nx, ↓q_endF_xx, r3Lt, r3Le, r3Gt, r3Ge, r3Mod, r3Div, r3Pow, r3Sub, ↓r3I_int, ↓r3I0_int, ↓r3Add_int, ↓r3Add_tup, ↓r3Add_ref, ↓r3Mul_int, ↓r3Mul_ref, datD_non, ↓datD_bl, ↓datD_int, eqv_int, ↓items_tup, ↓items_rol, ↓items_new, ↓len_new, ↓mupd_same, L3.MO.lst.injEq, List.length_cons, List.length_nil, Nat.reduceAdd, Nat.zero_add, sizeLine_eq, Nat.reduceLeDiff, Nat.reducePow, Int.reduceLT, Int.reduceLE, Int.reducePow, Int.reduceToNat, Int.reduceNeg, Int.reduceAdd, Int.cast_ofNat_Int, Int.reduceSub, Int.reduceMul, Nat.reduceMul, Nat.reduceLT, cpow_lit, List.length_append, List.length_map, ↓u3Neg_int, fdiv_pos, ↓q_tDict0, ix_1_0, ix_2_0, ix_2_1, ix_3_0, ix_3_1, ix_3_2, ix_4_0, ix_4_1, ix_4_2, ix_4_3, ix_5_0, ix_5_1, ix_5_2, ix_5_3, ix_5_4, decide_eq_false_iff_not, ↓lc_seq, ↓lc_r1, ↓lc_r2, ↓for_seq, ↓for_r1, ↓for_r2, ↓c3Tuple_it, ↓c3Min2_int, ↓c3Max2_int, ↓m3Pop_ref, ↓lc_zip, ↓for_zip, ↓lc_enum, ↓for_enum, ↓q_tAug3, r3AddI, ↓datD_pair, datD_pair, eqv_pair, ↓m3Index_ref, wipe3, ↓len_tup, ↓len_rol, ↓c3Len_tup, ↓c3Len_rol, ↓c3Len_ref, ↓c3Int_int, ↓c3Int_bl, ↓c3Abs_int, ↓c3All_ref, ↓c3Any_ref, ↓c3Isi_tl, ↓c3Isi_ty, ↓m3Append_ref, ↓s3Lst_ref, ↓r3Is_non, ↓r3IsNot_non, atI_0, atI_1, atI_2, atI_3, atI_4, tyD_tup, tyD_int, tyD_bl, mc_bool, mc_int, mc_str, mc_tuple, mc_list, mc_dict, ib_NoneType_bool, ib_NoneType_int, ib_NoneType_str, ib_NoneType_tuple, ib_NoneType_list, ib_NoneType_dict, ib_bool_bool, ib_bool_int, ib_bool_str, ib_bool_tuple, ib_bool_list, ib_bool_dict, ib_int_bool, ib_int_int, ib_int_str, ib_int_tuple, ib_int_list, ib_int_dict, ib_str_bool, ib_str_int, ib_str_str, ib_str_tuple, ib_str_list, ib_str_dict, ib_tuple_bool, ib_tuple_int, ib_tuple_str, ib_tuple_tuple, ib_tuple_list, ib_tuple_dict, ib_list_bool, ib_list_int, ib_list_str, ib_list_tuple, ib_list_list, ib_list_dict, ib_dict_bool, ib_dict_int, ib_dict_str, ib_dict_tuple, ib_dict_list, ib_dict_dict, tyD_str, tyD_non, tyD_rol, Bool.or_false, Bool.false_or, Bool.or_true, Bool.true_or, ↓truD_bl, ↓truD_int, List.getElem?_cons_zero, List.getElem?_cons_succ, List.set_cons_zero, List.set_cons_succ, Option.some.injEq, L3.D.bl.injEq, L3.D.int.injEq, L3.D.ref.injEq, L3.D.tup.injEq, L3.D.ty.injEq, L3.D.str.injEq, List.cons.injEq, and_true, true_and, exists_eq_left, exists_eq_left', exists_eq, exists_eq', exists_and_left, exists_and_right, exists_const, and_assoc, exists_eq_right_right, exists_eq_right, ↓ite_both, decide_eq_true_eq, reduceCtorEq, false_and, and_false, exists_false, not_false_eq_true, not_true_eq_false, Bool.false_eq_true, implies_true, forall_const, true_implies, false_implies, Bool.not_eq_true, Bool.not_true, Bool.not_false, decide_true, decide_false, Bool.not_eq_true', Bool.not_eq_false', Bool.not_eq_false, if_true, if_false, Bool.and_true, Bool.true_and, Bool.and_false, Bool.false_and, r3Eq, r3Ne]; exact ret_same q

def sp_check_polys (K : PySem.W.Frag) : Sp3 := spA2 fun g a M Q X => ∃ p, g = .int p ∧ Gd p ∧ ∃ es, itemsD M a = some es ∧ es.length ≤ 1000000 ∧ (∀ d ∈ es, tyA M d) ∧ (es.all (isPolyB p) = true → Q .non M) ∧ (es.all (isPolyB p) = false → X (.ref (He.ga K "NoPolynomial")) [] M)
abbrev N_check_polys : List Str := ["ground", "some", "one"]
def tr_check_polys (K : PySem.W.Frag) : TS3 := (tIfS3 (tNot3 (tTruth3 (tCB3 c3All (tCons3 (tLc3 (iSeq3 (tVar3 1)) (gName3 2) tYes3 (tCall3 (sp_is_poly K) (tCons3 (tVar3 0) (tCons3 (tVar3 2) tNil3))) [2]) tNil3)))) (tRaise3 (He.ga K "NoPolynomial")) tNext3)
theorem rd_check_polys (K : PySem.W.Frag) : ∀ ds M Q E, sp_check_polys K ds M Q E → tr_check_polys K (endF M Q E) (start3 N_check_polys ds) M := by
  rintro ds M Q E ⟨g, a, rfl, p, rfl, hg, es, ie, hl, he, q1, q2⟩
  unfold tr_check_polys
  simp only [start3, List.map_cons, List.map_nil, List.length_cons, List.length_nil, List.cons_append, List.nil_append, List.replicate_succ, List.replicate_zero, Nat.reduceAdd, Nat.reduceSub, Nat.zero_add]
  simp -implicitDefEqProofs only [ie, ↓ex_bl, ↓ex_int, ↓ex_str, ↓ex_ref, ↓ex_tup, ↓ex_some, ↓ex_eq, ↓ex_eq', ↓ex_1, ↓ex_2, ↓ex_3, ↓ex_4, ↓ex_5, ↓ite_tt, ↓ite_ff, ↓v3_0, ↓v3_s, ↓eq_int, ↓ne_int, ↓eq_bl, ↓ne_bl, ↓eq_pair, ↓ne_pair, eqv_bool, eqv_str, ↓pow_lit, ↓ix_t0, ↓ix_t1, ↓ix_tup, ↓ix_it, ↓q_tC3, ↓q_tOp3, ↓q_tUn3, ↓q_tTest3, ↓q_tChain3, ↓q_tTruth3, ↓q_tAnd3, ↓q_tOr3, ↓q_tNot3, ↓q_tAndV3, ↓q_tOrV3, ↓q_tNotV3, ↓q_tIf3, ↓q_tNil3, ↓q_tCons3, ↓q_tTup3, ↓q_tLst3, ↓q_tNoPart3, ↓q_tPart3, ↓q_tSl3, ↓q_tRev3, ↓r3Rev_tup, ↓r3IsNot_bl, ↓r3Is_bl, ↓r3Sl_tup, ↓c3List_tup, ↓c3List_ref, ↓q_tCB3, ↓q_tBM3, ↓q_tBM03, ↓q_tNext3, ↓q_tSeq3, ↓q_tDrop3, ↓q_tRet3, ↓q_tRetN3, ↓q_tIfS3, ↓q_gName3, ↓gnil_eq, ↓gcons_eq, ↓q_gTup3, ↓q_gSub3, ↓q_tAsg3, ↓q_tPar3, ↓q_tYes3, ↓q_tCall3, ↓q_tTryAs3, ↓q_goneE_nx, ↓q_goneE_rt, ↓q_c3IsE, ↓is_bl, ↓c3Str_int, ↓q_tRaise3, ↓q_spA0, ↓q_spA1, ↓q_spA2, ↓q_spA3, ↓q_spA4, ↓q_spA5, ↓q_endF_rt, ↓q_endF_nx, ↓q_endF_xx, r3Lt, r3Le, r3Gt, r3Ge, r3Mod, r3Div, r3Pow, r3Sub, ↓r3I_int, ↓r3I0_int, ↓r3Add_int, ↓r3Add_tup, ↓r3Add_ref, ↓r3Mul_int, ↓r3Mul_ref, datD_non, ↓datD_bl, ↓datD_int, eqv_int, ↓items_tup, ↓items_rol, ↓items_new, ↓len_new, ↓mupd_same, L3.MO.lst.injEq, List.length_cons, List.length_nil, Nat.reduceAdd, Nat.zero_add, sizeLine_eq, Nat.reduceLeDiff, Nat.reducePow, Int.reduceLT, Int.reduceLE, Int.reducePow, Int.reduceToNat, Int.reduceNeg, Int.reduceAdd, Int.cast_ofNat_Int, Int.reduceSub, Int.reduceMul, Nat.reduceMul, Nat.reduceLT, cpow_lit, List.length_append, List.length_map, ↓u3Neg_int, fdiv_pos, ↓q_tDict0, ix_1_0, ix_2_0, ix_2_1, ix_3_0, ix_3_1, ix_3_2, ix_4_0, ix_4_1, ix_4_2, ix_4_3, ix_5_0, ix_5_1, ix_5_2, ix_5_3, ix_5_4, decide_eq_false_iff_not, ↓lc_seq, ↓lc_r1, ↓lc_r2, ↓for_seq, ↓for_r1, ↓for_r2, ↓c3Tuple_it, ↓c3Min2_int, ↓c3Max2_int, ↓m3Pop_ref, ↓lc_zip, ↓for_zip, ↓lc_enum, ↓for_enum, ↓q_tAug3, r3AddI, ↓datD_pair, datD_pair, eqv_pair, ↓m3Index_ref, wipe3, ↓len_tup, ↓len_rol, ↓c3Len_tup, ↓c3Len_rol, ↓c3Len_ref, ↓c3Int_int, ↓c3Int_bl, ↓c3Abs_int, ↓c3All_ref, ↓c3Any_ref, ↓c3Isi_tl, ↓c3Isi_ty, ↓m3Append_ref, ↓s3Lst_ref, ↓r3Is_non, ↓r3IsNot_non, atI_0, atI_1, atI_2, atI_3, atI_4, tyD_tup, tyD_int, tyD_bl, mc_bool, mc_int, mc_str, mc_tuple, mc_list, mc_dict, ib_NoneType_bool, ib_NoneType_int, ib_NoneType_str, ib_NoneType_tuple, ib_NoneType_list, ib_NoneType_dict, ib_bool_bool, ib_bool_int, ib_bool_str, ib_bool_tuple, ib_bool_list, ib_bool_dict, ib_int_bool, ib_int_int, ib_int_str, ib_int_tuple, ib_int_list, ib_int_dict, ib_str_bool, ib_str_int, ib_str_str, ib_str_tuple, ib_str_list, ib_str_dict, ib_tuple_bool, ib_tuple_int, ib_tuple_str, ib_tuple_tuple, ib_tuple_list, ib_tuple_dict, ib_list_bool, ib_list_int, ib_list_str, ib_list_tuple, ib_list_list, ib_list_dict, ib_dict_bool, ib_dict_int, ib_dict_str, ib_dict_tuple, ib_dict_list, ib_dict_dict, tyD_str, tyD_non, tyD_rol, Bool.or_false, Bool.false_or, Bool.or_true, Bool.true_or, ↓truD_bl, ↓truD_int, List.getElem?_cons_zero, List.getElem?_cons_succ, List.set_cons_zero, List.set_cons_succ, Option.some.injEq, L3.D.bl.injEq, L3.D.int.injEq, L3.D.ref.injEq, L3.D.tup.injEq, L3.D.ty.injEq, L3.D.str.injEq, List.cons.injEq, and_true, true_and, exists_eq_left, exists_eq_left', exists_eq, exists_eq', exists_and_left, exists_and_right, exists_const, and_assoc, exists_eq_right_right, exists_eq_right, ↓ite_both, decide_eq_true_eq, reduceCtorEq, false_and, and_false, exists_false, not_false_eq_true, not_true_eq_false, Bool.false_eq_true, implies_true, forall_const, true_implies, false_implies, Bool.not_eq_true, Bool.not_true, Bool.not_false, decide_true, decide_false, Bool.not_eq_true', Bool.not_eq_false', Bool.not_eq_false, if_true, if_false, Bool.and_true, Bool.true_and, Bool.and_false, Bool.false_and, r3Eq, r3Ne]
  refine lcb_map (fun d => .bl (isPolyB p d)) ie (Nat.le_trans hl (by decide)) ?_ ?_
  · intro i d R hd hR
    simp -implicitDefEqProofs only [sp_is_poly, ↓ex_bl, ↓ex_int, ↓ex_str, ↓ex_ref, ↓ex_tup, ↓ex_some, ↓ex_eq, ↓ex_eq', ↓ex_1, ↓ex_2, ↓ex_3, ↓ex_4, ↓ex_5, ↓ite_tt, ↓ite_ff, ↓v3_0, ↓v3_s, ↓eq_int, ↓ne_int, ↓eq_bl, ↓ne_bl, ↓eq_pair, ↓ne_pair, eqv_bool, eqv_str, ↓pow_lit, ↓ix_t0, ↓ix_t1, ↓ix_tup, ↓ix_it, ↓q_tC3, ↓q_tOp3, ↓q_tUn3, ↓q_tTest3, ↓q_tChain3, ↓q_tTruth3, ↓q_tAnd3, ↓q_tOr3, ↓q_tNot3, ↓q_tAndV3, ↓q_tOrV3, ↓q_tNotV3, ↓q_tIf3, ↓q_tNil3, ↓q_tCons3, ↓q_tTup3, ↓q_tLst3, ↓q_tNoPart3, ↓q_tPart3, ↓q_tSl3, ↓q_tRev3, ↓r3Rev_tup, ↓r3IsNot_bl, ↓r3Is_bl, ↓r3Sl_tup, ↓c3List_tup, ↓c3List_ref, ↓q_tCB3, ↓q_tBM3, ↓q_tBM03, ↓q_tNext3, ↓q_tSeq3, ↓q_tDrop3, ↓q_tRet3, ↓q_tRetN3, ↓q_tIfS3, ↓q_gName3, ↓gnil_eq, ↓gcons_eq, ↓q_gTup3, ↓q_gSub3, ↓q_tAsg3, ↓q_tPar3, ↓q_tYes3, ↓q_tCall3, ↓q_tTryAs3, ↓q_goneE_nx, ↓q_goneE_rt, ↓q_c3IsE, ↓is_bl, ↓c3Str_int, ↓q_tRaise3, ↓q_spA0, ↓q_spA1, ↓q_spA2, ↓q_spA3, ↓q_spA4, ↓q_spA5, ↓q_endF_rt, ↓q_endF_nx, ↓q_endF_xx, r3Lt, r3Le, r3Gt, r3Ge, r3Mod, r3Div, r3Pow, r3Sub, ↓r3I_int, ↓r3I0_int, ↓r3Add_int, ↓r3Add_tup, ↓r3Add_ref, ↓r3Mul_int, ↓r3Mul_ref, datD_non, ↓datD_bl, ↓datD_int, eqv_int, ↓items_tup, ↓items_rol, ↓items_new, ↓len_new, ↓mupd_same, L3.MO.lst.injEq, List.length_cons, List.length_nil, Nat.reduceAdd, Nat.zero_add, sizeLine_eq, Nat.reduceLeDiff, Nat.reducePow, Int.reduceLT, Int.reduceLE, Int.reducePow, Int.reduceToNat, Int.reduceNeg, Int.reduceAdd, Int.cast_ofNat_Int, Int.reduceSub, Int.reduceMul, Nat.reduceMul, Nat.reduceLT, cpow_lit, List.length_append, List.length_map, ↓u3Neg_int, fdiv_pos, ↓q_tDict0, ix_1_0, ix_2_0, ix_2_1, ix_3_0, ix_3_1, ix_3_2, ix_4_0, ix_4_1, ix_4_2, ix_4_3, ix_5_0, ix_5_1, ix_5_2, ix_5_3, ix_5_4, decide_eq_false_iff_not, ↓lc_seq, ↓lc_r1, ↓lc_r2, ↓for_seq, ↓for_r1, ↓for_r2, ↓c3Tuple_it, ↓c3Min2_int, ↓c3Max2_int, ↓m3Pop_ref, ↓lc_zip, ↓for_zip, ↓lc_enum, ↓for_enum, ↓q_tAug3, r3AddI, ↓datD_pair, datD_pair, eqv_pair, ↓m3Index_ref, wipe3, ↓len_tup, ↓len_rol, ↓c3Len_tup, ↓c3Len_rol, ↓c3Len_ref, ↓c3Int_int, ↓c3Int_bl, ↓c3Abs_int, ↓c3All_ref, ↓c3Any_ref, ↓c3Isi_tl, ↓c3Isi_ty, ↓m3Append_ref, ↓s3Lst_ref, ↓r3Is_non, ↓r3IsNot_non, atI_0, atI_1, atI_2, atI_3, atI_4, tyD_tup, tyD_int, tyD_bl, mc_bool, mc_int, mc_str, mc_tuple, mc_list, mc_dict, ib_NoneType_bool, ib_NoneType_int, ib_NoneType_str, ib_NoneType_tuple, ib_NoneType_list, ib_NoneType_dict, ib_bool_bool, ib_bool_int, ib_bool_str, ib_bool_tuple, ib_bool_list, ib_bool_dict, ib_int_bool, ib_int_int, ib_int_str, ib_int_tuple, ib_int_list, ib_int_dict, ib_str_bool, ib_str_int, ib_str_str, ib_str_tuple, ib_str_list, ib_str_dict, ib_tuple_bool, ib_tuple_int, ib_tuple_str, ib_tuple_tuple, ib_tuple_list, ib_tuple_dict, ib_list_bool, ib_list_int, ib_list_str, ib_list_tuple, ib_list_list, ib_list_dict, ib_dict_bool, ib_dict_int, ib_dict_str, ib_dict_tuple, ib_dict_list, ib_dict_dict, tyD_str, tyD_non, tyD_rol, Bool.or_false, Bool.false_or, Bool.or_true, Bool.true_or, ↓truD_bl, ↓truD_int, List.getElem?_cons_zero, List.getElem?_cons_succ, List.set_cons_zero, List.set_cons_succ, Option.some.injEq, L3.D.bl.injEq, L3.D.int.injEq, L3.D.ref.injEq, L3.D.tup.injEq, L3.D.ty.injEq, L3.D.str.injEq, List.cons.injEq, and_true, true_and, exists_eq_left, exists_eq_left', exists_eq, exists_eq', exists_and_left, exists_and_right, exists_const, and_assoc, exists_eq_right_right, exists_eq_right, ↓ite_both, decide_eq_true_eq, reduceCtorEq, false_and, and_false, exists_false, not_false_eq_true, not_true_eq_false, Bool.false_eq_true, implies_true, forall_const, true_implies, false_implies, Bool.not_eq_true, Bool.not_true, Bool.not_false, decide_true, decide_false, Bool.not_eq_true', Bool.not_eq_false', Bool.not_eq_false, if_true, if_false, Bool.and_true, Bool.true_and, Bool.and_false, Bool.false_and, r3Eq, r3Ne]
    exact ⟨hg, he d (List.mem_of_getElem? hd), hR⟩
  · intro l hl
    have s1 : MSub M (mupd M l (.lst (es.map fun d => D.bl (isPolyB p d)))) := MSub.new .refl hl
    have eb : blsD (es.map fun d => D.bl (isPolyB p d)) = some (es.map (isPolyB p)) := by
      have := blsD_map (es.map (isPolyB p))
      rw [List.map_map] at this
      exact this
    simp -implicitDefEqProofs only [↓ex_bl, ↓ex_int, ↓ex_str, ↓ex_ref, ↓ex_tup, ↓ex_some, ↓ex_eq, ↓ex_eq', ↓ex_1, ↓ex_2, ↓ex_3, ↓ex_4, ↓ex_5, ↓ite_tt, ↓ite_ff, ↓v3_0, ↓v3_s, ↓eq_int, ↓ne_int, ↓eq_bl, ↓ne_bl, ↓eq_pair, ↓ne_pair, eqv_bool, eqv_str, ↓pow_lit, ↓ix_t0, ↓ix_t1, ↓ix_tup, ↓ix_it, ↓q_tC3, ↓q_tOp3, ↓q_tUn3, ↓q_tTest3, ↓q_tChain3, ↓q_tTruth3, ↓q_tAnd3, ↓q_tOr3, ↓q_tNot3, ↓q_tAndV3, ↓q_tOrV3, ↓q_tNotV3, ↓q_tIf3, ↓q_tNil3, ↓q_tCons3, ↓q_tTup3, ↓q_tLst3, ↓q_tNoPart3, ↓q_tPart3, ↓q_tSl3, ↓q_tRev3, ↓r3Rev_tup, ↓r3IsNot_bl, ↓r3Is_bl, ↓r3Sl_tup, ↓c3List_tup, ↓c3List_ref, ↓q_tCB3, ↓q_tBM3, ↓q_tBM03, ↓q_tNext3, ↓q_tSeq3, ↓q_tDrop3, ↓q_tRet3, ↓q_tRetN3, ↓q_tIfS3, ↓q_gName3, ↓gnil_eq, ↓gcons_eq, ↓q_gTup3, ↓q_gSub3, ↓q_tAsg3, ↓q_tPar3, ↓q_tYes3, ↓q_tCall3, ↓q_tTryAs3, ↓q_goneE_nx, ↓q_goneE_rt, ↓q_c3IsE, ↓is_bl, ↓c3Str_int, ↓q_tRaise3, ↓q_spA0, ↓q_spA1, ↓q_spA2, ↓q_spA3, ↓q_spA4, ↓q_spA5, ↓q_endF_rt, ↓q_endF_nx, ↓q_endF_xx, r3Lt, r3Le, r3Gt, r3Ge, r3Mod, r3Div, r3Pow, r3Sub, ↓r3I_int, ↓r3I0_int, ↓r3Add_int, ↓r3Add_tup, ↓r3Add_ref, ↓r3Mul_int, ↓r3Mul_ref, datD_non, ↓datD_bl, ↓datD_int, eqv_int, ↓items_tup, ↓items_rol, ↓items_new, ↓len_new, ↓mupd_same, L3.MO.lst.injEq, List.length_cons, List.length_nil, Nat.reduceAdd, Nat.zero_add, sizeLine_eq, Nat.reduceLeDiff, Nat.reducePow, Int.reduceLT, Int.reduceLE, Int.reducePow, Int.reduceToNat, Int.reduceNeg, Int.reduceAdd, Int.cast_ofNat_Int, Int.reduceSub, Int.reduceMul, Nat.reduceMul, Nat.reduceLT, cpow_lit, List.length_append, List.length_map, ↓u3Neg_int, fdiv_pos, ↓q_tDict0, ix_1_0, ix_2_0, ix_2_1, ix_3_0, ix_3_1, ix_3_2, ix_4_0, ix_4_1, ix_4_2, ix_4_3, ix_5_0, ix_5_1, ix_5_2, ix_5_3, ix_5_4, decide_eq_false_iff_not, ↓lc_seq, ↓lc_r1, ↓lc_r2, ↓for_seq, ↓for_r1, ↓for_r2, ↓c3Tuple_it, ↓c3Min2_int, ↓c3Max2_int, ↓m3Pop_ref, ↓lc_zip, ↓for_zip, ↓lc_enum, ↓for_enum, ↓q_tAug3, r3AddI, ↓datD_pair, datD_pair, eqv_pair, ↓m3Index_ref, wipe3, ↓len_tup, ↓len_rol, ↓c3Len_tup, ↓c3Len_rol, ↓c3Len_ref, ↓c3Int_int, ↓c3Int_bl, ↓c3Abs_int, ↓c3All_ref, ↓c3Any_ref, ↓c3Isi_tl, ↓c3Isi_ty, ↓m3Append_ref, ↓s3Lst_ref, ↓r3Is_non, ↓r3IsNot_non, atI_0, atI_1, atI_2, atI_3, atI_4, tyD_tup, tyD_int, tyD_bl, mc_bool, mc_int, mc_str, mc_tuple, mc_list, mc_dict, ib_NoneType_bool, ib_NoneType_int, ib_NoneType_str, ib_NoneType_tuple, ib_NoneType_list, ib_NoneType_dict, ib_bool_bool, ib_bool_int, ib_bool_str, ib_bool_tuple, ib_bool_list, ib_bool_dict, ib_int_bool, ib_int_int, ib_int_str, ib_int_tuple, ib_int_list, ib_int_dict, ib_str_bool, ib_str_int, ib_str_str, ib_str_tuple, ib_str_list, ib_str_dict, ib_tuple_bool, ib_tuple_int, ib_tuple_str, ib_tuple_tuple, ib_tuple_list, ib_tuple_dict, ib_list_bool, ib_list_int, ib_list_str, ib_list_tuple, ib_list_list, ib_list_dict, ib_dict_bool, ib_dict_int, ib_dict_str, ib_dict_tuple, ib_dict_list, ib_dict_dict, tyD_str, tyD_non, tyD_rol, Bool.or_false, Bool.false_or, Bool.or_true, Bool.true_or, ↓truD_bl, ↓truD_int, List.getElem?_cons_zero, List.getElem?_cons_succ, List.set_cons_zero, List.set_cons_succ, Option.some.injEq, L3.D.bl.injEq, L3.D.int.injEq, L3.D.ref.injEq, L3.D.tup.injEq, L3.D.ty.injEq, L3.D.str.injEq, List.cons.injEq, and_true, true_and, exists_eq_left, exists_eq_left', exists_eq, exists_eq', exists_and_left, exists_and_right, exists_const, and_assoc, exists_eq_right_right, exists_eq_right, ↓ite_both, decide_eq_true_eq, reduceCtorEq, false_and, and_false, exists_false, not_false_eq_true, not_true_eq_false, Bool.false_eq_true, implies_true, forall_const, true_implies, false_implies, Bool.not_eq_true, Bool.not_true, Bool.not_false, decide_true, decide_false, Bool.not_eq_true', Bool.not_eq_false', Bool.not_eq_false, if_true, if_false, Bool.and_true, Bool.true_and, Bool.and_false, Bool.false_and, r3Eq, r3Ne]
    refine ⟨_, eb, ?_⟩
    have e2 : (es.map (isPolyB p)).all id = es.all (isPolyB p) := by
      rw [List.all_map]
      rfl
    rw [e2]
    exact ⟨fun h => ret_x s1 (q2 h), fun h => ret_pure s1 (q1 h)⟩

def sp_made (K : PySem.W.Frag) : Sp3 := spA3 fun g t b M Q X => ∃ p, g = .int p ∧ ∃ i, t = .int i ∧ ∃ j, b = .int j ∧ (¬ 0 < p → 0 < j ∧ j.natAbs < 2 ^ 8900) ∧ Q (nuD (mkN p i j)) M
abbrev N_made : List Str := ["ground", "top", "bottom", "common"]
def tr_made (K : PySem.W.Frag) : TS3 := (tSeq3 (tIfS3 (tTest3 (tOp3 r3Gt (tVar3 0) (tC3 (.int 0)))) (tRet3 (tTup3 (tCons3 (tOp3 r3Mod (tVar3 1) (tVar3 0)) (tCons3 (tC3 (.int 1)) tNil3)))) tNext3) (tSeq3 (tAsg3 (tCall3 (sp_divisor K) (tCons3 (tCB3 c3Abs (tCons3 (tVar3 1) tNil3)) (tCons3 (tVar3 2) tNil3))) (gName3 3)) (tRet3 (tTup3 (tCons3 (tOp3 r3Div (tVar3 1) (tVar3 3)) (tCons3 (tOp3 r3Div (tVar3 2) (tVar3 3)) tNil3))))))
theorem rd_made (K : PySem.W.Frag) : ∀ ds M Q E, sp_made K ds M Q E → tr_made K (endF M Q E) (start3 N_made ds) M := by
  rintro ds M Q E ⟨g, t, b, rfl, p, rfl, i, rfl, j, rfl, hj, q⟩
  unfold tr_made
  simp only [start3, List.map_cons, List.map_nil, List.length_cons, List.length_nil, List.cons_append, List.nil_append, List.replicate_succ, List.replicate_zero, Nat.reduceAdd, Nat.reduceSub, Nat.zero_add]
  simp -implicitDefEqProofs only [sp_divisor, ↓ex_bl, ↓ex_int, ↓ex_str, ↓ex_ref, ↓ex_tup, ↓ex_some, ↓ex_eq, ↓ex_eq', ↓ex_1, ↓ex_2, ↓ex_3, ↓ex_4, ↓ex_5, ↓ite_tt, ↓ite_ff, ↓v3_0, ↓v3_s, ↓eq_int, ↓ne_int, ↓eq_bl, ↓ne_bl, ↓eq_pair, ↓ne_pair, eqv_bool, eqv_str, ↓pow_lit, ↓ix_t0, ↓ix_t1, ↓ix_tup, ↓ix_it, ↓q_tC3, ↓q_tOp3, ↓q_tUn3, ↓q_tTest3, ↓q_tChain3, ↓q_tTruth3, ↓q_tAnd3, ↓q_tOr3, ↓q_tNot3, ↓q_tAndV3, ↓q_tOrV3, ↓q_tNotV3, ↓q_tIf3, ↓q_tNil3, ↓q_tCons3, ↓q_tTup3, ↓q_tLst3, ↓q_tNoPart3, ↓q_tPart3, ↓q_tSl3, ↓q_tRev3, ↓r3Rev_tup, ↓r3IsNot_bl, ↓r3Is_bl, ↓r3Sl_tup, ↓c3List_tup, ↓c3List_ref, ↓q_tCB3, ↓q_tBM3, ↓q_tBM03, ↓q_tNext3, ↓q_tSeq3, ↓q_tDrop3, ↓q_tRet3, ↓q_tRetN3, ↓q_tIfS3, ↓q_gName3, ↓gnil_eq, ↓gcons_eq, ↓q_gTup3, ↓q_gSub3, ↓q_tAsg3, ↓q_tPar3, ↓q_tYes3, ↓q_tCall3, ↓q_tTryAs3, ↓q_goneE_nx, ↓q_goneE_rt, ↓q_c3IsE, ↓is_bl, ↓c3Str_int, ↓q_tRaise3, ↓q_spA0, ↓q_spA1, ↓q_spA2, ↓q_spA3, ↓q_spA4, ↓q_spA5, ↓q_endF_rt, ↓q_endF_nx, ↓q_endF_xx, r3Lt, r3Le, r3Gt, r3Ge, r3Mod, r3Div, r3Pow, r3Sub, ↓r3I_int, ↓r3I0_int, ↓r3Add_int, ↓r3Add_tup, ↓r3Add_ref, ↓r3Mul_int, ↓r3Mul_ref, datD_non, ↓datD_bl, ↓datD_int, eqv_int, ↓items_tup, ↓items_rol, ↓items_new, ↓len_new, ↓mupd_same, L3.MO.lst.injEq, List.length_cons, List.length_nil, Nat.reduceAdd, Nat.zero_add, sizeLine_eq, Nat.reduceLeDiff, Nat.reducePow, Int.reduceLT, Int.reduceLE, Int.reducePow, Int.reduceToNat, Int.reduceNeg, Int.reduceAdd, Int.cast_ofNat_Int, Int.reduceSub, Int.reduceMul, Nat.reduceMul, Nat.reduceLT, cpow_lit, List.length_append, List.length_map, ↓u3Neg_int, fdiv_pos, ↓q_tDict0, ix_1_0, ix_2_0, ix_2_1, ix_3_0, ix_3_1, ix_3_2, ix_4_0, ix_4_1, ix_4_2, ix_4_3, ix_5_0, ix_5_1, ix_5_2, ix_5_3, ix_5_4, decide_eq_false_iff_not, ↓lc_seq, ↓lc_r1, ↓lc_r2, ↓for_seq, ↓for_r1, ↓for_r2, ↓c3Tuple_it, ↓c3Min2_int, ↓c3Max2_int, ↓m3Pop_ref, ↓lc_zip, ↓for_zip, ↓lc_enum, ↓for_enum, ↓q_tAug3, r3AddI, ↓datD_pair, datD_pair, eqv_pair, ↓m3Index_ref, wipe3, ↓len_tup, ↓len_rol, ↓c3Len_tup, ↓c3Len_rol, ↓c3Len_ref, ↓c3Int_int, ↓c3Int_bl, ↓c3Abs_int, ↓c3All_ref, ↓c3Any_ref, ↓c3Isi_tl, ↓c3Isi_ty, ↓m3Append_ref, ↓s3Lst_ref, ↓r3Is_non, ↓r3IsNot_non, atI_0, atI_1, atI_2, atI_3, atI_4, tyD_tup, tyD_int, tyD_bl, mc_bool, mc_int, mc_str, mc_tuple, mc_list, mc_dict, ib_NoneType_bool, ib_NoneType_int, ib_NoneType_str, ib_NoneType_tuple, ib_NoneType_list, ib_NoneType_dict, ib_bool_bool, ib_bool_int, ib_bool_str, ib_bool_tuple, ib_bool_list, ib_bool_dict, ib_int_bool, ib_int_int, ib_int_str, ib_int_tuple, ib_int_list, ib_int_dict, ib_str_bool, ib_str_int, ib_str_str, ib_str_tuple, ib_str_list, ib_str_dict, ib_tuple_bool, ib_tuple_int, ib_tuple_str, ib_tuple_tuple, ib_tuple_list, ib_tuple_dict, ib_list_bool, ib_list_int, ib_list_str, ib_list_tuple, ib_list_list, ib_list_dict, ib_dict_bool, ib_dict_int, ib_dict_str, ib_dict_tuple, ib_dict_list, ib_dict_dict, tyD_str, tyD_non, tyD_rol, Bool.or_false, Bool.false_or, Bool.or_true, Bool.true_or, ↓truD_bl, ↓truD_int, List.getElem?_cons_zero, List.getElem?_cons_succ, List.set_cons_zero, List.set_cons_succ, Option.some.injEq, L3.D.bl.injEq, L3.D.int.injEq, L3.D.ref.injEq, L3.D.tup.injEq, L3.D.ty.injEq, L3.D.str.injEq, List.cons.injEq, and_true, true_and, exists_eq_left, exists_eq_left', exists_eq, exists_eq', exists_and_left, exists_and_right, exists_const, and_assoc, exists_eq_right_right, exists_eq_right, ↓ite_both, decide_eq_true_eq, reduceCtorEq, false_and, and_false, exists_false, not_false_eq_true, not_true_eq_false, Bool.false_eq_true, implies_true, forall_const, true_implies, false_implies, Bool.not_eq_true, Bool.not_true, Bool.not_false, decide_true, decide_false, Bool.not_eq_true', Bool.not_eq_false', Bool.not_eq_false, if_true, if_false, Bool.and_true, Bool.true_and, Bool.and_false, Bool.false_and, r3Eq, r3Ne]
  refine ⟨fun hp => ⟨hp, ret_same ?_⟩, fun hp => ?_⟩
  · simp only [mkN, if_pos hp] at q
    exact q
  · obtain ⟨h1, h2⟩ := hj hp
    refine ⟨i.natAbs, rfl, j.natAbs, by omega, ?_⟩
    have g0 := gcd_pos (t := i) (b := j) (by omega)
    have g1 : Nat.gcd i.natAbs j.natAbs ≤ j.natAbs := Nat.gcd_le_right _ (by omega)
    have hk : ∀ x : Int, CDivF x ((Nat.gcd i.natAbs j.natAbs : Nat) : Int) := fun x => divOkN (b := 8900) (by omega) (by rw [Int.natAbs_natCast]; exact Nat.lt_of_le_of_lt g1 h2) (by decide) (by decide)
    refine ⟨hk _, hk _, ret_same ?_⟩
    simp only [mkN, if_neg hp] at q
    have := q_made (t := i) h1
    rw [Int.fdiv_eq_ediv_of_nonneg _ (by omega), Int.fdiv_eq_ediv_of_nonneg _ (by omega)] at this
    first
      | (rw [this]; exact q)
      | (rw [Int.fdiv_eq_ediv_of_nonneg _ (by omega), Int.fdiv_eq_ediv_of_nonneg _ (by omega), this]; exact q)

def sp_plus (K : PySem.W.Frag) : Sp3 := spA3 fun g a b M Q X => ∃ p, g = .int p ∧ ∃ x, a = nuD x ∧ ∃ y, b = nuD y ∧ Gd p ∧ NuOk p x ∧ NuOk p y ∧ (∃ n m, Sz n x ∧ Sz m y ∧ n + m ≤ 8000) ∧ Q (nuD (addN p x y)) M
abbrev N_plus : List Str := ["ground", "one", "other"]
def tr_plus (K : PySem.W.Frag) : TS3 := (tRet3 (tCall3 (sp_made K) (tCons3 (tVar3 0) (tCons3 (tOp3 r3Add (tOp3 r3Mul (tOp3 r3Ix (tVar3 1) (tC3 (.int 0))) (tOp3 r3Ix (tVar3 2) (tC3 (.int 1)))) (tOp3 r3Mul (tOp3 r3Ix (tVar3 2) (tC3 (.int 0))) (tOp3 r3Ix (tVar3 1) (tC3 (.int 1))))) (tCons3 (tOp3 r3Mul (tOp3 r3Ix (tVar3 1) (tC3 (.int 1))) (tOp3 r3Ix (tVar3 2) (tC3 (.int 1)))) tNil3)))))
theorem rd_plus (K : PySem.W.Frag) : ∀ ds M Q E, sp_plus K ds M Q E → tr_plus K (endF M Q E) (start3 N_plus ds) M := by
  rintro ds M Q E ⟨g, a, b, rfl, p, rfl, x, rfl, y, rfl, hg, hx, hy, ⟨n, m, h1, h2, h3⟩, q⟩
  obtain ⟨i, j, k, l, e1, e2, e3, e4, e5, e6, e7⟩ := mkN_add hx hy
  have pl := hg.lt
  rw [e1, e2]
  rw [← e3] at q
  have bd : i.natAbs < 2 ^ (n + 7) ∧ j.natAbs < 2 ^ (n + 7) ∧ k.natAbs < 2 ^ (m + 7) ∧ l.natAbs < 2 ^ (m + 7) := by
    rcases e7 (n + 7) (m + 7) (h1.mono (by omega)) (h2.mono (by omega)) (by omega) (by omega) with z | ⟨z1, z2, z3, z4, z5⟩
    · exact z
    · have w1 : (100 : Nat) < 2 ^ (n + 7) := Nat.lt_of_lt_of_le (by decide : 100 < 2 ^ 7) (Nat.pow_le_pow_right (by decide) (by omega))
      have w2 : (100 : Nat) < 2 ^ (m + 7) := Nat.lt_of_lt_of_le (by decide : 100 < 2 ^ 7) (Nat.pow_le_pow_right (by decide) (by omega))
      refine ⟨by omega, by omega, by omega, by omega⟩
  have jl : (j * l).natAbs < 2 ^ 8900 := by
    rw [Int.natAbs_mul]
    exact Nat.lt_of_lt_of_le (mul_lt2 bd.2.1 bd.2.2.2) (Nat.pow_le_pow_right (by decide) (by omega))
  unfold tr_plus
  simp only [start3, List.map_cons, List.map_nil, List.length_cons, List.length_nil, List.cons_append, List.nil_append, List.replicate_succ, List.replicate_zero, Nat.reduceAdd, Nat.reduceSub, Nat.zero_add]
  simp -implicitDefEqProofs only [sp_made, ↓ex_bl, ↓ex_int, ↓ex_str, ↓ex_ref, ↓ex_tup, ↓ex_some, ↓ex_eq, ↓ex_eq', ↓ex_1, ↓ex_2, ↓ex_3, ↓ex_4, ↓ex_5, ↓ite_tt, ↓ite_ff, ↓v3_0, ↓v3_s, ↓eq_int, ↓ne_int, ↓eq_bl, ↓ne_bl, ↓eq_pair, ↓ne_pair, eqv_bool, eqv_str, ↓pow_lit, ↓ix_t0, ↓ix_t1, ↓ix_tup, ↓ix_it, ↓q_tC3, ↓q_tOp3, ↓q_tUn3, ↓q_tTest3, ↓q_tChain3, ↓q_tTruth3, ↓q_tAnd3, ↓q_tOr3, ↓q_tNot3, ↓q_tAndV3, ↓q_tOrV3, ↓q_tNotV3, ↓q_tIf3, ↓q_tNil3, ↓q_tCons3, ↓q_tTup3, ↓q_tLst3, ↓q_tNoPart3, ↓q_tPart3, ↓q_tSl3, ↓q_tRev3, ↓r3Rev_tup, ↓r3IsNot_bl, ↓r3Is_bl, ↓r3Sl_tup, ↓c3List_tup, ↓c3List_ref, ↓q_tCB3, ↓q_tBM3, ↓q_tBM03, ↓q_tNext3, ↓q_tSeq3, ↓q_tDrop3, ↓q_tRet3, ↓q_tRetN3, ↓q_tIfS3, ↓q_gName3, ↓gnil_eq, ↓gcons_eq, ↓q_gTup3, ↓q_gSub3, ↓q_tAsg3, ↓q_tPar3, ↓q_tYes3, ↓q_tCall3, ↓q_tTryAs3, ↓q_goneE_nx, ↓q_goneE_rt, ↓q_c3IsE, ↓is_bl, ↓c3Str_int, ↓q_tRaise3, ↓q_spA0, ↓q_spA1, ↓q_spA2, ↓q_spA3, ↓q_spA4, ↓q_spA5, ↓q_endF_rt, ↓q_endF_nx, ↓q_endF_xx, r3Lt, r3Le, r3Gt, r3Ge, r3Mod, r3Div, r3Pow, r3Sub, ↓r3I_int, ↓r3I0_int, ↓r3Add_int, ↓r3Add_tup, ↓r3Add_ref, ↓r3Mul_int, ↓r3Mul_ref, datD_non, ↓datD_bl, ↓datD_int, eqv_int, ↓items_tup, ↓items_rol, ↓items_new, ↓len_new, ↓mupd_same, L3.MO.lst.injEq, List.length_cons, List.length_nil, Nat.reduceAdd, Nat.zero_add, sizeLine_eq, Nat.reduceLeDiff, Nat.reducePow, Int.reduceLT, Int.reduceLE, Int.reducePow, Int.reduceToNat, Int.reduceNeg, Int.reduceAdd, Int.cast_ofNat_Int, Int.reduceSub, Int.reduceMul, Nat.reduceMul, Nat.reduceLT, cpow_lit, List.length_append, List.length_map, ↓u3Neg_int, fdiv_pos, ↓q_tDict0, ix_1_0, ix_2_0, ix_2_1, ix_3_0, ix_3_1, ix_3_2, ix_4_0, ix_4_1, ix_4_2, ix_4_3, ix_5_0, ix_5_1, ix_5_2, ix_5_3, ix_5_4, decide_eq_false_iff_not, ↓lc_seq, ↓lc_r1, ↓lc_r2, ↓for_seq, ↓for_r1, ↓for_r2, ↓c3Tuple_it, ↓c3Min2_int, ↓c3Max2_int, ↓m3Pop_ref, ↓lc_zip, ↓for_zip, ↓lc_enum, ↓for_enum, ↓q_tAug3, r3AddI, ↓datD_pair, datD_pair, eqv_pair, ↓m3Index_ref, wipe3, ↓len_tup, ↓len_rol, ↓c3Len_tup, ↓c3Len_rol, ↓c3Len_ref, ↓c3Int_int, ↓c3Int_bl, ↓c3Abs_int, ↓c3All_ref, ↓c3Any_ref, ↓c3Isi_tl, ↓c3Isi_ty, ↓m3Append_ref, ↓s3Lst_ref, ↓r3Is_non, ↓r3IsNot_non, atI_0, atI_1, atI_2, atI_3, atI_4, tyD_tup, tyD_int, tyD_bl, mc_bool, mc_int, mc_str, mc_tuple, mc_list, mc_dict, ib_NoneType_bool, ib_NoneType_int, ib_NoneType_str, ib_NoneType_tuple, ib_NoneType_list, ib_NoneType_dict, ib_bool_bool, ib_bool_int, ib_bool_str, ib_bool_tuple, ib_bool_list, ib_bool_dict, ib_int_bool, ib_int_int, ib_int_str, ib_int_tuple, ib_int_list, ib_int_dict, ib_str_bool, ib_str_int, ib_str_str, ib_str_tuple, ib_str_list, ib_str_dict, ib_tuple_bool, ib_tuple_int, ib_tuple_str, ib_tuple_tuple, ib_tuple_list, ib_tuple_dict, ib_list_bool, ib_list_int, ib_list_str, ib_list_tuple, ib_list_list, ib_list_dict, ib_dict_bool, ib_dict_int, ib_dict_str, ib_dict_tuple, ib_dict_list, ib_dict_dict, tyD_str, tyD_non, tyD_rol, Bool.or_false, Bool.false_or, Bool.or_true, Bool.true_or, ↓truD_bl, ↓truD_int, List.getElem?_cons_zero, List.getElem?_cons_succ, List.set_cons_zero, List.set_cons_succ, Option.some.injEq, L3.D.bl.injEq, L3.D.int.injEq, L3.D.ref.injEq, L3.D.tup.injEq, L3.D.ty.injEq, L3.D.str.injEq, List.cons.injEq, and_true, true_and, exists_eq_left, exists_eq_left', exists_eq, exists_eq', exists_and_left, exists_and_right, exists_const, and_assoc, exists_eq_right_right, exists_eq_right, ↓ite_both, decide_eq_true_eq, reduceCtorEq, false_and, and_false, exists_false, not_false_eq_true, not_true_eq_false, Bool.false_eq_true, implies_true, forall_const, true_implies, false_implies, Bool.not_eq_true, Bool.not_true, Bool.not_false, decide_true, decide_false, Bool.not_eq_true', Bool.not_eq_false', Bool.not_eq_false, if_true, if_false, Bool.and_true, Bool.true_and, Bool.and_false, Bool.false_and, r3Eq, r3Ne]
  exact ⟨mulOk_sz bd.1 bd.2.2.2 (by omega), mulOk_sz bd.2.2.1 bd.2.1 (by omega), mulOk_sz bd.2.1 bd.2.2.2 (by omega), fun _ => ⟨e6, jl⟩, ret_same q⟩

def sp_mul (K : PySem.W.Frag) : Sp3 := spA3 fun g a b M Q X => ∃ p, g = .int p ∧ ∃ x, a = nuD x ∧ ∃ y, b = nuD y ∧ Gd p ∧ NuOk p x ∧ NuOk p y ∧ (∃ n m, Sz n x ∧ Sz m y ∧ n + m ≤ 8000) ∧ Q (nuD (mulN p x y)) M
abbrev N_mul : List Str := ["ground", "one", "other"]
def tr_mul (K : PySem.W.Frag) : TS3 := (tRet3 (tCall3 (sp_made K) (tCons3 (tVar3 0) (tCons3 (tOp3 r3Mul (tOp3 r3Ix (tVar3 1) (tC3 (.int 0))) (tOp3 r3Ix (tVar3 2) (tC3 (.int 0)))) (tCons3 (tOp3 r3Mul (tOp3 r3Ix (tVar3 1) (tC3 (.int 1))) (tOp3 r3Ix (tVar3 2) (tC3 (.int 1)))) tNil3)))))
theorem rd_mul (K : PySem.W.Frag) : ∀ ds M Q E, sp_mul K ds M Q E → tr_mul K (endF M Q E) (start3 N_mul ds) M := by
  rintro ds M Q E ⟨g, a, b, rfl, p, rfl, x, rfl, y, rfl, hg, hx, hy, ⟨n, m, h1, h2, h3⟩, q⟩
  obtain ⟨i, j, k, l, e1, e2, e3, e4, e5, e6, e7⟩ := mkN_add hx hy
  have pl := hg.lt
  rw [e1, e2]
  rw [← e5] at q
  have bd : i.natAbs < 2 ^ (n + 7) ∧ j.natAbs < 2 ^ (n + 7) ∧ k.natAbs < 2 ^ (m + 7) ∧ l.natAbs < 2 ^ (m + 7) := by
    rcases e7 (n + 7) (m + 7) (h1.mono (by omega)) (h2.mono (by omega)) (by omega) (by omega) with z | ⟨z1, z2, z3, z4, z5⟩
    · exact z
    · have w1 : (100 : Nat) < 2 ^ (n + 7) := Nat.lt_of_lt_of_le (by decide : 100 < 2 ^ 7) (Nat.pow_le_pow_right (by decide) (by omega))
      have w2 : (100 : Nat) < 2 ^ (m + 7) := Nat.lt_of_lt_of_le (by decide : 100 < 2 ^ 7) (Nat.pow_le_pow_right (by decide) (by omega))
      refine ⟨by omega, by omega, by omega, by omega⟩
  have jl : (j * l).natAbs < 2 ^ 8900 := by
    rw [Int.natAbs_mul]
    exact Nat.lt_of_lt_of_le (mul_lt2 bd.2.1 bd.2.2.2) (Nat.pow_le_pow_right (by decide) (by omega))
  unfold tr_mul
  simp only [start3, List.map_cons, List.map_nil, List.length_cons, List.length_nil, List.cons_append, List.nil_append, List.replicate_succ, List.replicate_zero, Nat.reduceAdd, Nat.reduceSub, Nat.zero_add]
  simp -implicitDefEqProofs only [sp_made, ↓ex_bl, ↓ex_int, ↓ex_str, ↓ex_ref, ↓ex_tup, ↓ex_some, ↓ex_eq, ↓ex_eq', ↓ex_1, ↓ex_2, ↓ex_3, ↓ex_4, ↓ex_5, ↓ite_tt, ↓ite_ff, ↓v3_0, ↓v3_s, ↓eq_int, ↓ne_int, ↓eq_bl, ↓ne_bl, ↓eq_pair, ↓ne_pair, eqv_bool, eqv_str, ↓pow_lit, ↓ix_t0, ↓ix_t1, ↓ix_tup, ↓ix_it, ↓q_tC3, ↓q_tOp3, ↓q_tUn3, ↓q_tTest3, ↓q_tChain3, ↓q_tTruth3, ↓q_tAnd3, ↓q_tOr3, ↓q_tNot3, ↓q_tAndV3, ↓q_tOrV3, ↓q_tNotV3, ↓q_tIf3, ↓q_tNil3, ↓q_tCons3, ↓q_tTup3, ↓q_tLst3, ↓q_tNoPart3, ↓q_tPart3, ↓q_tSl3, ↓q_tRev3, ↓r3Rev_tup, ↓r3IsNot_bl, ↓r3Is_bl, ↓r3Sl_tup, ↓c3List_tup, ↓c3List_ref, ↓q_tCB3, ↓q_tBM3, ↓q_tBM03, ↓q_tNext3, ↓q_tSeq3, ↓q_tDrop3, ↓q_tRet3, ↓q_tRetN3, ↓q_tIfS3, ↓q_gName3, ↓gnil_eq, ↓gcons_eq, ↓q_gTup3, ↓q_gSub3, ↓q_tAsg3, ↓q_tPar3, ↓q_tYes3, ↓q_tCall3, ↓q_tTryAs3, ↓q_goneE_nx, ↓q_goneE_rt, ↓q_c3IsE, ↓is_bl, ↓c3Str_int, ↓q_tRaise3, ↓q_spA0, ↓q_spA1, ↓q_spA2, ↓q_spA3, ↓q_spA4, ↓q_spA5, ↓q_endF_rt, ↓q_endF_nx, ↓q_endF_xx, r3Lt, r3Le, r3Gt, r3Ge, r3Mod, r3Div, r3Pow, r3Sub, ↓r3I_int, ↓r3I0_int, ↓r3Add_int, ↓r3Add_tup, ↓r3Add_ref, ↓r3Mul_int, ↓r3Mul_ref, datD_non, ↓datD_bl, ↓datD_int, eqv_int, ↓items_tup, ↓items_rol, ↓items_new, ↓len_new, ↓mupd_same, L3.MO.lst.injEq, List.length_cons, List.length_nil, Nat.reduceAdd, Nat.zero_add, sizeLine_eq, Nat.reduceLeDiff, Nat.reducePow, Int.reduceLT, Int.reduceLE, Int.reducePow, Int.reduceToNat, Int.reduceNeg, Int.reduceAdd, Int.cast_ofNat_Int, Int.reduceSub, Int.reduceMul, Nat.reduceMul, Nat.reduceLT, cpow_lit, List.length_append, List.length_map, ↓u3Neg_int, fdiv_pos, ↓q_tDict0, ix_1_0, ix_2_0, ix_2_1, ix_3_0, ix_3_1, ix_3_2, ix_4_0, ix_4_1, ix_4_2, ix_4_3, ix_5_0, ix_5_1, ix_5_2, ix_5_3, ix_5_4, decide_eq_false_iff_not, ↓lc_seq, ↓lc_r1, ↓lc_r2, ↓for_seq, ↓for_r1, ↓for_r2, ↓c3Tuple_it, ↓c3Min2_int, ↓c3Max2_int, ↓m3Pop_ref, ↓lc_zip, ↓for_zip, ↓lc_enum, ↓for_enum, ↓q_tAug3, r3AddI, ↓datD_pair, datD_pair, eqv_pair, ↓m3Index_ref, wipe3, ↓len_tup, ↓len_rol, ↓c3Len_tup, ↓c3Len_rol, ↓c3Len_ref, ↓c3Int_int, ↓c3Int_bl, ↓c3Abs_int, ↓c3All_ref, ↓c3Any_ref, ↓c3Isi_tl, ↓c3Isi_ty, ↓m3Append_ref, ↓s3Lst_ref, ↓r3Is_non, ↓r3IsNot_non, atI_0, atI_1, atI_2, atI_3, atI_4, tyD_tup, tyD_int, tyD_bl, mc_bool, mc_int, mc_str, mc_tuple, mc_list, mc_dict, ib_NoneType_bool, ib_NoneType_int, ib_NoneType_str, ib_NoneType_tuple, ib_NoneType_list, ib_NoneType_dict, ib_bool_bool, ib_bool_int, ib_bool_str, ib_bool_tuple, ib_bool_list, ib_bool_dict, ib_int_bool, ib_int_int, ib_int_str, ib_int_tuple, ib_int_list, ib_int_dict, ib_str_bool, ib_str_int, ib_str_str, ib_str_tuple, ib_str_list, ib_str_dict, ib_tuple_bool, ib_tuple_int, ib_tuple_str, ib_tuple_tuple, ib_tuple_list, ib_tuple_dict, ib_list_bool, ib_list_int, ib_list_str, ib_list_tuple, ib_list_list, ib_list_dict, ib_dict_bool, ib_dict_int, ib_dict_str, ib_dict_tuple, ib_dict_list, ib_dict_dict, tyD_str, tyD_non, tyD_rol, Bool.or_false, Bool.false_or, Bool.or_true, Bool.true_or, ↓truD_bl, ↓truD_int, List.getElem?_cons_zero, List.getElem?_cons_succ, List.set_cons_zero, List.set_cons_succ, Option.some.injEq, L3.D.bl.injEq, L3.D.int.injEq, L3.D.ref.injEq, L3.D.tup.injEq, L3.D.ty.injEq, L3.D.str.injEq, List.cons.injEq, and_true, true_and, exists_eq_left, exists_eq_left', exists_eq, exists_eq', exists_and_left, exists_and_right, exists_const, and_assoc, exists_eq_right_right, exists_eq_right, ↓ite_both, decide_eq_true_eq, reduceCtorEq, false_and, and_false, exists_false, not_false_eq_true, not_true_eq_false, Bool.false_eq_true, implies_true, forall_const, true_implies, false_implies, Bool.not_eq_true, Bool.not_true, Bool.not_false, decide_true, decide_false, Bool.not_eq_true', Bool.not_eq_false', Bool.not_eq_false, if_true, if_false, Bool.and_true, Bool.true_and, Bool.and_false, Bool.false_and, r3Eq, r3Ne]
  exact ⟨mulOk_sz bd.1 bd.2.2.1 (by omega), mulOk_sz bd.2.1 bd.2.2.2 (by omega), fun _ => ⟨e6, jl⟩, ret_same q⟩

def sp_trimmed (K : PySem.W.Frag) : Sp3 := spA1 fun a M Q X => ∃ l, a = .ref l ∧ ∃ (xs : List Nu) (p : Int), M l = some (.lst (xs.map nuD)) ∧ (∀ x ∈ xs, NuOk p x) ∧ Q (polyD (trimL xs)) M
abbrev N_trimmed : List Str := ["numbers", "many"]
def tr_trimmed (K : PySem.W.Frag) : TS3 := (tSeq3 (tAsg3 (tCB3 c3Len (tCons3 (tVar3 0) tNil3)) (gName3 1)) (tSeq3 (tWhile3 (tAnd3 (tTest3 (tOp3 r3Gt (tVar3 1) (tC3 (.int 0)))) (tTest3 (tOp3 r3Eq (tOp3 r3Ix (tVar3 0) (tOp3 r3Sub (tVar3 1) (tC3 (.int 1)))) (tC3 c_NOUGHT)))) (tAug3 1 (tC3 (.int 1)) r3Sub)) (tRet3 (tCB3 c3Tuple (tCons3 (tSl3 r3Sl (tVar3 0) tNoPart3 (tPart3 (tVar3 1))) tNil3)))))
theorem rd_trimmed (K : PySem.W.Frag) : ∀ ds M Q E, sp_trimmed K ds M Q E → tr_trimmed K (endF M Q E) (start3 N_trimmed ds) M := by
  rintro ds M Q E ⟨a, rfl, l, rfl, xs, p, el, hx, q⟩
  unfold tr_trimmed
  simp only [start3, List.map_cons, List.map_nil, List.length_cons, List.length_nil, List.cons_append, List.nil_append, List.replicate_succ, List.replicate_zero, Nat.reduceAdd, Nat.reduceSub, Nat.zero_add]
  simp -implicitDefEqProofs only [len_ref el, ↓ex_bl, ↓ex_int, ↓ex_str, ↓ex_ref, ↓ex_tup, ↓ex_some, ↓ex_eq, ↓ex_eq', ↓ex_1, ↓ex_2, ↓ex_3, ↓ex_4, ↓ex_5, ↓ite_tt, ↓ite_ff, ↓v3_0, ↓v3_s, ↓eq_int, ↓ne_int, ↓eq_bl, ↓ne_bl, ↓eq_pair, ↓ne_pair, eqv_bool, eqv_str, ↓pow_lit, ↓ix_t0, ↓ix_t1, ↓ix_tup, ↓ix_it, ↓q_tC3, ↓q_tOp3, ↓q_tUn3, ↓q_tTest3, ↓q_tChain3, ↓q_tTruth3, ↓q_tAnd3, ↓q_tOr3, ↓q_tNot3, ↓q_tAndV3, ↓q_tOrV3, ↓q_tNotV3, ↓q_tIf3, ↓q_tNil3, ↓q_tCons3, ↓q_tTup3, ↓q_tLst3, ↓q_tNoPart3, ↓q_tPart3, ↓q_tSl3, ↓q_tRev3, ↓r3Rev_tup, ↓r3IsNot_bl, ↓r3Is_bl, ↓r3Sl_tup, ↓c3List_tup, ↓c3List_ref, ↓q_tCB3, ↓q_tBM3, ↓q_tBM03, ↓q_tNext3, ↓q_tSeq3, ↓q_tDrop3, ↓q_tRet3, ↓q_tRetN3, ↓q_tIfS3, ↓q_gName3, ↓gnil_eq, ↓gcons_eq, ↓q_gTup3, ↓q_gSub3, ↓q_tAsg3, ↓q_tPar3, ↓q_tYes3, ↓q_tCall3, ↓q_tTryAs3, ↓q_goneE_nx, ↓q_goneE_rt, ↓q_c3IsE, ↓is_bl, ↓c3Str_int, ↓q_tRaise3, ↓q_spA0, ↓q_spA1, ↓q_spA2, ↓q_spA3, ↓q_spA4, ↓q_spA5, ↓q_endF_rt, ↓q_endF_nx, ↓q_endF_xx, r3Lt, r3Le, r3Gt, r3Ge, r3Mod, r3Div, r3Pow, r3Sub, ↓r3I_int, ↓r3I0_int, ↓r3Add_int, ↓r3Add_tup, ↓r3Add_ref, ↓r3Mul_int, ↓r3Mul_ref, datD_non, ↓datD_bl, ↓datD_int, eqv_int, ↓items_tup, ↓items_rol, ↓items_new, ↓len_new, ↓mupd_same, L3.MO.lst.injEq, List.length_cons, List.length_nil, Nat.reduceAdd, Nat.zero_add, sizeLine_eq, Nat.reduceLeDiff, Nat.reducePow, Int.reduceLT, Int.reduceLE, Int.reducePow, Int.reduceToNat, Int.reduceNeg, Int.reduceAdd, Int.cast_ofNat_Int, Int.reduceSub, Int.reduceMul, Nat.reduceMul, Nat.reduceLT, cpow_lit, List.length_append, List.length_map, ↓u3Neg_int, fdiv_pos, ↓q_tDict0, ix_1_0, ix_2_0, ix_2_1, ix_3_0, ix_3_1, ix_3_2, ix_4_0, ix_4_1, ix_4_2, ix_4_3, ix_5_0, ix_5_1, ix_5_2, ix_5_3, ix_5_4, decide_eq_false_iff_not, ↓lc_seq, ↓lc_r1, ↓lc_r2, ↓for_seq, ↓for_r1, ↓for_r2, ↓c3Tuple_it, ↓c3Min2_int, ↓c3Max2_int, ↓m3Pop_ref, ↓lc_zip, ↓for_zip, ↓lc_enum, ↓for_enum, ↓q_tAug3, r3AddI, ↓datD_pair, datD_pair, eqv_pair, ↓m3Index_ref, wipe3, ↓len_tup, ↓len_rol, ↓c3Len_tup, ↓c3Len_rol, ↓c3Len_ref, ↓c3Int_int, ↓c3Int_bl, ↓c3Abs_int, ↓c3All_ref, ↓c3Any_ref, ↓c3Isi_tl, ↓c3Isi_ty, ↓m3Append_ref, ↓s3Lst_ref, ↓r3Is_non, ↓r3IsNot_non, atI_0, atI_1, atI_2, atI_3, atI_4, tyD_tup, tyD_int, tyD_bl, mc_bool, mc_int, mc_str, mc_tuple, mc_list, mc_dict, ib_NoneType_bool, ib_NoneType_int, ib_NoneType_str, ib_NoneType_tuple, ib_NoneType_list, ib_NoneType_dict, ib_bool_bool, ib_bool_int, ib_bool_str, ib_bool_tuple, ib_bool_list, ib_bool_dict, ib_int_bool, ib_int_int, ib_int_str, ib_int_tuple, ib_int_list, ib_int_dict, ib_str_bool, ib_str_int, ib_str_str, ib_str_tuple, ib_str_list, ib_str_dict, ib_tuple_bool, ib_tuple_int, ib_tuple_str, ib_tuple_tuple, ib_tuple_list, ib_tuple_dict, ib_list_bool, ib_list_int, ib_list_str, ib_list_tuple, ib_list_list, ib_list_dict, ib_dict_bool, ib_dict_int, ib_dict_str, ib_dict_tuple, ib_dict_list, ib_dict_dict, tyD_str, tyD_non, tyD_rol, Bool.or_false, Bool.false_or, Bool.or_true, Bool.true_or, ↓truD_bl, ↓truD_int, List.getElem?_cons_zero, List.getElem?_cons_succ, List.set_cons_zero, List.set_cons_succ, Option.some.injEq, L3.D.bl.injEq, L3.D.int.injEq, L3.D.ref.injEq, L3.D.tup.injEq, L3.D.ty.injEq, L3.D.str.injEq, List.cons.injEq, and_true, true_and, exists_eq_left, exists_eq_left', exists_eq, exists_eq', exists_and_left, exists_and_right, exists_const, and_assoc, exists_eq_right_right, exists_eq_right, ↓ite_both, decide_eq_true_eq, reduceCtorEq, false_and, and_false, exists_false, not_false_eq_true, not_true_eq_false, Bool.false_eq_true, implies_true, forall_const, true_implies, false_implies, Bool.not_eq_true, Bool.not_true, Bool.not_false, decide_true, decide_false, Bool.not_eq_true', Bool.not_eq_false', Bool.not_eq_false, if_true, if_false, Bool.and_true, Bool.true_and, Bool.and_false, Bool.false_and, r3Eq, r3Ne]
  refine while_p (fun σ => ∃ n : Nat, σ = [some (.ref l), some (.int (n : Int))] ∧ n ≤ xs.length ∧ trimL (xs.take n) = trimL xs) (fun σ => match σ with
    | [_, some (.int j)] => j.toNat
    | _ => 0) ⟨xs.length, rfl, Nat.le_refl _, by rw [List.take_length]⟩ ?_
  rintro σ' N ⟨n, rfl, hn, ht⟩ nx
  simp -implicitDefEqProofs only [items_ref el, ↓ex_bl, ↓ex_int, ↓ex_str, ↓ex_ref, ↓ex_tup, ↓ex_some, ↓ex_eq, ↓ex_eq', ↓ex_1, ↓ex_2, ↓ex_3, ↓ex_4, ↓ex_5, ↓ite_tt, ↓ite_ff, ↓v3_0, ↓v3_s, ↓eq_int, ↓ne_int, ↓eq_bl, ↓ne_bl, ↓eq_pair, ↓ne_pair, eqv_bool, eqv_str, ↓pow_lit, ↓ix_t0, ↓ix_t1, ↓ix_tup, ↓ix_it, ↓q_tC3, ↓q_tOp3, ↓q_tUn3, ↓q_tTest3, ↓q_tChain3, ↓q_tTruth3, ↓q_tAnd3, ↓q_tOr3, ↓q_tNot3, ↓q_tAndV3, ↓q_tOrV3, ↓q_tNotV3, ↓q_tIf3, ↓q_tNil3, ↓q_tCons3, ↓q_tTup3, ↓q_tLst3, ↓q_tNoPart3, ↓q_tPart3, ↓q_tSl3, ↓q_tRev3, ↓r3Rev_tup, ↓r3IsNot_bl, ↓r3Is_bl, ↓r3Sl_tup, ↓c3List_tup, ↓c3List_ref, ↓q_tCB3, ↓q_tBM3, ↓q_tBM03, ↓q_tNext3, ↓q_tSeq3, ↓q_tDrop3, ↓q_tRet3, ↓q_tRetN3, ↓q_tIfS3, ↓q_gName3, ↓gnil_eq, ↓gcons_eq, ↓q_gTup3, ↓q_gSub3, ↓q_tAsg3, ↓q_tPar3, ↓q_tYes3, ↓q_tCall3, ↓q_tTryAs3, ↓q_goneE_nx, ↓q_goneE_rt, ↓q_c3IsE, ↓is_bl, ↓c3Str_int, ↓q_tRaise3, ↓q_spA0, ↓q_spA1, ↓q_spA2, ↓q_spA3, ↓q_spA4, ↓q_spA5, ↓q_endF_rt, ↓q_endF_nx, ↓q_endF_xx, r3Lt, r3Le, r3Gt, r3Ge, r3Mod, r3Div, r3Pow, r3Sub, ↓r3I_int, ↓r3I0_int, ↓r3Add_int, ↓r3Add_tup, ↓r3Add_ref, ↓r3Mul_int, ↓r3Mul_ref, datD_non, ↓datD_bl, ↓datD_int, eqv_int, ↓items_tup, ↓items_rol, ↓items_new, ↓len_new, ↓mupd_same, L3.MO.lst.injEq, List.length_cons, List.length_nil, Nat.reduceAdd, Nat.zero_add, sizeLine_eq, Nat.reduceLeDiff, Nat.reducePow, Int.reduceLT, Int.reduceLE, Int.reducePow, Int.reduceToNat, Int.reduceNeg, Int.reduceAdd, Int.cast_ofNat_Int, Int.reduceSub, Int.reduceMul, Nat.reduceMul, Nat.reduceLT, cpow_lit, List.length_append, List.length_map, ↓u3Neg_int, fdiv_pos, ↓q_tDict0, ix_1_0, ix_2_0, ix_2_1, ix_3_0, ix_3_1, ix_3_2, ix_4_0, ix_4_1, ix_4_2, ix_4_3, ix_5_0, ix_5_1, ix_5_2, ix_5_3, ix_5_4, decide_eq_false_iff_not, ↓lc_seq, ↓lc_r1, ↓lc_r2, ↓for_seq, ↓for_r1, ↓for_r2, ↓c3Tuple_it, ↓c3Min2_int, ↓c3Max2_int, ↓m3Pop_ref, ↓lc_zip, ↓for_zip, ↓lc_enum, ↓for_enum, ↓q_tAug3, r3AddI, ↓datD_pair, datD_pair, eqv_pair, ↓m3Index_ref, wipe3, ↓len_tup, ↓len_rol, ↓c3Len_tup, ↓c3Len_rol, ↓c3Len_ref, ↓c3Int_int, ↓c3Int_bl, ↓c3Abs_int, ↓c3All_ref, ↓c3Any_ref, ↓c3Isi_tl, ↓c3Isi_ty, ↓m3Append_ref, ↓s3Lst_ref, ↓r3Is_non, ↓r3IsNot_non, atI_0, atI_1, atI_2, atI_3, atI_4, tyD_tup, tyD_int, tyD_bl, mc_bool, mc_int, mc_str, mc_tuple, mc_list, mc_dict, ib_NoneType_bool, ib_NoneType_int, ib_NoneType_str, ib_NoneType_tuple, ib_NoneType_list, ib_NoneType_dict, ib_bool_bool, ib_bool_int, ib_bool_str, ib_bool_tuple, ib_bool_list, ib_bool_dict, ib_int_bool, ib_int_int, ib_int_str, ib_int_tuple, ib_int_list, ib_int_dict, ib_str_bool, ib_str_int, ib_str_str, ib_str_tuple, ib_str_list, ib_str_dict, ib_tuple_bool, ib_tuple_int, ib_tuple_str, ib_tuple_tuple, ib_tuple_list, ib_tuple_dict, ib_list_bool, ib_list_int, ib_list_str, ib_list_tuple, ib_list_list, ib_list_dict, ib_dict_bool, ib_dict_int, ib_dict_str, ib_dict_tuple, ib_dict_list, ib_dict_dict, tyD_str, tyD_non, tyD_rol, Bool.or_false, Bool.false_or, Bool.or_true, Bool.true_or, ↓truD_bl, ↓truD_int, List.getElem?_cons_zero, List.getElem?_cons_succ, List.set_cons_zero, List.set_cons_succ, Option.some.injEq, L3.D.bl.injEq, L3.D.int.injEq, L3.D.ref.injEq, L3.D.tup.injEq, L3.D.ty.injEq, L3.D.str.injEq, List.cons.injEq, and_true, true_and, exists_eq_left, exists_eq_left', exists_eq, exists_eq', exists_and_left, exists_and_right, exists_const, and_assoc, exists_eq_right_right, exists_eq_right, ↓ite_both, decide_eq_true_eq, reduceCtorEq, false_and, and_false, exists_false, not_false_eq_true, not_true_eq_false, Bool.false_eq_true, implies_true, forall_const, true_implies, false_implies, Bool.not_eq_true, Bool.not_true, Bool.not_false, decide_true, decide_false, Bool.not_eq_true', Bool.not_eq_false', Bool.not_eq_false, if_true, if_false, Bool.and_true, Bool.true_and, Bool.and_false, Bool.false_and, r3Eq, r3Ne]
  have fin : (n = 0 ∨ trimL (xs.take n) = xs.take n) → r3Sl (.ref l) none (some (n : Int)) M fun d M1 => c3Tuple [d] M1 (retE M Q) := by
    intro h
    have h2 : trimL xs = xs.take n := by
      rcases h with rfl | h
      · rw [← ht]; rfl
      · rw [← ht, h]
    refine ⟨_, items_ref el, fun p hp => ⟨_, items_new, ret_pure (MSub.new .refl hp) ?_⟩⟩
    rw [cutD_take, ← List.map_take, ← h2]
    exact q
  refine ⟨fun h0 => ?_, fun h0 => fin (.inl (by omega))⟩
  have hlt : n - 1 < xs.length := by omega
  obtain ⟨c, d, ey⟩ := nu_pair xs[n - 1]
  have hxo := hx xs[n - 1] (List.getElem_mem hlt)
  have iz := (isZ_pair hxo ey).1
  have at_ : atI (xs.map nuD) ((n : Int) - 1) = some (.tup [.int c, .int d]) := by
    have : atI (xs.map nuD) (((n - 1 : Nat)) : Int) = some (nuD xs[n - 1]) := atI_nat (by rw [List.getElem?_map, List.getElem?_eq_getElem hlt]; rfl)
    rw [show (((n - 1 : Nat)) : Int) = (n : Int) - 1 by omega, ey] at this
    exact this
  have et : xs.take n = xs.take (n - 1) ++ [xs[n - 1]] := by
    have : n = (n - 1) + 1 := by omega
    conv => lhs; rw [this]
    rw [List.take_add_one, List.getElem?_eq_getElem hlt]
    rfl
  refine ⟨_, at_, ?_⟩
  simp -implicitDefEqProofs only [c_NOUGHT, ↓ex_bl, ↓ex_int, ↓ex_str, ↓ex_ref, ↓ex_tup, ↓ex_some, ↓ex_eq, ↓ex_eq', ↓ex_1, ↓ex_2, ↓ex_3, ↓ex_4, ↓ex_5, ↓ite_tt, ↓ite_ff, ↓v3_0, ↓v3_s, ↓eq_int, ↓ne_int, ↓eq_bl, ↓ne_bl, ↓eq_pair, ↓ne_pair, eqv_bool, eqv_str, ↓pow_lit, ↓ix_t0, ↓ix_t1, ↓ix_tup, ↓ix_it, ↓q_tC3, ↓q_tOp3, ↓q_tUn3, ↓q_tTest3, ↓q_tChain3, ↓q_tTruth3, ↓q_tAnd3, ↓q_tOr3, ↓q_tNot3, ↓q_tAndV3, ↓q_tOrV3, ↓q_tNotV3, ↓q_tIf3, ↓q_tNil3, ↓q_tCons3, ↓q_tTup3, ↓q_tLst3, ↓q_tNoPart3, ↓q_tPart3, ↓q_tSl3, ↓q_tRev3, ↓r3Rev_tup, ↓r3IsNot_bl, ↓r3Is_bl, ↓r3Sl_tup, ↓c3List_tup, ↓c3List_ref, ↓q_tCB3, ↓q_tBM3, ↓q_tBM03, ↓q_tNext3, ↓q_tSeq3, ↓q_tDrop3, ↓q_tRet3, ↓q_tRetN3, ↓q_tIfS3, ↓q_gName3, ↓gnil_eq, ↓gcons_eq, ↓q_gTup3, ↓q_gSub3, ↓q_tAsg3, ↓q_tPar3, ↓q_tYes3, ↓q_tCall3, ↓q_tTryAs3, ↓q_goneE_nx, ↓q_goneE_rt, ↓q_c3IsE, ↓is_bl, ↓c3Str_int, ↓q_tRaise3, ↓q_spA0, ↓q_spA1, ↓q_spA2, ↓q_spA3, ↓q_spA4, ↓q_spA5, ↓q_endF_rt, ↓q_endF_nx, ↓q_endF_xx, r3Lt, r3Le, r3Gt, r3Ge, r3Mod, r3Div, r3Pow, r3Sub, ↓r3I_int, ↓r3I0_int, ↓r3Add_int, ↓r3Add_tup, ↓r3Add_ref, ↓r3Mul_int, ↓r3Mul_ref, datD_non, ↓datD_bl, ↓datD_int, eqv_int, ↓items_tup, ↓items_rol, ↓items_new, ↓len_new, ↓mupd_same, L3.MO.lst.injEq, List.length_cons, List.length_nil, Nat.reduceAdd, Nat.zero_add, sizeLine_eq, Nat.reduceLeDiff, Nat.reducePow, Int.reduceLT, Int.reduceLE, Int.reducePow, Int.reduceToNat, Int.reduceNeg, Int.reduceAdd, Int.cast_ofNat_Int, Int.reduceSub, Int.reduceMul, Nat.reduceMul, Nat.reduceLT, cpow_lit, List.length_append, List.length_map, ↓u3Neg_int, fdiv_pos, ↓q_tDict0, ix_1_0, ix_2_0, ix_2_1, ix_3_0, ix_3_1, ix_3_2, ix_4_0, ix_4_1, ix_4_2, ix_4_3, ix_5_0, ix_5_1, ix_5_2, ix_5_3, ix_5_4, decide_eq_false_iff_not, ↓lc_seq, ↓lc_r1, ↓lc_r2, ↓for_seq, ↓for_r1, ↓for_r2, ↓c3Tuple_it, ↓c3Min2_int, ↓c3Max2_int, ↓m3Pop_ref, ↓lc_zip, ↓for_zip, ↓lc_enum, ↓for_enum, ↓q_tAug3, r3AddI, ↓datD_pair, datD_pair, eqv_pair, ↓m3Index_ref, wipe3, ↓len_tup, ↓len_rol, ↓c3Len_tup, ↓c3Len_rol, ↓c3Len_ref, ↓c3Int_int, ↓c3Int_bl, ↓c3Abs_int, ↓c3All_ref, ↓c3Any_ref, ↓c3Isi_tl, ↓c3Isi_ty, ↓m3Append_ref, ↓s3Lst_ref, ↓r3Is_non, ↓r3IsNot_non, atI_0, atI_1, atI_2, atI_3, atI_4, tyD_tup, tyD_int, tyD_bl, mc_bool, mc_int, mc_str, mc_tuple, mc_list, mc_dict, ib_NoneType_bool, ib_NoneType_int, ib_NoneType_str, ib_NoneType_tuple, ib_NoneType_list, ib_NoneType_dict, ib_bool_bool, ib_bool_int, ib_bool_str, ib_bool_tuple, ib_bool_list, ib_bool_dict, ib_int_bool, ib_int_int, ib_int_str, ib_int_tuple, ib_int_list, ib_int_dict, ib_str_bool, ib_str_int, ib_str_str, ib_str_tuple, ib_str_list, ib_str_dict, ib_tuple_bool, ib_tuple_int, ib_tuple_str, ib_tuple_tuple, ib_tuple_list, ib_tuple_dict, ib_list_bool, ib_list_int, ib_list_str, ib_list_tuple, ib_list_list, ib_list_dict, ib_dict_bool, ib_dict_int, ib_dict_str, ib_dict_tuple, ib_dict_list, ib_dict_dict, tyD_str, tyD_non, tyD_rol, Bool.or_false, Bool.false_or, Bool.or_true, Bool.true_or, ↓truD_bl, ↓truD_int, List.getElem?_cons_zero, List.getElem?_cons_succ, List.set_cons_zero, List.set_cons_succ, Option.some.injEq, L3.D.bl.injEq, L3.D.int.injEq, L3.D.ref.injEq, L3.D.tup.injEq, L3.D.ty.injEq, L3.D.str.injEq, List.cons.injEq, and_true, true_and, exists_eq_left, exists_eq_left', exists_eq, exists_eq', exists_and_left, exists_and_right, exists_const, and_assoc, exists_eq_right_right, exists_eq_right, ↓ite_both, decide_eq_true_eq, reduceCtorEq, false_and, and_false, exists_false, not_false_eq_true, not_true_eq_false, Bool.false_eq_true, implies_true, forall_const, true_implies, false_implies, Bool.not_eq_true, Bool.not_true, Bool.not_false, decide_true, decide_false, Bool.not_eq_true', Bool.not_eq_false', Bool.not_eq_false, if_true, if_false, Bool.and_true, Bool.true_and, Bool.and_false, Bool.false_and, r3Eq, r3Ne]
  rw [iz]
  refine ⟨fun hz => nx _ _ .refl ⟨n - 1, ?_, by omega, ?_⟩ ?_, fun hz => fin (.inr ?_)⟩
  · rw [show (((n - 1 : Nat)) : Int) = (n : Int) - 1 by omega]
  · rw [← ht, et, trimL_snoc, if_pos hz]
  · show ((n : Int) - 1).toNat < (n : Int).toNat
    omega
  · rw [et, trimL_snoc, if_neg (by rw [hz]; decide)]

def sp_poly_mul (K : PySem.W.Frag) : Sp3 := spA3 fun g a b M Q X => ∃ p, g = .int p ∧ ∃ xs, a = polyD xs ∧ ∃ ys, b = polyD ys ∧ Gd p ∧ (∀ x ∈ xs, NuOk p x) ∧ (∀ x ∈ ys, NuOk p x) ∧ (∃ s t, (∀ x ∈ xs, Sz (s + 1) x) ∧ (∀ x ∈ ys, Sz (t + 1) x) ∧ (xs.length + 2) * (s + t + 3) ≤ 7900 ∧ ys.length ≤ 100000) ∧ Q (polyD (trimL (mulL p xs ys))) M
abbrev N_poly_mul : List Str := ["ground", "one", "other", "found", "k", "own", "j", "number"]
def tr_poly_mul (K : PySem.W.Frag) : TS3 := (tSeq3 (tIfS3 (tOr3 (tTest3 (tOp3 r3Eq (tCB3 c3Len (tCons3 (tVar3 1) tNil3)) (tC3 (.int 0)))) (tTest3 (tOp3 r3Eq (tCB3 c3Len (tCons3 (tVar3 2) tNil3)) (tC3 (.int 0))))) (tRet3 (tTup3 tNil3)) tNext3) (tSeq3 (tAsg3 (tOp3 r3Mul (tLst3 (tCons3 (tC3 c_NOUGHT) tNil3)) (tOp3 r3Sub (tOp3 r3Add (tCB3 c3Len (tCons3 (tVar3 1) tNil3)) (tCB3 c3Len (tCons3 (tVar3 2) tNil3))) (tC3 (.int 1)))) (gName3 3)) (tSeq3 (tFor3 (iEnum3 (tCons3 (tVar3 1) tNil3)) (gTup3 2 (gCons3 (gName3 4) (gCons3 (gName3 5) gNil3))) (tFor3 (iEnum3 (tCons3 (tVar3 2) tNil3)) (gTup3 2 (gCons3 (gName3 6) (gCons3 (gName3 7) gNil3))) (tAsg3 (tCall3 (sp_plus K) (tCons3 (tVar3 0) (tCons3 (tOp3 r3Ix (tVar3 3) (tOp3 r3Add (tVar3 4) (tVar3 6))) (tCons3 (tCall3 (sp_mul K) (tCons3 (tVar3 0) (tCons3 (tVar3 5) (tCons3 (tVar3 7) tNil3)))) tNil3)))) (gSub3 (tVar3 3) (tOp3 r3Add (tVar3 4) (tVar3 6)) s3Lst)))) (tRet3 (tCall3 (sp_trimmed K) (tCons3 (tVar3 3) tNil3))))))
theorem rd_poly_mul (K : PySem.W.Frag) : ∀ ds M Q E, sp_poly_mul K ds M Q E → tr_poly_mul K (endF M Q E) (start3 N_poly_mul ds) M := by
  rintro ds M Q E ⟨g, a, b, rfl, p, rfl, xs, rfl, ys, rfl, hg, hx, hy, ⟨s, t, zx, zy, hz, hly⟩, q⟩
  have pl := hg.lt.1
  have hlx : xs.length ≤ 7900 := by
    have : xs.length * 1 ≤ (xs.length + 2) * (s + t + 3) := Nat.mul_le_mul (by omega) (by omega)
    omega
  unfold tr_poly_mul polyD
  simp only [start3, List.map_cons, List.map_nil, List.length_cons, List.length_nil, List.cons_append, List.nil_append, List.replicate_succ, List.replicate_zero, Nat.reduceAdd, Nat.reduceSub, Nat.zero_add]
  have emp : xs.length = 0 ∨ ys.length = 0 → mulL p xs ys = [] := fun h => if_pos h
  simp -implicitDefEqProofs only [c_NOUGHT, rep_one, List.length_replicate, ↓ex_bl, ↓ex_int, ↓ex_str, ↓ex_ref, ↓ex_tup, ↓ex_some, ↓ex_eq, ↓ex_eq', ↓ex_1, ↓ex_2, ↓ex_3, ↓ex_4, ↓ex_5, ↓ite_tt, ↓ite_ff, ↓v3_0, ↓v3_s, ↓eq_int, ↓ne_int, ↓eq_bl, ↓ne_bl, ↓eq_pair, ↓ne_pair, eqv_bool, eqv_str, ↓pow_lit, ↓ix_t0, ↓ix_t1, ↓ix_tup, ↓ix_it, ↓q_tC3, ↓q_tOp3, ↓q_tUn3, ↓q_tTest3, ↓q_tChain3, ↓q_tTruth3, ↓q_tAnd3, ↓q_tOr3, ↓q_tNot3, ↓q_tAndV3, ↓q_tOrV3, ↓q_tNotV3, ↓q_tIf3, ↓q_tNil3, ↓q_tCons3, ↓q_tTup3, ↓q_tLst3, ↓q_tNoPart3, ↓q_tPart3, ↓q_tSl3, ↓q_tRev3, ↓r3Rev_tup, ↓r3IsNot_bl, ↓r3Is_bl, ↓r3Sl_tup, ↓c3List_tup, ↓c3List_ref, ↓q_tCB3, ↓q_tBM3, ↓q_tBM03, ↓q_tNext3, ↓q_tSeq3, ↓q_tDrop3, ↓q_tRet3, ↓q_tRetN3, ↓q_tIfS3, ↓q_gName3, ↓gnil_eq, ↓gcons_eq, ↓q_gTup3, ↓q_gSub3, ↓q_tAsg3, ↓q_tPar3, ↓q_tYes3, ↓q_tCall3, ↓q_tTryAs3, ↓q_goneE_nx, ↓q_goneE_rt, ↓q_c3IsE, ↓is_bl, ↓c3Str_int, ↓q_tRaise3, ↓q_spA0, ↓q_spA1, ↓q_spA2, ↓q_spA3, ↓q_spA4, ↓q_spA5, ↓q_endF_rt, ↓q_endF_nx, ↓q_endF_xx, r3Lt, r3Le, r3Gt, r3Ge, r3Mod, r3Div, r3Pow, r3Sub, ↓r3I_int, ↓r3I0_int, ↓r3Add_int, ↓r3Add_tup, ↓r3Add_ref, ↓r3Mul_int, ↓r3Mul_ref, datD_non, ↓datD_bl, ↓datD_int, eqv_int, ↓items_tup, ↓items_rol, ↓items_new, ↓len_new, ↓mupd_same, L3.MO.lst.injEq, List.length_cons, List.length_nil, Nat.reduceAdd, Nat.zero_add, sizeLine_eq, Nat.reduceLeDiff, Nat.reducePow, Int.reduceLT, Int.reduceLE, Int.reducePow, Int.reduceToNat, Int.reduceNeg, Int.reduceAdd, Int.cast_ofNat_Int, Int.reduceSub, Int.reduceMul, Nat.reduceMul, Nat.reduceLT, cpow_lit, List.length_append, List.length_map, ↓u3Neg_int, fdiv_pos, ↓q_tDict0, ix_1_0, ix_2_0, ix_2_1, ix_3_0, ix_3_1, ix_3_2, ix_4_0, ix_4_1, ix_4_2, ix_4_3, ix_5_0, ix_5_1, ix_5_2, ix_5_3, ix_5_4, decide_eq_false_iff_not, ↓lc_seq, ↓lc_r1, ↓lc_r2, ↓for_seq, ↓for_r1, ↓for_r2, ↓c3Tuple_it, ↓c3Min2_int, ↓c3Max2_int, ↓m3Pop_ref, ↓lc_zip, ↓for_zip, ↓lc_enum, ↓for_enum, ↓q_tAug3, r3AddI, ↓datD_pair, datD_pair, eqv_pair, ↓m3Index_ref, wipe3, ↓len_tup, ↓len_rol, ↓c3Len_tup, ↓c3Len_rol, ↓c3Len_ref, ↓c3Int_int, ↓c3Int_bl, ↓c3Abs_int, ↓c3All_ref, ↓c3Any_ref, ↓c3Isi_tl, ↓c3Isi_ty, ↓m3Append_ref, ↓s3Lst_ref, ↓r3Is_non, ↓r3IsNot_non, atI_0, atI_1, atI_2, atI_3, atI_4, tyD_tup, tyD_int, tyD_bl, mc_bool, mc_int, mc_str, mc_tuple, mc_list, mc_dict, ib_NoneType_bool, ib_NoneType_int, ib_NoneType_str, ib_NoneType_tuple, ib_NoneType_list, ib_NoneType_dict, ib_bool_bool, ib_bool_int, ib_bool_str, ib_bool_tuple, ib_bool_list, ib_bool_dict, ib_int_bool, ib_int_int, ib_int_str, ib_int_tuple, ib_int_list, ib_int_dict, ib_str_bool, ib_str_int, ib_str_str, ib_str_tuple, ib_str_list, ib_str_dict, ib_tuple_bool, ib_tuple_int, ib_tuple_str, ib_tuple_tuple, ib_tuple_list, ib_tuple_dict, ib_list_bool, ib_list_int, ib_list_str, ib_list_tuple, ib_list_list, ib_list_dict, ib_dict_bool, ib_dict_int, ib_dict_str, ib_dict_tuple, ib_dict_list, ib_dict_dict, tyD_str, tyD_non, tyD_rol, Bool.or_false, Bool.false_or, Bool.or_true, Bool.true_or, ↓truD_bl, ↓truD_int, List.getElem?_cons_zero, List.getElem?_cons_succ, List.set_cons_zero, List.set_cons_succ, Option.some.injEq, L3.D.bl.injEq, L3.D.int.injEq, L3.D.ref.injEq, L3.D.tup.injEq, L3.D.ty.injEq, L3.D.str.injEq, List.cons.injEq, and_true, true_and, exists_eq_left, exists_eq_left', exists_eq, exists_eq', exists_and_left, exists_and_right, exists_const, and_assoc, exists_eq_right_right, exists_eq_right, ↓ite_both, decide_eq_true_eq, reduceCtorEq, false_and, and_false, exists_false, not_false_eq_true, not_true_eq_false, Bool.false_eq_true, implies_true, forall_const, true_implies, false_implies, Bool.not_eq_true, Bool.not_true, Bool.not_false, decide_true, decide_false, Bool.not_eq_true', Bool.not_eq_false', Bool.not_eq_false, if_true, if_false, Bool.and_true, Bool.true_and, Bool.and_false, Bool.false_and, r3Eq, r3Ne]
  refine ⟨fun h => ret_same ?_, fun hn => ⟨fun h => ret_same ?_, fun hm l hl => ⟨by omega, by omega, by omega, fun l2 h2 => ?_⟩⟩⟩
  · rw [emp (.inl (by omega))] at q; exact q
  · rw [emp (.inr (by omega))] at q; exact q
  have s1 : MSub M (mupd M l (.lst [.tup [.int 0, .int 1]])) := MSub.new .refl hl
  generalize mupd M l (.lst [.tup [.int 0, .int 1]]) = M0 at s1 h2 ⊢
  obtain ⟨n, en⟩ : ∃ n, n = xs.length + ys.length - 1 := ⟨_, rfl⟩
  have e0 : ((xs.length : Int) + (ys.length : Int) - 1).toNat = n := by omega
  rw [e0]
  have eml : mulL p xs ys = (List.range n).map (coefN p xs ys xs.length) := by
    unfold mulL
    rw [if_neg (by omega), en]
  have acc0 : List.replicate n (D.tup [.int 0, .int 1]) = (List.range n).map fun at_ => nuD (coefN p xs ys 0 at_) := by
    rw [← zero_nu (p := p)]
    refine List.ext_getElem (by simp) fun i h1 h2 => ?_
    simp [coefN]
  rw [acc0]
  refine forB_acc (fun k σ acc => (∃ v4 v5 v6 v7, σ = [some (.int p), some (.tup (xs.map nuD)), some (.tup (ys.map nuD)), some (.ref l2), v4, v5, v6, v7]) ∧ acc = (List.range n).map fun at_ => nuD (coefN p xs ys k at_)) ⟨⟨_, _, _, _, rfl⟩, rfl⟩ (fun _ => trivial) ?_ ?_
  · rintro k d σ' acc N hd hk ⟨⟨v4, v5, v6, v7, rfl⟩, rfl⟩ nx
    obtain ⟨x0, hx0, rfl⟩ := enum_get hd
    have hkl : k < xs.length := by
      have : k < (enumD (xs.map nuD)).length := hk
      rw [enum_len, List.length_map] at this
      exact this
    have ex0 : x0 = nuD xs[k] := by
      rw [List.getElem?_map, List.getElem?_eq_getElem hkl] at hx0
      cases hx0
      rfl
    subst ex0
    simp -implicitDefEqProofs only [↓ex_bl, ↓ex_int, ↓ex_str, ↓ex_ref, ↓ex_tup, ↓ex_some, ↓ex_eq, ↓ex_eq', ↓ex_1, ↓ex_2, ↓ex_3, ↓ex_4, ↓ex_5, ↓ite_tt, ↓ite_ff, ↓v3_0, ↓v3_s, ↓eq_int, ↓ne_int, ↓eq_bl, ↓ne_bl, ↓eq_pair, ↓ne_pair, eqv_bool, eqv_str, ↓pow_lit, ↓ix_t0, ↓ix_t1, ↓ix_tup, ↓ix_it, ↓q_tC3, ↓q_tOp3, ↓q_tUn3, ↓q_tTest3, ↓q_tChain3, ↓q_tTruth3, ↓q_tAnd3, ↓q_tOr3, ↓q_tNot3, ↓q_tAndV3, ↓q_tOrV3, ↓q_tNotV3, ↓q_tIf3, ↓q_tNil3, ↓q_tCons3, ↓q_tTup3, ↓q_tLst3, ↓q_tNoPart3, ↓q_tPart3, ↓q_tSl3, ↓q_tRev3, ↓r3Rev_tup, ↓r3IsNot_bl, ↓r3Is_bl, ↓r3Sl_tup, ↓c3List_tup, ↓c3List_ref, ↓q_tCB3, ↓q_tBM3, ↓q_tBM03, ↓q_tNext3, ↓q_tSeq3, ↓q_tDrop3, ↓q_tRet3, ↓q_tRetN3, ↓q_tIfS3, ↓q_gName3, ↓gnil_eq, ↓gcons_eq, ↓q_gTup3, ↓q_gSub3, ↓q_tAsg3, ↓q_tPar3, ↓q_tYes3, ↓q_tCall3, ↓q_tTryAs3, ↓q_goneE_nx, ↓q_goneE_rt, ↓q_c3IsE, ↓is_bl, ↓c3Str_int, ↓q_tRaise3, ↓q_spA0, ↓q_spA1, ↓q_spA2, ↓q_spA3, ↓q_spA4, ↓q_spA5, ↓q_endF_rt, ↓q_endF_nx, ↓q_endF_xx, r3Lt, r3Le, r3Gt, r3Ge, r3Mod, r3Div, r3Pow, r3Sub, ↓r3I_int, ↓r3I0_int, ↓r3Add_int, ↓r3Add_tup, ↓r3Add_ref, ↓r3Mul_int, ↓r3Mul_ref, datD_non, ↓datD_bl, ↓datD_int, eqv_int, ↓items_tup, ↓items_rol, ↓items_new, ↓len_new, ↓mupd_same, L3.MO.lst.injEq, List.length_cons, List.length_nil, Nat.reduceAdd, Nat.zero_add, sizeLine_eq, Nat.reduceLeDiff, Nat.reducePow, Int.reduceLT, Int.reduceLE, Int.reducePow, Int.reduceToNat, Int.reduceNeg, Int.reduceAdd, Int.cast_ofNat_Int, Int.reduceSub, Int.reduceMul, Nat.reduceMul, Nat.reduceLT, cpow_lit, List.length_append, List.length_map, ↓u3Neg_int, fdiv_pos, ↓q_tDict0, ix_1_0, ix_2_0, ix_2_1, ix_3_0, ix_3_1, ix_3_2, ix_4_0, ix_4_1, ix_4_2, ix_4_3, ix_5_0, ix_5_1, ix_5_2, ix_5_3, ix_5_4, decide_eq_false_iff_not, ↓lc_seq, ↓lc_r1, ↓lc_r2, ↓for_seq, ↓for_r1, ↓for_r2, ↓c3Tuple_it, ↓c3Min2_int, ↓c3Max2_int, ↓m3Pop_ref, ↓lc_zip, ↓for_zip, ↓lc_enum, ↓for_enum, ↓q_tAug3, r3AddI, ↓datD_pair, datD_pair, eqv_pair, ↓m3Index_ref, wipe3, ↓len_tup, ↓len_rol, ↓c3Len_tup, ↓c3Len_rol, ↓c3Len_ref, ↓c3Int_int, ↓c3Int_bl, ↓c3Abs_int, ↓c3All_ref, ↓c3Any_ref, ↓c3Isi_tl, ↓c3Isi_ty, ↓m3Append_ref, ↓s3Lst_ref, ↓r3Is_non, ↓r3IsNot_non, atI_0, atI_1, atI_2, atI_3, atI_4, tyD_tup, tyD_int, tyD_bl, mc_bool, mc_int, mc_str, mc_tuple, mc_list, mc_dict, ib_NoneType_bool, ib_NoneType_int, ib_NoneType_str, ib_NoneType_tuple, ib_NoneType_list, ib_NoneType_dict, ib_bool_bool, ib_bool_int, ib_bool_str, ib_bool_tuple, ib_bool_list, ib_bool_dict, ib_int_bool, ib_int_int, ib_int_str, ib_int_tuple, ib_int_list, ib_int_dict, ib_str_bool, ib_str_int, ib_str_str, ib_str_tuple, ib_str_list, ib_str_dict, ib_tuple_bool, ib_tuple_int, ib_tuple_str, ib_tuple_tuple, ib_tuple_list, ib_tuple_dict, ib_list_bool, ib_list_int, ib_list_str, ib_list_tuple, ib_list_list, ib_list_dict, ib_dict_bool, ib_dict_int, ib_dict_str, ib_dict_tuple, ib_dict_list, ib_dict_dict, tyD_str, tyD_non, tyD_rol, Bool.or_false, Bool.false_or, Bool.or_true, Bool.true_or, ↓truD_bl, ↓truD_int, List.getElem?_cons_zero, List.getElem?_cons_succ, List.set_cons_zero, List.set_cons_succ, Option.some.injEq, L3.D.bl.injEq, L3.D.int.injEq, L3.D.ref.injEq, L3.D.tup.injEq, L3.D.ty.injEq, L3.D.str.injEq, List.cons.injEq, and_true, true_and, exists_eq_left, exists_eq_left', exists_eq, exists_eq', exists_and_left, exists_and_right, exists_const, and_assoc, exists_eq_right_right, exists_eq_right, ↓ite_both, decide_eq_true_eq, reduceCtorEq, false_and, and_false, exists_false, not_false_eq_true, not_true_eq_false, Bool.false_eq_true, implies_true, forall_const, true_implies, false_implies, Bool.not_eq_true, Bool.not_true, Bool.not_false, decide_true, decide_false, Bool.not_eq_true', Bool.not_eq_false', Bool.not_eq_false, if_true, if_false, Bool.and_true, Bool.true_and, Bool.and_false, Bool.false_and, r3Eq, r3Ne]
    have accj : ((List.range n).map fun at_ => nuD (coefN p xs ys k at_)) = (List.range n).map fun at_ => nuD (if at_ < k + 0 then coefN p xs ys (k + 1) at_ else coefN p xs ys k at_) := by
      refine List.map_congr_left fun at_ _ => ?_
      by_cases z : at_ < k + 0
      · rw [if_pos z]
        conv => rhs; unfold coefN
        rw [if_neg (by omega)]
      · rw [if_neg z]
    rw [accj]
    refine forB_acc (fun j σ acc => (∃ v6 v7, σ = [some (.int p), some (.tup (xs.map nuD)), some (.tup (ys.map nuD)), some (.ref l2), some (.int (k : Nat)), some (nuD xs[k]), v6, v7]) ∧ acc = (List.range n).map fun at_ => nuD (if at_ < k + j then coefN p xs ys (k + 1) at_ else coefN p xs ys k at_)) ⟨⟨_, _, rfl⟩, rfl⟩ (fun _ => trivial) ?_ ?_
    · rintro j d σ' acc N2 hd2 hj ⟨⟨v6, v7, rfl⟩, rfl⟩ nx2
      obtain ⟨y0, hy0, rfl⟩ := enum_get hd2
      have hjl : j < ys.length := by
        have : j < (enumD (ys.map nuD)).length := hj
        rw [enum_len, List.length_map] at this
        exact this
      have ey0 : y0 = nuD ys[j] := by
        rw [List.getElem?_map, List.getElem?_eq_getElem hjl] at hy0
        cases hy0
        rfl
      subst ey0
      have hkj : k + j < n := by omega
      have at_ : ∀ f : Nat → Nu, atI ((List.range n).map fun a => nuD (f a)) ((k : Int) + (j : Int)) = some (nuD (f (k + j))) := fun f => by
        have : atI ((List.range n).map fun a => nuD (f a)) (((k + j : Nat)) : Int) = some (nuD (f (k + j))) := atI_nat (by rw [List.getElem?_map, List.getElem?_range hkj]; rfl)
        rw [show (((k + j : Nat)) : Int) = (k : Int) + (j : Int) by omega] at this
        exact this
      have ixk : ixN n ((k : Int) + (j : Int)) = some (k + j) := by
        unfold ixN
        rw [if_pos (by omega), if_pos (by omega)]
        congr 1
      have hck : k * (s + t + 3) ≤ xs.length * (s + t + 3) := Nat.mul_le_mul_right _ (by omega)
      have hcx : (xs.length + 2) * (s + t + 3) = xs.length * (s + t + 3) + 2 * (s + t + 3) := by rw [Nat.add_mul]
      have zx' := zx xs[k] (List.getElem_mem hkl)
      have zy' := zy ys[j] (List.getElem_mem hjl)
      have hxk := hx xs[k] (List.getElem_mem hkl)
      have hyj := hy ys[j] (List.getElem_mem hjl)
      simp -implicitDefEqProofs only [sp_plus, sp_mul, at_, List.length_range, ixk, if_neg (show ¬ k + j < k + j by omega), ↓ex_bl, ↓ex_int, ↓ex_str, ↓ex_ref, ↓ex_tup, ↓ex_some, ↓ex_eq, ↓ex_eq', ↓ex_1, ↓ex_2, ↓ex_3, ↓ex_4, ↓ex_5, ↓ite_tt, ↓ite_ff, ↓v3_0, ↓v3_s, ↓eq_int, ↓ne_int, ↓eq_bl, ↓ne_bl, ↓eq_pair, ↓ne_pair, eqv_bool, eqv_str, ↓pow_lit, ↓ix_t0, ↓ix_t1, ↓ix_tup, ↓ix_it, ↓q_tC3, ↓q_tOp3, ↓q_tUn3, ↓q_tTest3, ↓q_tChain3, ↓q_tTruth3, ↓q_tAnd3, ↓q_tOr3, ↓q_tNot3, ↓q_tAndV3, ↓q_tOrV3, ↓q_tNotV3, ↓q_tIf3, ↓q_tNil3, ↓q_tCons3, ↓q_tTup3, ↓q_tLst3, ↓q_tNoPart3, ↓q_tPart3, ↓q_tSl3, ↓q_tRev3, ↓r3Rev_tup, ↓r3IsNot_bl, ↓r3Is_bl, ↓r3Sl_tup, ↓c3List_tup, ↓c3List_ref, ↓q_tCB3, ↓q_tBM3, ↓q_tBM03, ↓q_tNext3, ↓q_tSeq3, ↓q_tDrop3, ↓q_tRet3, ↓q_tRetN3, ↓q_tIfS3, ↓q_gName3, ↓gnil_eq, ↓gcons_eq, ↓q_gTup3, ↓q_gSub3, ↓q_tAsg3, ↓q_tPar3, ↓q_tYes3, ↓q_tCall3, ↓q_tTryAs3, ↓q_goneE_nx, ↓q_goneE_rt, ↓q_c3IsE, ↓is_bl, ↓c3Str_int, ↓q_tRaise3, ↓q_spA0, ↓q_spA1, ↓q_spA2, ↓q_spA3, ↓q_spA4, ↓q_spA5, ↓q_endF_rt, ↓q_endF_nx, ↓q_endF_xx, r3Lt, r3Le, r3Gt, r3Ge, r3Mod, r3Div, r3Pow, r3Sub, ↓r3I_int, ↓r3I0_int, ↓r3Add_int, ↓r3Add_tup, ↓r3Add_ref, ↓r3Mul_int, ↓r3Mul_ref, datD_non, ↓datD_bl, ↓datD_int, eqv_int, ↓items_tup, ↓items_rol, ↓items_new, ↓len_new, ↓mupd_same, L3.MO.lst.injEq, List.length_cons, List.length_nil, Nat.reduceAdd, Nat.zero_add, sizeLine_eq, Nat.reduceLeDiff, Nat.reducePow, Int.reduceLT, Int.reduceLE, Int.reducePow, Int.reduceToNat, Int.reduceNeg, Int.reduceAdd, Int.cast_ofNat_Int, Int.reduceSub, Int.reduceMul, Nat.reduceMul, Nat.reduceLT, cpow_lit, List.length_append, List.length_map, ↓u3Neg_int, fdiv_pos, ↓q_tDict0, ix_1_0, ix_2_0, ix_2_1, ix_3_0, ix_3_1, ix_3_2, ix_4_0, ix_4_1, ix_4_2, ix_4_3, ix_5_0, ix_5_1, ix_5_2, ix_5_3, ix_5_4, decide_eq_false_iff_not, ↓lc_seq, ↓lc_r1, ↓lc_r2, ↓for_seq, ↓for_r1, ↓for_r2, ↓c3Tuple_it, ↓c3Min2_int, ↓c3Max2_int, ↓m3Pop_ref, ↓lc_zip, ↓for_zip, ↓lc_enum, ↓for_enum, ↓q_tAug3, r3AddI, ↓datD_pair, datD_pair, eqv_pair, ↓m3Index_ref, wipe3, ↓len_tup, ↓len_rol, ↓c3Len_tup, ↓c3Len_rol, ↓c3Len_ref, ↓c3Int_int, ↓c3Int_bl, ↓c3Abs_int, ↓c3All_ref, ↓c3Any_ref, ↓c3Isi_tl, ↓c3Isi_ty, ↓m3Append_ref, ↓s3Lst_ref, ↓r3Is_non, ↓r3IsNot_non, atI_0, atI_1, atI_2, atI_3, atI_4, tyD_tup, tyD_int, tyD_bl, mc_bool, mc_int, mc_str, mc_tuple, mc_list, mc_dict, ib_NoneType_bool, ib_NoneType_int, ib_NoneType_str, ib_NoneType_tuple, ib_NoneType_list, ib_NoneType_dict, ib_bool_bool, ib_bool_int, ib_bool_str, ib_bool_tuple, ib_bool_list, ib_bool_dict, ib_int_bool, ib_int_int, ib_int_str, ib_int_tuple, ib_int_list, ib_int_dict, ib_str_bool, ib_str_int, ib_str_str, ib_str_tuple, ib_str_list, ib_str_dict, ib_tuple_bool, ib_tuple_int, ib_tuple_str, ib_tuple_tuple, ib_tuple_list, ib_tuple_dict, ib_list_bool, ib_list_int, ib_list_str, ib_list_tuple, ib_list_list, ib_list_dict, ib_dict_bool, ib_dict_int, ib_dict_str, ib_dict_tuple, ib_dict_list, ib_dict_dict, tyD_str, tyD_non, tyD_rol, Bool.or_false, Bool.false_or, Bool.or_true, Bool.true_or, ↓truD_bl, ↓truD_int, List.getElem?_cons_zero, List.getElem?_cons_succ, List.set_cons_zero, List.set_cons_succ, Option.some.injEq, L3.D.bl.injEq, L3.D.int.injEq, L3.D.ref.injEq, L3.D.tup.injEq, L3.D.ty.injEq, L3.D.str.injEq, List.cons.injEq, and_true, true_and, exists_eq_left, exists_eq_left', exists_eq, exists_eq', exists_and_left, exists_and_right, exists_const, and_assoc, exists_eq_right_right, exists_eq_right, ↓ite_both, decide_eq_true_eq, reduceCtorEq, false_and, and_false, exists_false, not_false_eq_true, not_true_eq_false, Bool.false_eq_true, implies_true, forall_const, true_implies, false_implies, Bool.not_eq_true, Bool.not_true, Bool.not_false, decide_true, decide_false, Bool.not_eq_true', Bool.not_eq_false', Bool.not_eq_false, if_true, if_false, Bool.and_true, Bool.true_and, Bool.and_false, Bool.false_and, r3Eq, r3Ne]
      refine ⟨xs[k], rfl, ys[j], rfl, hg, hxk, hyj, ⟨_, zx', _, zy', by omega⟩, coefN p xs ys k (k + j), rfl, mulN p xs[k] ys[j], rfl, hg, coef_ok pl hx hy _ _, ok_mul hxk hyj, ⟨_, coef_sz zx zy k (k + j), _, sz_mul zx' zy', by omega⟩, ?_⟩
      rw [mupd_mupd]
      refine nx2 _ _ _ .refl ⟨⟨_, _, rfl⟩, ?_⟩
      refine List.ext_getElem (by simp) fun i h1 h2' => ?_
      have hi : i < n := by simpa using h1
      rw [List.getElem_set]
      simp only [List.getElem_map, List.getElem_range]
      by_cases z : k + j = i
      · subst z
        rw [if_pos rfl, if_pos (by omega)]
        conv => rhs; unfold coefN
        rw [if_pos ⟨by omega, by omega⟩, show k + j - k = j by omega]
        rw [List.getD_eq_getElem?_getD, List.getElem?_eq_getElem hkl, List.getD_eq_getElem?_getD, List.getElem?_eq_getElem hjl]
        rfl
      · rw [if_neg z]
        by_cases w : i < k + j
        · rw [if_pos w, if_pos (by omega)]
        · rw [if_neg w, if_neg (by omega)]
    · rintro σ' acc ⟨⟨v6, v7, rfl⟩, rfl⟩
      refine nx _ _ _ .refl ⟨⟨_, _, _, _, rfl⟩, ?_⟩
      refine List.map_congr_left fun at_ ha => ?_
      have hlen : (enumD (ys.map nuD)).length = ys.length := by rw [enum_len, List.length_map]
      show nuD (if at_ < k + (enumD (ys.map nuD)).length then _ else _) = _
      rw [hlen]
      by_cases z : at_ < k + ys.length
      · rw [if_pos z]
      · rw [if_neg z]
        conv => rhs; unfold coefN
        rw [if_neg (by omega)]
  · rintro σ' acc ⟨⟨v4, v5, v6, v7, rfl⟩, rfl⟩
    have hlen : (enumD (xs.map nuD)).length = xs.length := by rw [enum_len, List.length_map]
    simp -implicitDefEqProofs only [sp_trimmed, ↓ex_bl, ↓ex_int, ↓ex_str, ↓ex_ref, ↓ex_tup, ↓ex_some, ↓ex_eq, ↓ex_eq', ↓ex_1, ↓ex_2, ↓ex_3, ↓ex_4, ↓ex_5, ↓ite_tt, ↓ite_ff, ↓v3_0, ↓v3_s, ↓eq_int, ↓ne_int, ↓eq_bl, ↓ne_bl, ↓eq_pair, ↓ne_pair, eqv_bool, eqv_str, ↓pow_lit, ↓ix_t0, ↓ix_t1, ↓ix_tup, ↓ix_it, ↓q_tC3, ↓q_tOp3, ↓q_tUn3, ↓q_tTest3, ↓q_tChain3, ↓q_tTruth3, ↓q_tAnd3, ↓q_tOr3, ↓q_tNot3, ↓q_tAndV3, ↓q_tOrV3, ↓q_tNotV3, ↓q_tIf3, ↓q_tNil3, ↓q_tCons3, ↓q_tTup3, ↓q_tLst3, ↓q_tNoPart3, ↓q_tPart3, ↓q_tSl3, ↓q_tRev3, ↓r3Rev_tup, ↓r3IsNot_bl, ↓r3Is_bl, ↓r3Sl_tup, ↓c3List_tup, ↓c3List_ref, ↓q_tCB3, ↓q_tBM3, ↓q_tBM03, ↓q_tNext3, ↓q_tSeq3, ↓q_tDrop3, ↓q_tRet3, ↓q_tRetN3, ↓q_tIfS3, ↓q_gName3, ↓gnil_eq, ↓gcons_eq, ↓q_gTup3, ↓q_gSub3, ↓q_tAsg3, ↓q_tPar3, ↓q_tYes3, ↓q_tCall3, ↓q_tTryAs3, ↓q_goneE_nx, ↓q_goneE_rt, ↓q_c3IsE, ↓is_bl, ↓c3Str_int, ↓q_tRaise3, ↓q_spA0, ↓q_spA1, ↓q_spA2, ↓q_spA3, ↓q_spA4, ↓q_spA5, ↓q_endF_rt, ↓q_endF_nx, ↓q_endF_xx, r3Lt, r3Le, r3Gt, r3Ge, r3Mod, r3Div, r3Pow, r3Sub, ↓r3I_int, ↓r3I0_int, ↓r3Add_int, ↓r3Add_tup, ↓r3Add_ref, ↓r3Mul_int, ↓r3Mul_ref, datD_non, ↓datD_bl, ↓datD_int, eqv_int, ↓items_tup, ↓items_rol, ↓items_new, ↓len_new, ↓mupd_same, L3.MO.lst.injEq, List.length_cons, List.length_nil, Nat.reduceAdd, Nat.zero_add, sizeLine_eq, Nat.reduceLeDiff, Nat.reducePow, Int.reduceLT, Int.reduceLE, Int.reducePow, Int.reduceToNat, Int.reduceNeg, Int.reduceAdd, Int.cast_ofNat_Int, Int.reduceSub, Int.reduceMul, Nat.reduceMul, Nat.reduceLT, cpow_lit, List.length_append, List.length_map, ↓u3Neg_int, fdiv_pos, ↓q_tDict0, ix_1_0, ix_2_0, ix_2_1, ix_3_0, ix_3_1, ix_3_2, ix_4_0, ix_4_1, ix_4_2, ix_4_3, ix_5_0, ix_5_1, ix_5_2, ix_5_3, ix_5_4, decide_eq_false_iff_not, ↓lc_seq, ↓lc_r1, ↓lc_r2, ↓for_seq, ↓for_r1, ↓for_r2, ↓c3Tuple_it, ↓c3Min2_int, ↓c3Max2_int, ↓m3Pop_ref, ↓lc_zip, ↓for_zip, ↓lc_enum, ↓for_enum, ↓q_tAug3, r3AddI, ↓datD_pair, datD_pair, eqv_pair, ↓m3Index_ref, wipe3, ↓len_tup, ↓len_rol, ↓c3Len_tup, ↓c3Len_rol, ↓c3Len_ref, ↓c3Int_int, ↓c3Int_bl, ↓c3Abs_int, ↓c3All_ref, ↓c3Any_ref, ↓c3Isi_tl, ↓c3Isi_ty, ↓m3Append_ref, ↓s3Lst_ref, ↓r3Is_non, ↓r3IsNot_non, atI_0, atI_1, atI_2, atI_3, atI_4, tyD_tup, tyD_int, tyD_bl, mc_bool, mc_int, mc_str, mc_tuple, mc_list, mc_dict, ib_NoneType_bool, ib_NoneType_int, ib_NoneType_str, ib_NoneType_tuple, ib_NoneType_list, ib_NoneType_dict, ib_bool_bool, ib_bool_int, ib_bool_str, ib_bool_tuple, ib_bool_list, ib_bool_dict, ib_int_bool, ib_int_int, ib_int_str, ib_int_tuple, ib_int_list, ib_int_dict, ib_str_bool, ib_str_int, ib_str_str, ib_str_tuple, ib_str_list, ib_str_dict, ib_tuple_bool, ib_tuple_int, ib_tuple_str, ib_tuple_tuple, ib_tuple_list, ib_tuple_dict, ib_list_bool, ib_list_int, ib_list_str, ib_list_tuple, ib_list_list, ib_list_dict, ib_dict_bool, ib_dict_int, ib_dict_str, ib_dict_tuple, ib_dict_list, ib_dict_dict, tyD_str, tyD_non, tyD_rol, Bool.or_false, Bool.false_or, Bool.or_true, Bool.true_or, ↓truD_bl, ↓truD_int, List.getElem?_cons_zero, List.getElem?_cons_succ, List.set_cons_zero, List.set_cons_succ, Option.some.injEq, L3.D.bl.injEq, L3.D.int.injEq, L3.D.ref.injEq, L3.D.tup.injEq, L3.D.ty.injEq, L3.D.str.injEq, List.cons.injEq, and_true, true_and, exists_eq_left, exists_eq_left', exists_eq, exists_eq', exists_and_left, exists_and_right, exists_const, and_assoc, exists_eq_right_right, exists_eq_right, ↓ite_both, decide_eq_true_eq, reduceCtorEq, false_and, and_false, exists_false, not_false_eq_true, not_true_eq_false, Bool.false_eq_true, implies_true, forall_const, true_implies, false_implies, Bool.not_eq_true, Bool.not_true, Bool.not_false, decide_true, decide_false, Bool.not_eq_true', Bool.not_eq_false', Bool.not_eq_false, if_true, if_false, Bool.and_true, Bool.true_and, Bool.and_false, Bool.false_and, r3Eq, r3Ne]
    refine ⟨(List.range n).map (coefN p xs ys xs.length), ?_, ⟨p, ?_⟩, ?_⟩
    · show _ = _
      rw [hlen, List.map_map]
      rfl
    · intro x hx'
      obtain ⟨at_, _, rfl⟩ := List.mem_map.mp hx'
      exact coef_ok pl hx hy _ _
    · rw [← eml]
      exact ret_pure (s1.new h2) q

def sp_multiplied (K : PySem.W.Frag) : Sp3 := spA3 fun g a b M Q X => HasTy M g ∧ tyA M a ∧ tyA M b ∧ (isGr g = false → X (.ref (He.ga K "NoGround")) [] M) ∧
  (∀ p, g = .int p → Gd p → (isPolyB p a && isPolyB p b) = false → X (.ref (He.ga K "NoPolynomial")) [] M) ∧
  (∀ p xs ys, g = .int p → Gd p → a = polyD xs → b = polyD ys → PolyOk p xs → PolyOk p ys → (∃ s t, (∀ x ∈ xs, Sz (s + 1) x) ∧ (∀ x ∈ ys, Sz (t + 1) x) ∧ (xs.length + 2) * (s + t + 3) ≤ 7900 ∧ ys.length ≤ 100000) ∧ Q (polyD (trimL (mulL p xs ys))) M)
abbrev N_multiplied : List Str := ["ground", "one", "other"]
def tr_multiplied (K : PySem.W.Frag) : TS3 := (tSeq3 (tDrop3 (tCall3 (sp_check_ground K) (tCons3 (tVar3 0) tNil3))) (tSeq3 (tDrop3 (tCall3 (sp_check_polys K) (tCons3 (tVar3 0) (tCons3 (tTup3 (tCons3 (tVar3 1) (tCons3 (tVar3 2) tNil3))) tNil3)))) (tRet3 (tCall3 (sp_poly_mul K) (tCons3 (tVar3 0) (tCons3 (tVar3 1) (tCons3 (tVar3 2) tNil3)))))))
theorem rd_multiplied (K : PySem.W.Frag) : ∀ ds M Q E, sp_multiplied K ds M Q E → tr_multiplied K (endF M Q E) (start3 N_multiplied ds) M := by
  rintro ds M Q E ⟨g, a, b, rfl, hg, ta, tb, q1, q2, q3⟩
  unfold tr_multiplied
  simp only [start3, List.map_cons, List.map_nil, List.length_cons, List.length_nil, List.cons_append, List.nil_append, List.replicate_succ, List.replicate_zero, Nat.reduceAdd, Nat.reduceSub, Nat.zero_add]
  simp -implicitDefEqProofs only [sp_check_ground, sp_check_polys, ↓ex_bl, ↓ex_int, ↓ex_str, ↓ex_ref, ↓ex_tup, ↓ex_some, ↓ex_eq, ↓ex_eq', ↓ex_1, ↓ex_2, ↓ex_3, ↓ex_4, ↓ex_5, ↓ite_tt, ↓ite_ff, ↓v3_0, ↓v3_s, ↓eq_int, ↓ne_int, ↓eq_bl, ↓ne_bl, ↓eq_pair, ↓ne_pair, eqv_bool, eqv_str, ↓pow_lit, ↓ix_t0, ↓ix_t1, ↓ix_tup, ↓ix_it, ↓q_tC3, ↓q_tOp3, ↓q_tUn3, ↓q_tTest3, ↓q_tChain3, ↓q_tTruth3, ↓q_tAnd3, ↓q_tOr3, ↓q_tNot3, ↓q_tAndV3, ↓q_tOrV3, ↓q_tNotV3, ↓q_tIf3, ↓q_tNil3, ↓q_tCons3, ↓q_tTup3, ↓q_tLst3, ↓q_tNoPart3, ↓q_tPart3, ↓q_tSl3, ↓q_tRev3, ↓r3Rev_tup, ↓r3IsNot_bl, ↓r3Is_bl, ↓r3Sl_tup, ↓c3List_tup, ↓c3List_ref, ↓q_tCB3, ↓q_tBM3, ↓q_tBM03, ↓q_tNext3, ↓q_tSeq3, ↓q_tDrop3, ↓q_tRet3, ↓q_tRetN3, ↓q_tIfS3, ↓q_gName3, ↓gnil_eq, ↓gcons_eq, ↓q_gTup3, ↓q_gSub3, ↓q_tAsg3, ↓q_tPar3, ↓q_tYes3, ↓q_tCall3, ↓q_tTryAs3, ↓q_goneE_nx, ↓q_goneE_rt, ↓q_c3IsE, ↓is_bl, ↓c3Str_int, ↓q_tRaise3, ↓q_spA0, ↓q_spA1, ↓q_spA2, ↓q_spA3, ↓q_spA4, ↓q_spA5, ↓q_endF_rt, ↓q_endF_nx, ↓q_endF_xx, r3Lt, r3Le, r3Gt, r3Ge, r3Mod, r3Div, r3Pow, r3Sub, ↓r3I_int, ↓r3I0_int, ↓r3Add_int, ↓r3Add_tup, ↓r3Add_ref, ↓r3Mul_int, ↓r3Mul_ref, datD_non, ↓datD_bl, ↓datD_int, eqv_int, ↓items_tup, ↓items_rol, ↓items_new, ↓len_new, ↓mupd_same, L3.MO.lst.injEq, List.length_cons, List.length_nil, Nat.reduceAdd, Nat.zero_add, sizeLine_eq, Nat.reduceLeDiff, Nat.reducePow, Int.reduceLT, Int.reduceLE, Int.reducePow, Int.reduceToNat, Int.reduceNeg, Int.reduceAdd, Int.cast_ofNat_Int, Int.reduceSub, Int.reduceMul, Nat.reduceMul, Nat.reduceLT, cpow_lit, List.length_append, List.length_map, ↓u3Neg_int, fdiv_pos, ↓q_tDict0, ix_1_0, ix_2_0, ix_2_1, ix_3_0, ix_3_1, ix_3_2, ix_4_0, ix_4_1, ix_4_2, ix_4_3, ix_5_0, ix_5_1, ix_5_2, ix_5_3, ix_5_4, decide_eq_false_iff_not, ↓lc_seq, ↓lc_r1, ↓lc_r2, ↓for_seq, ↓for_r1, ↓for_r2, ↓c3Tuple_it, ↓c3Min2_int, ↓c3Max2_int, ↓m3Pop_ref, ↓lc_zip, ↓for_zip, ↓lc_enum, ↓for_enum, ↓q_tAug3, r3AddI, ↓datD_pair, datD_pair, eqv_pair, ↓m3Index_ref, wipe3, ↓len_tup, ↓len_rol, ↓c3Len_tup, ↓c3Len_rol, ↓c3Len_ref, ↓c3Int_int, ↓c3Int_bl, ↓c3Abs_int, ↓c3All_ref, ↓c3Any_ref, ↓c3Isi_tl, ↓c3Isi_ty, ↓m3Append_ref, ↓s3Lst_ref, ↓r3Is_non, ↓r3IsNot_non, atI_0, atI_1, atI_2, atI_3, atI_4, tyD_tup, tyD_int, tyD_bl, mc_bool, mc_int, mc_str, mc_tuple, mc_list, mc_dict, ib_NoneType_bool, ib_NoneType_int, ib_NoneType_str, ib_NoneType_tuple, ib_NoneType_list, ib_NoneType_dict, ib_bool_bool, ib_bool_int, ib_bool_str, ib_bool_tuple, ib_bool_list, ib_bool_dict, ib_int_bool, ib_int_int, ib_int_str, ib_int_tuple, ib_int_list, ib_int_dict, ib_str_bool, ib_str_int, ib_str_str, ib_str_tuple, ib_str_list, ib_str_dict, ib_tuple_bool, ib_tuple_int, ib_tuple_str, ib_tuple_tuple, ib_tuple_list, ib_tuple_dict, ib_list_bool, ib_list_int, ib_list_str, ib_list_tuple, ib_list_list, ib_list_dict, ib_dict_bool, ib_dict_int, ib_dict_str, ib_dict_tuple, ib_dict_list, ib_dict_dict, tyD_str, tyD_non, tyD_rol, Bool.or_false, Bool.false_or, Bool.or_true, Bool.true_or, ↓truD_bl, ↓truD_int, List.getElem?_cons_zero, List.getElem?_cons_succ, List.set_cons_zero, List.set_cons_succ, Option.some.injEq, L3.D.bl.injEq, L3.D.int.injEq, L3.D.ref.injEq, L3.D.tup.injEq, L3.D.ty.injEq, L3.D.str.injEq, List.cons.injEq, and_true, true_and, exists_eq_left, exists_eq_left', exists_eq, exists_eq', exists_and_left, exists_and_right, exists_const, and_assoc, exists_eq_right_right, exists_eq_right, ↓ite_both, decide_eq_true_eq, reduceCtorEq, false_and, and_false, exists_false, not_false_eq_true, not_true_eq_false, Bool.false_eq_true, implies_true, forall_const, true_implies, false_implies, Bool.not_eq_true, Bool.not_true, Bool.not_false, decide_true, decide_false, Bool.not_eq_true', Bool.not_eq_false', Bool.not_eq_false, if_true, if_false, Bool.and_true, Bool.true_and, Bool.and_false, Bool.false_and, r3Eq, r3Ne]
  refine ⟨hg, fun h => ?_, fun h => ret_x .refl (q1 h)⟩
  obtain ⟨p, rfl⟩ := isGr_int h
  have gp := gd_of h
  refine ⟨p, rfl, gp, ?_, fun hp => ?_, fun hp => ret_x .refl (q2 p rfl gp ?_)⟩
  · simp only [List.mem_cons, List.not_mem_nil, or_false]
    rintro x (rfl | rfl)
    · exact ta
    · exact tb
  · simp only [List.all_cons, List.all_nil, Bool.and_true, Bool.and_eq_true] at hp
    obtain ⟨xs, rfl, hx⟩ := poly_of gp.lt.1 hp.1
    obtain ⟨ys, rfl, hy⟩ := poly_of gp.lt.1 hp.2
    obtain ⟨hs, q⟩ := q3 p xs ys rfl gp rfl rfl hx hy
    exact ⟨_, _, _, rfl, p, rfl, xs, rfl, ys, rfl, gp, hx.all, hy.all, hs, ret_same q⟩
  · simpa only [List.all_cons, List.all_nil, Bool.and_true] using hp

def sp__law_sameR (K : PySem.W.Frag) : Nat → Sp3
  | 0 => fun _ _ _ _ => False
  | n + 1 => spA2 fun a b M Q X => SameV M (n + 1) a b ∧ Q (.bl true) M
abbrev sp__law_same (K : PySem.W.Frag) : Sp3 := sp__law_sameR K 40
abbrev N__law_same : List Str := ["told", "due", "one", "two"]
def tr__law_same (K : PySem.W.Frag) (n : Nat) : TS3 := (tSeq3 (tIfS3 (tTruth3 (tCB3 c3Isi (tCons3 (tVar3 1) (tCons3 (tTup3 (tCons3 (tC3 (.ty "tuple")) (tCons3 (tC3 (.ty "list")) tNil3))) tNil3)))) (tSeq3 (tIfS3 (tOr3 (tTest3 (tOp3 r3Ne (tCB3 c3Isi (tCons3 (tVar3 0) (tCons3 (tC3 (.ty "tuple")) tNil3))) (tCB3 c3Isi (tCons3 (tVar3 1) (tCons3 (tC3 (.ty "tuple")) tNil3))))) (tNot3 (tTruth3 (tCB3 c3Isi (tCons3 (tVar3 0) (tCons3 (tTup3 (tCons3 (tC3 (.ty "tuple")) (tCons3 (tC3 (.ty "list")) tNil3))) tNil3)))))) (tRet3 (tC3 (.bl false))) tNext3) (tRet3 (tAndV3 (tOp3 r3Eq (tCB3 c3Len (tCons3 (tVar3 0) tNil3)) (tCB3 c3Len (tCons3 (tVar3 1) tNil3))) (tCB3 c3All (tCons3 (tLc3 (iZip3 (tCons3 (tVar3 0) (tCons3 (tVar3 1) tNil3))) (gTup3 2 (gCons3 (gName3 2) (gCons3 (gName3 3) gNil3))) tYes3 (tCall3 (sp__law_sameR K n) (tCons3 (tVar3 2) (tCons3 (tVar3 3) tNil3))) [2, 3]) tNil3))))) tNext3) (tRet3 (tAndV3 (tOp3 r3Eq (tCB3 c3Isi (tCons3 (tVar3 0) (tCons3 (tC3 (.ty "bool")) tNil3))) (tCB3 c3Isi (tCons3 (tVar3 1) (tCons3 (tC3 (.ty "bool")) tNil3)))) (tOp3 r3Eq (tVar3 0) (tVar3 1)))))
theorem rd__law_same (K : PySem.W.Frag) (n : Nat) : ∀ ds M Q E, sp__law_sameR K (n + 1) ds M Q E → tr__law_same K n (endF M Q E) (start3 N__law_same ds) M := by
  rintro ds M Q E ⟨a, b, rfl, h, q⟩
  unfold tr__law_same
  simp only [start3, List.map_cons, List.map_nil, List.length_cons, List.length_nil, List.cons_append, List.nil_append, List.replicate_succ, List.replicate_zero, Nat.reduceAdd, Nat.reduceSub, Nat.zero_add]
  have walk : ∀ (xs ys : List D), xs.length = ys.length → (∀ (i : Nat) x y, xs[i]? = some x → ys[i]? = some y → SameV M n x y) → ∀ (i : Nat) d, (zipD xs ys)[i]? = some d → ∀ R : VK3, R (.bl true) M →
      gTup3 2 (gCons3 (gName3 2) (gCons3 (gName3 3) gNil3)) d [some a, some b, none, none] M (fun σ2 M2 => tCall3 (sp__law_sameR K n) (tCons3 (tVar3 2) (tCons3 (tVar3 3) tNil3)) σ2 M2 R F3) F3 := by
    intro xs ys hl hs i d hd R hR
    obtain ⟨x, y, h1, h2, rfl⟩ := zip_get hd
    simp -implicitDefEqProofs only [↓ex_bl, ↓ex_int, ↓ex_str, ↓ex_ref, ↓ex_tup, ↓ex_some, ↓ex_eq, ↓ex_eq', ↓ex_1, ↓ex_2, ↓ex_3, ↓ex_4, ↓ex_5, ↓ite_tt, ↓ite_ff, ↓v3_0, ↓v3_s, ↓eq_int, ↓ne_int, ↓eq_bl, ↓ne_bl, ↓eq_pair, ↓ne_pair, eqv_bool, eqv_str, ↓pow_lit, ↓ix_t0, ↓ix_t1, ↓ix_tup, ↓ix_it, ↓q_tC3, ↓q_tOp3, ↓q_tUn3, ↓q_tTest3, ↓q_tChain3, ↓q_tTruth3, ↓q_tAnd3, ↓q_tOr3, ↓q_tNot3, ↓q_tAndV3, ↓q_tOrV3, ↓q_tNotV3, ↓q_tIf3, ↓q_tNil3, ↓q_tCons3, ↓q_tTup3, ↓q_tLst3, ↓q_tNoPart3, ↓q_tPart3, ↓q_tSl3, ↓q_tRev3, ↓r3Rev_tup, ↓r3IsNot_bl, ↓r3Is_bl, ↓r3Sl_tup, ↓c3List_tup, ↓c3List_ref, ↓q_tCB3, ↓q_tBM3, ↓q_tBM03, ↓q_tNext3, ↓q_tSeq3, ↓q_tDrop3, ↓q_tRet3, ↓q_tRetN3, ↓q_tIfS3, ↓q_gName3, ↓gnil_eq, ↓gcons_eq, ↓q_gTup3, ↓q_gSub3, ↓q_tAsg3, ↓q_tPar3, ↓q_tYes3, ↓q_tCall3, ↓q_tTryAs3, ↓q_goneE_nx, ↓q_goneE_rt, ↓q_c3IsE, ↓is_bl, ↓c3Str_int, ↓q_tRaise3, ↓q_spA0, ↓q_spA1, ↓q_spA2, ↓q_spA3, ↓q_spA4, ↓q_spA5, ↓q_endF_rt, ↓q_endF_nx, ↓q_endF_xx, r3Lt, r3Le, r3Gt, r3Ge, r3Mod, r3Div, r3Pow, r3Sub, ↓r3I_int, ↓r3I0_int, ↓r3Add_int, ↓r3Add_tup, ↓r3Add_ref, ↓r3Mul_int, ↓r3Mul_ref, datD_non, ↓datD_bl, ↓datD_int, eqv_int, ↓items_tup, ↓items_rol, ↓items_new, ↓len_new, ↓mupd_same, L3.MO.lst.injEq, List.length_cons, List.length_nil, Nat.reduceAdd, Nat.zero_add, sizeLine_eq, Nat.reduceLeDiff, Nat.reducePow, Int.reduceLT, Int.reduceLE, Int.reducePow, Int.reduceToNat, Int.reduceNeg, Int.reduceAdd, Int.cast_ofNat_Int, Int.reduceSub, Int.reduceMul, Nat.reduceMul, Nat.reduceLT, cpow_lit, List.length_append, List.length_map, ↓u3Neg_int, fdiv_pos, ↓q_tDict0, ix_1_0, ix_2_0, ix_2_1, ix_3_0, ix_3_1, ix_3_2, ix_4_0, ix_4_1, ix_4_2, ix_4_3, ix_5_0, ix_5_1, ix_5_2, ix_5_3, ix_5_4, decide_eq_false_iff_not, ↓lc_seq, ↓lc_r1, ↓lc_r2, ↓for_seq, ↓for_r1, ↓for_r2, ↓c3Tuple_it, ↓c3Min2_int, ↓c3Max2_int, ↓m3Pop_ref, ↓lc_zip, ↓for_zip, ↓lc_enum, ↓for_enum, ↓q_tAug3, r3AddI, ↓datD_pair, datD_pair, eqv_pair, ↓m3Index_ref, wipe3, ↓len_tup, ↓len_rol, ↓c3Len_tup, ↓c3Len_rol, ↓c3Len_ref, ↓c3Int_int, ↓c3Int_bl, ↓c3Abs_int, ↓c3All_ref, ↓c3Any_ref, ↓c3Isi_tl, ↓c3Isi_ty, ↓m3Append_ref, ↓s3Lst_ref, ↓r3Is_non, ↓r3IsNot_non, atI_0, atI_1, atI_2, atI_3, atI_4, tyD_tup, tyD_int, tyD_bl, mc_bool, mc_int, mc_str, mc_tuple, mc_list, mc_dict, ib_NoneType_bool, ib_NoneType_int, ib_NoneType_str, ib_NoneType_tuple, ib_NoneType_list, ib_NoneType_dict, ib_bool_bool, ib_bool_int, ib_bool_str, ib_bool_tuple, ib_bool_list, ib_bool_dict, ib_int_bool, ib_int_int, ib_int_str, ib_int_tuple, ib_int_list, ib_int_dict, ib_str_bool, ib_str_int, ib_str_str, ib_str_tuple, ib_str_list, ib_str_dict, ib_tuple_bool, ib_tuple_int, ib_tuple_str, ib_tuple_tuple, ib_tuple_list, ib_tuple_dict, ib_list_bool, ib_list_int, ib_list_str, ib_list_tuple, ib_list_list, ib_list_dict, ib_dict_bool, ib_dict_int, ib_dict_str, ib_dict_tuple, ib_dict_list, ib_dict_dict, tyD_str, tyD_non, tyD_rol, Bool.or_false, Bool.false_or, Bool.or_true, Bool.true_or, ↓truD_bl, ↓truD_int, List.getElem?_cons_zero, List.getElem?_cons_succ, List.set_cons_zero, List.set_cons_succ, Option.some.injEq, L3.D.bl.injEq, L3.D.int.injEq, L3.D.ref.injEq, L3.D.tup.injEq, L3.D.ty.injEq, L3.D.str.injEq, List.cons.injEq, and_true, true_and, exists_eq_left, exists_eq_left', exists_eq, exists_eq', exists_and_left, exists_and_right, exists_const, and_assoc, exists_eq_right_right, exists_eq_right, ↓ite_both, decide_eq_true_eq, reduceCtorEq, false_and, and_false, exists_false, not_false_eq_true, not_true_eq_false, Bool.false_eq_true, implies_true, forall_const, true_implies, false_implies, Bool.not_eq_true, Bool.not_true, Bool.not_false, decide_true, decide_false, Bool.not_eq_true', Bool.not_eq_false', Bool.not_eq_false, if_true, if_false, Bool.and_true, Bool.true_and, Bool.and_false, Bool.false_and, r3Eq, r3Ne]
    have := hs i x y h1 h2
    cases n with
    | zero => exact this.elim
    | succ n =>
      simp -implicitDefEqProofs only [sp__law_sameR, ↓ex_bl, ↓ex_int, ↓ex_str, ↓ex_ref, ↓ex_tup, ↓ex_some, ↓ex_eq, ↓ex_eq', ↓ex_1, ↓ex_2, ↓ex_3, ↓ex_4, ↓ex_5, ↓ite_tt, ↓ite_ff, ↓v3_0, ↓v3_s, ↓eq_int, ↓ne_int, ↓eq_bl, ↓ne_bl, ↓eq_pair, ↓ne_pair, eqv_bool, eqv_str, ↓pow_lit, ↓ix_t0, ↓ix_t1, ↓ix_tup, ↓ix_it, ↓q_tC3, ↓q_tOp3, ↓q_tUn3, ↓q_tTest3, ↓q_tChain3, ↓q_tTruth3, ↓q_tAnd3, ↓q_tOr3, ↓q_tNot3, ↓q_tAndV3, ↓q_tOrV3, ↓q_tNotV3, ↓q_tIf3, ↓q_tNil3, ↓q_tCons3, ↓q_tTup3, ↓q_tLst3, ↓q_tNoPart3, ↓q_tPart3, ↓q_tSl3, ↓q_tRev3, ↓r3Rev_tup, ↓r3IsNot_bl, ↓r3Is_bl, ↓r3Sl_tup, ↓c3List_tup, ↓c3List_ref, ↓q_tCB3, ↓q_tBM3, ↓q_tBM03, ↓q_tNext3, ↓q_tSeq3, ↓q_tDrop3, ↓q_tRet3, ↓q_tRetN3, ↓q_tIfS3, ↓q_gName3, ↓gnil_eq, ↓gcons_eq, ↓q_gTup3, ↓q_gSub3, ↓q_tAsg3, ↓q_tPar3, ↓q_tYes3, ↓q_tCall3, ↓q_tTryAs3, ↓q_goneE_nx, ↓q_goneE_rt, ↓q_c3IsE, ↓is_bl, ↓c3Str_int, ↓q_tRaise3, ↓q_spA0, ↓q_spA1, ↓q_spA2, ↓q_spA3, ↓q_spA4, ↓q_spA5, ↓q_endF_rt, ↓q_endF_nx, ↓q_endF_xx, r3Lt, r3Le, r3Gt, r3Ge, r3Mod, r3Div, r3Pow, r3Sub, ↓r3I_int, ↓r3I0_int, ↓r3Add_int, ↓r3Add_tup, ↓r3Add_ref, ↓r3Mul_int, ↓r3Mul_ref, datD_non, ↓datD_bl, ↓datD_int, eqv_int, ↓items_tup, ↓items_rol, ↓items_new, ↓len_new, ↓mupd_same, L3.MO.lst.injEq, List.length_cons, List.length_nil, Nat.reduceAdd, Nat.zero_add, sizeLine_eq, Nat.reduceLeDiff, Nat.reducePow, Int.reduceLT, Int.reduceLE, Int.reducePow, Int.reduceToNat, Int.reduceNeg, Int.reduceAdd, Int.cast_ofNat_Int, Int.reduceSub, Int.reduceMul, Nat.reduceMul, Nat.reduceLT, cpow_lit, List.length_append, List.length_map, ↓u3Neg_int, fdiv_pos, ↓q_tDict0, ix_1_0, ix_2_0, ix_2_1, ix_3_0, ix_3_1, ix_3_2, ix_4_0, ix_4_1, ix_4_2, ix_4_3, ix_5_0, ix_5_1, ix_5_2, ix_5_3, ix_5_4, decide_eq_false_iff_not, ↓lc_seq, ↓lc_r1, ↓lc_r2, ↓for_seq, ↓for_r1, ↓for_r2, ↓c3Tuple_it, ↓c3Min2_int, ↓c3Max2_int, ↓m3Pop_ref, ↓lc_zip, ↓for_zip, ↓lc_enum, ↓for_enum, ↓q_tAug3, r3AddI, ↓datD_pair, datD_pair, eqv_pair, ↓m3Index_ref, wipe3, ↓len_tup, ↓len_rol, ↓c3Len_tup, ↓c3Len_rol, ↓c3Len_ref, ↓c3Int_int, ↓c3Int_bl, ↓c3Abs_int, ↓c3All_ref, ↓c3Any_ref, ↓c3Isi_tl, ↓c3Isi_ty, ↓m3Append_ref, ↓s3Lst_ref, ↓r3Is_non, ↓r3IsNot_non, atI_0, atI_1, atI_2, atI_3, atI_4, tyD_tup, tyD_int, tyD_bl, mc_bool, mc_int, mc_str, mc_tuple, mc_list, mc_dict, ib_NoneType_bool, ib_NoneType_int, ib_NoneType_str, ib_NoneType_tuple, ib_NoneType_list, ib_NoneType_dict, ib_bool_bool, ib_bool_int, ib_bool_str, ib_bool_tuple, ib_bool_list, ib_bool_dict, ib_int_bool, ib_int_int, ib_int_str, ib_int_tuple, ib_int_list, ib_int_dict, ib_str_bool, ib_str_int, ib_str_str, ib_str_tuple, ib_str_list, ib_str_dict, ib_tuple_bool, ib_tuple_int, ib_tuple_str, ib_tuple_tuple, ib_tuple_list, ib_tuple_dict, ib_list_bool, ib_list_int, ib_list_str, ib_list_tuple, ib_list_list, ib_list_dict, ib_dict_bool, ib_dict_int, ib_dict_str, ib_dict_tuple, ib_dict_list, ib_dict_dict, tyD_str, tyD_non, tyD_rol, Bool.or_false, Bool.false_or, Bool.or_true, Bool.true_or, ↓truD_bl, ↓truD_int, List.getElem?_cons_zero, List.getElem?_cons_succ, List.set_cons_zero, List.set_cons_succ, Option.some.injEq, L3.D.bl.injEq, L3.D.int.injEq, L3.D.ref.injEq, L3.D.tup.injEq, L3.D.ty.injEq, L3.D.str.injEq, List.cons.injEq, and_true, true_and, exists_eq_left, exists_eq_left', exists_eq, exists_eq', exists_and_left, exists_and_right, exists_const, and_assoc, exists_eq_right_right, exists_eq_right, ↓ite_both, decide_eq_true_eq, reduceCtorEq, false_and, and_false, exists_false, not_false_eq_true, not_true_eq_false, Bool.false_eq_true, implies_true, forall_const, true_implies, false_implies, Bool.not_eq_true, Bool.not_true, Bool.not_false, decide_true, decide_false, Bool.not_eq_true', Bool.not_eq_false', Bool.not_eq_false, if_true, if_false, Bool.and_true, Bool.true_and, Bool.and_false, Bool.false_and, r3Eq, r3Ne]
      exact ⟨this, hR⟩
  rcases h with ⟨h1, h2, rfl⟩ | ⟨xs, ys, rfl, rfl, hl, hz, hs⟩ | ⟨p, r, xs, ys, rfl, rfl, ep, er, hl, hz, hs⟩
  · have e := datD_fl (M := M) h1 h2
    have e2 := eqv_refl_fl h1
    have t : ∃ t, tyD M a = some t ∧ (isiB t "tuple" || isiB t "list") = false := by
      cases a <;> first | (cases h1; done) | exact ⟨_, rfl, rfl⟩
    obtain ⟨t, t1, t2⟩ := t
    simp -implicitDefEqProofs only [e, e2, t1, t2, ↓ex_bl, ↓ex_int, ↓ex_str, ↓ex_ref, ↓ex_tup, ↓ex_some, ↓ex_eq, ↓ex_eq', ↓ex_1, ↓ex_2, ↓ex_3, ↓ex_4, ↓ex_5, ↓ite_tt, ↓ite_ff, ↓v3_0, ↓v3_s, ↓eq_int, ↓ne_int, ↓eq_bl, ↓ne_bl, ↓eq_pair, ↓ne_pair, eqv_bool, eqv_str, ↓pow_lit, ↓ix_t0, ↓ix_t1, ↓ix_tup, ↓ix_it, ↓q_tC3, ↓q_tOp3, ↓q_tUn3, ↓q_tTest3, ↓q_tChain3, ↓q_tTruth3, ↓q_tAnd3, ↓q_tOr3, ↓q_tNot3, ↓q_tAndV3, ↓q_tOrV3, ↓q_tNotV3, ↓q_tIf3, ↓q_tNil3, ↓q_tCons3, ↓q_tTup3, ↓q_tLst3, ↓q_tNoPart3, ↓q_tPart3, ↓q_tSl3, ↓q_tRev3, ↓r3Rev_tup, ↓r3IsNot_bl, ↓r3Is_bl, ↓r3Sl_tup, ↓c3List_tup, ↓c3List_ref, ↓q_tCB3, ↓q_tBM3, ↓q_tBM03, ↓q_tNext3, ↓q_tSeq3, ↓q_tDrop3, ↓q_tRet3, ↓q_tRetN3, ↓q_tIfS3, ↓q_gName3, ↓gnil_eq, ↓gcons_eq, ↓q_gTup3, ↓q_gSub3, ↓q_tAsg3, ↓q_tPar3, ↓q_tYes3, ↓q_tCall3, ↓q_tTryAs3, ↓q_goneE_nx, ↓q_goneE_rt, ↓q_c3IsE, ↓is_bl, ↓c3Str_int, ↓q_tRaise3, ↓q_spA0, ↓q_spA1, ↓q_spA2, ↓q_spA3, ↓q_spA4, ↓q_spA5, ↓q_endF_rt, ↓q_endF_nx, ↓q_endF_xx, r3Lt, r3Le, r3Gt, r3Ge, r3Mod, r3Div, r3Pow, r3Sub, ↓r3I_int, ↓r3I0_int, ↓r3Add_int, ↓r3Add_tup, ↓r3Add_ref, ↓r3Mul_int, ↓r3Mul_ref, datD_non, ↓datD_bl, ↓datD_int, eqv_int, ↓items_tup, ↓items_rol, ↓items_new, ↓len_new, ↓mupd_same, L3.MO.lst.injEq, List.length_cons, List.length_nil, Nat.reduceAdd, Nat.zero_add, sizeLine_eq, Nat.reduceLeDiff, Nat.reducePow, Int.reduceLT, Int.reduceLE, Int.reducePow, Int.reduceToNat, Int.reduceNeg, Int.reduceAdd, Int.cast_ofNat_Int, Int.reduceSub, Int.reduceMul, Nat.reduceMul, Nat.reduceLT, cpow_lit, List.length_append, List.length_map, ↓u3Neg_int, fdiv_pos, ↓q_tDict0, ix_1_0, ix_2_0, ix_2_1, ix_3_0, ix_3_1, ix_3_2, ix_4_0, ix_4_1, ix_4_2, ix_4_3, ix_5_0, ix_5_1, ix_5_2, ix_5_3, ix_5_4, decide_eq_false_iff_not, ↓lc_seq, ↓lc_r1, ↓lc_r2, ↓for_seq, ↓for_r1, ↓for_r2, ↓c3Tuple_it, ↓c3Min2_int, ↓c3Max2_int, ↓m3Pop_ref, ↓lc_zip, ↓for_zip, ↓lc_enum, ↓for_enum, ↓q_tAug3, r3AddI, ↓datD_pair, datD_pair, eqv_pair, ↓m3Index_ref, wipe3, ↓len_tup, ↓len_rol, ↓c3Len_tup, ↓c3Len_rol, ↓c3Len_ref, ↓c3Int_int, ↓c3Int_bl, ↓c3Abs_int, ↓c3All_ref, ↓c3Any_ref, ↓c3Isi_tl, ↓c3Isi_ty, ↓m3Append_ref, ↓s3Lst_ref, ↓r3Is_non, ↓r3IsNot_non, atI_0, atI_1, atI_2, atI_3, atI_4, tyD_tup, tyD_int, tyD_bl, mc_bool, mc_int, mc_str, mc_tuple, mc_list, mc_dict, ib_NoneType_bool, ib_NoneType_int, ib_NoneType_str, ib_NoneType_tuple, ib_NoneType_list, ib_NoneType_dict, ib_bool_bool, ib_bool_int, ib_bool_str, ib_bool_tuple, ib_bool_list, ib_bool_dict, ib_int_bool, ib_int_int, ib_int_str, ib_int_tuple, ib_int_list, ib_int_dict, ib_str_bool, ib_str_int, ib_str_str, ib_str_tuple, ib_str_list, ib_str_dict, ib_tuple_bool, ib_tuple_int, ib_tuple_str, ib_tuple_tuple, ib_tuple_list, ib_tuple_dict, ib_list_bool, ib_list_int, ib_list_str, ib_list_tuple, ib_list_list, ib_list_dict, ib_dict_bool, ib_dict_int, ib_dict_str, ib_dict_tuple, ib_dict_list, ib_dict_dict, tyD_str, tyD_non, tyD_rol, Bool.or_false, Bool.false_or, Bool.or_true, Bool.true_or, ↓truD_bl, ↓truD_int, List.getElem?_cons_zero, List.getElem?_cons_succ, List.set_cons_zero, List.set_cons_succ, Option.some.injEq, L3.D.bl.injEq, L3.D.int.injEq, L3.D.ref.injEq, L3.D.tup.injEq, L3.D.ty.injEq, L3.D.str.injEq, List.cons.injEq, and_true, true_and, exists_eq_left, exists_eq_left', exists_eq, exists_eq', exists_and_left, exists_and_right, exists_const, and_assoc, exists_eq_right_right, exists_eq_right, ↓ite_both, decide_eq_true_eq, reduceCtorEq, false_and, and_false, exists_false, not_false_eq_true, not_true_eq_false, Bool.false_eq_true, implies_true, forall_const, true_implies, false_implies, Bool.not_eq_true, Bool.not_true, Bool.not_false, decide_true, decide_false, Bool.not_eq_true', Bool.not_eq_false', Bool.not_eq_false, if_true, if_false, Bool.and_true, Bool.true_and, Bool.and_false, Bool.false_and, r3Eq, r3Ne]
    exact ret_same q
  · simp -implicitDefEqProofs only [hl, ↓ex_bl, ↓ex_int, ↓ex_str, ↓ex_ref, ↓ex_tup, ↓ex_some, ↓ex_eq, ↓ex_eq', ↓ex_1, ↓ex_2, ↓ex_3, ↓ex_4, ↓ex_5, ↓ite_tt, ↓ite_ff, ↓v3_0, ↓v3_s, ↓eq_int, ↓ne_int, ↓eq_bl, ↓ne_bl, ↓eq_pair, ↓ne_pair, eqv_bool, eqv_str, ↓pow_lit, ↓ix_t0, ↓ix_t1, ↓ix_tup, ↓ix_it, ↓q_tC3, ↓q_tOp3, ↓q_tUn3, ↓q_tTest3, ↓q_tChain3, ↓q_tTruth3, ↓q_tAnd3, ↓q_tOr3, ↓q_tNot3, ↓q_tAndV3, ↓q_tOrV3, ↓q_tNotV3, ↓q_tIf3, ↓q_tNil3, ↓q_tCons3, ↓q_tTup3, ↓q_tLst3, ↓q_tNoPart3, ↓q_tPart3, ↓q_tSl3, ↓q_tRev3, ↓r3Rev_tup, ↓r3IsNot_bl, ↓r3Is_bl, ↓r3Sl_tup, ↓c3List_tup, ↓c3List_ref, ↓q_tCB3, ↓q_tBM3, ↓q_tBM03, ↓q_tNext3, ↓q_tSeq3, ↓q_tDrop3, ↓q_tRet3, ↓q_tRetN3, ↓q_tIfS3, ↓q_gName3, ↓gnil_eq, ↓gcons_eq, ↓q_gTup3, ↓q_gSub3, ↓q_tAsg3, ↓q_tPar3, ↓q_tYes3, ↓q_tCall3, ↓q_tTryAs3, ↓q_goneE_nx, ↓q_goneE_rt, ↓q_c3IsE, ↓is_bl, ↓c3Str_int, ↓q_tRaise3, ↓q_spA0, ↓q_spA1, ↓q_spA2, ↓q_spA3, ↓q_spA4, ↓q_spA5, ↓q_endF_rt, ↓q_endF_nx, ↓q_endF_xx, r3Lt, r3Le, r3Gt, r3Ge, r3Mod, r3Div, r3Pow, r3Sub, ↓r3I_int, ↓r3I0_int, ↓r3Add_int, ↓r3Add_tup, ↓r3Add_ref, ↓r3Mul_int, ↓r3Mul_ref, datD_non, ↓datD_bl, ↓datD_int, eqv_int, ↓items_tup, ↓items_rol, ↓items_new, ↓len_new, ↓mupd_same, L3.MO.lst.injEq, List.length_cons, List.length_nil, Nat.reduceAdd, Nat.zero_add, sizeLine_eq, Nat.reduceLeDiff, Nat.reducePow, Int.reduceLT, Int.reduceLE, Int.reducePow, Int.reduceToNat, Int.reduceNeg, Int.reduceAdd, Int.cast_ofNat_Int, Int.reduceSub, Int.reduceMul, Nat.reduceMul, Nat.reduceLT, cpow_lit, List.length_append, List.length_map, ↓u3Neg_int, fdiv_pos, ↓q_tDict0, ix_1_0, ix_2_0, ix_2_1, ix_3_0, ix_3_1, ix_3_2, ix_4_0, ix_4_1, ix_4_2, ix_4_3, ix_5_0, ix_5_1, ix_5_2, ix_5_3, ix_5_4, decide_eq_false_iff_not, ↓lc_seq, ↓lc_r1, ↓lc_r2, ↓for_seq, ↓for_r1, ↓for_r2, ↓c3Tuple_it, ↓c3Min2_int, ↓c3Max2_int, ↓m3Pop_ref, ↓lc_zip, ↓for_zip, ↓lc_enum, ↓for_enum, ↓q_tAug3, r3AddI, ↓datD_pair, datD_pair, eqv_pair, ↓m3Index_ref, wipe3, ↓len_tup, ↓len_rol, ↓c3Len_tup, ↓c3Len_rol, ↓c3Len_ref, ↓c3Int_int, ↓c3Int_bl, ↓c3Abs_int, ↓c3All_ref, ↓c3Any_ref, ↓c3Isi_tl, ↓c3Isi_ty, ↓m3Append_ref, ↓s3Lst_ref, ↓r3Is_non, ↓r3IsNot_non, atI_0, atI_1, atI_2, atI_3, atI_4, tyD_tup, tyD_int, tyD_bl, mc_bool, mc_int, mc_str, mc_tuple, mc_list, mc_dict, ib_NoneType_bool, ib_NoneType_int, ib_NoneType_str, ib_NoneType_tuple, ib_NoneType_list, ib_NoneType_dict, ib_bool_bool, ib_bool_int, ib_bool_str, ib_bool_tuple, ib_bool_list, ib_bool_dict, ib_int_bool, ib_int_int, ib_int_str, ib_int_tuple, ib_int_list, ib_int_dict, ib_str_bool, ib_str_int, ib_str_str, ib_str_tuple, ib_str_list, ib_str_dict, ib_tuple_bool, ib_tuple_int, ib_tuple_str, ib_tuple_tuple, ib_tuple_list, ib_tuple_dict, ib_list_bool, ib_list_int, ib_list_str, ib_list_tuple, ib_list_list, ib_list_dict, ib_dict_bool, ib_dict_int, ib_dict_str, ib_dict_tuple, ib_dict_list, ib_dict_dict, tyD_str, tyD_non, tyD_rol, Bool.or_false, Bool.false_or, Bool.or_true, Bool.true_or, ↓truD_bl, ↓truD_int, List.getElem?_cons_zero, List.getElem?_cons_succ, List.set_cons_zero, List.set_cons_succ, Option.some.injEq, L3.D.bl.injEq, L3.D.int.injEq, L3.D.ref.injEq, L3.D.tup.injEq, L3.D.ty.injEq, L3.D.str.injEq, List.cons.injEq, and_true, true_and, exists_eq_left, exists_eq_left', exists_eq, exists_eq', exists_and_left, exists_and_right, exists_const, and_assoc, exists_eq_right_right, exists_eq_right, ↓ite_both, decide_eq_true_eq, reduceCtorEq, false_and, and_false, exists_false, not_false_eq_true, not_true_eq_false, Bool.false_eq_true, implies_true, forall_const, true_implies, false_implies, Bool.not_eq_true, Bool.not_true, Bool.not_false, decide_true, decide_false, Bool.not_eq_true', Bool.not_eq_false', Bool.not_eq_false, if_true, if_false, Bool.and_true, Bool.true_and, Bool.and_false, Bool.false_and, r3Eq, r3Ne]
    refine ⟨rfl, lcb_map (fun _ => .bl true) trivial (by show (zipD xs ys).length ≤ _; rw [zip_len hl]; exact hz) (fun i d R hd hR => walk xs ys hl hs i d hd R hR) fun l hl2 => ?_⟩
    simp -implicitDefEqProofs only [↓ex_bl, ↓ex_int, ↓ex_str, ↓ex_ref, ↓ex_tup, ↓ex_some, ↓ex_eq, ↓ex_eq', ↓ex_1, ↓ex_2, ↓ex_3, ↓ex_4, ↓ex_5, ↓ite_tt, ↓ite_ff, ↓v3_0, ↓v3_s, ↓eq_int, ↓ne_int, ↓eq_bl, ↓ne_bl, ↓eq_pair, ↓ne_pair, eqv_bool, eqv_str, ↓pow_lit, ↓ix_t0, ↓ix_t1, ↓ix_tup, ↓ix_it, ↓q_tC3, ↓q_tOp3, ↓q_tUn3, ↓q_tTest3, ↓q_tChain3, ↓q_tTruth3, ↓q_tAnd3, ↓q_tOr3, ↓q_tNot3, ↓q_tAndV3, ↓q_tOrV3, ↓q_tNotV3, ↓q_tIf3, ↓q_tNil3, ↓q_tCons3, ↓q_tTup3, ↓q_tLst3, ↓q_tNoPart3, ↓q_tPart3, ↓q_tSl3, ↓q_tRev3, ↓r3Rev_tup, ↓r3IsNot_bl, ↓r3Is_bl, ↓r3Sl_tup, ↓c3List_tup, ↓c3List_ref, ↓q_tCB3, ↓q_tBM3, ↓q_tBM03, ↓q_tNext3, ↓q_tSeq3, ↓q_tDrop3, ↓q_tRet3, ↓q_tRetN3, ↓q_tIfS3, ↓q_gName3, ↓gnil_eq, ↓gcons_eq, ↓q_gTup3, ↓q_gSub3, ↓q_tAsg3, ↓q_tPar3, ↓q_tYes3, ↓q_tCall3, ↓q_tTryAs3, ↓q_goneE_nx, ↓q_goneE_rt, ↓q_c3IsE, ↓is_bl, ↓c3Str_int, ↓q_tRaise3, ↓q_spA0, ↓q_spA1, ↓q_spA2, ↓q_spA3, ↓q_spA4, ↓q_spA5, ↓q_endF_rt, ↓q_endF_nx, ↓q_endF_xx, r3Lt, r3Le, r3Gt, r3Ge, r3Mod, r3Div, r3Pow, r3Sub, ↓r3I_int, ↓r3I0_int, ↓r3Add_int, ↓r3Add_tup, ↓r3Add_ref, ↓r3Mul_int, ↓r3Mul_ref, datD_non, ↓datD_bl, ↓datD_int, eqv_int, ↓items_tup, ↓items_rol, ↓items_new, ↓len_new, ↓mupd_same, L3.MO.lst.injEq, List.length_cons, List.length_nil, Nat.reduceAdd, Nat.zero_add, sizeLine_eq, Nat.reduceLeDiff, Nat.reducePow, Int.reduceLT, Int.reduceLE, Int.reducePow, Int.reduceToNat, Int.reduceNeg, Int.reduceAdd, Int.cast_ofNat_Int, Int.reduceSub, Int.reduceMul, Nat.reduceMul, Nat.reduceLT, cpow_lit, List.length_append, List.length_map, ↓u3Neg_int, fdiv_pos, ↓q_tDict0, ix_1_0, ix_2_0, ix_2_1, ix_3_0, ix_3_1, ix_3_2, ix_4_0, ix_4_1, ix_4_2, ix_4_3, ix_5_0, ix_5_1, ix_5_2, ix_5_3, ix_5_4, decide_eq_false_iff_not, ↓lc_seq, ↓lc_r1, ↓lc_r2, ↓for_seq, ↓for_r1, ↓for_r2, ↓c3Tuple_it, ↓c3Min2_int, ↓c3Max2_int, ↓m3Pop_ref, ↓lc_zip, ↓for_zip, ↓lc_enum, ↓for_enum, ↓q_tAug3, r3AddI, ↓datD_pair, datD_pair, eqv_pair, ↓m3Index_ref, wipe3, ↓len_tup, ↓len_rol, ↓c3Len_tup, ↓c3Len_rol, ↓c3Len_ref, ↓c3Int_int, ↓c3Int_bl, ↓c3Abs_int, ↓c3All_ref, ↓c3Any_ref, ↓c3Isi_tl, ↓c3Isi_ty, ↓m3Append_ref, ↓s3Lst_ref, ↓r3Is_non, ↓r3IsNot_non, atI_0, atI_1, atI_2, atI_3, atI_4, tyD_tup, tyD_int, tyD_bl, mc_bool, mc_int, mc_str, mc_tuple, mc_list, mc_dict, ib_NoneType_bool, ib_NoneType_int, ib_NoneType_str, ib_NoneType_tuple, ib_NoneType_list, ib_NoneType_dict, ib_bool_bool, ib_bool_int, ib_bool_str, ib_bool_tuple, ib_bool_list, ib_bool_dict, ib_int_bool, ib_int_int, ib_int_str, ib_int_tuple, ib_int_list, ib_int_dict, ib_str_bool, ib_str_int, ib_str_str, ib_str_tuple, ib_str_list, ib_str_dict, ib_tuple_bool, ib_tuple_int, ib_tuple_str, ib_tuple_tuple, ib_tuple_list, ib_tuple_dict, ib_list_bool, ib_list_int, ib_list_str, ib_list_tuple, ib_list_list, ib_list_dict, ib_dict_bool, ib_dict_int, ib_dict_str, ib_dict_tuple, ib_dict_list, ib_dict_dict, tyD_str, tyD_non, tyD_rol, Bool.or_false, Bool.false_or, Bool.or_true, Bool.true_or, ↓truD_bl, ↓truD_int, List.getElem?_cons_zero, List.getElem?_cons_succ, List.set_cons_zero, List.set_cons_succ, Option.some.injEq, L3.D.bl.injEq, L3.D.int.injEq, L3.D.ref.injEq, L3.D.tup.injEq, L3.D.ty.injEq, L3.D.str.injEq, List.cons.injEq, and_true, true_and, exists_eq_left, exists_eq_left', exists_eq, exists_eq', exists_and_left, exists_and_right, exists_const, and_assoc, exists_eq_right_right, exists_eq_right, ↓ite_both, decide_eq_true_eq, reduceCtorEq, false_and, and_false, exists_false, not_false_eq_true, not_true_eq_false, Bool.false_eq_true, implies_true, forall_const, true_implies, false_implies, Bool.not_eq_true, Bool.not_true, Bool.not_false, decide_true, decide_false, Bool.not_eq_true', Bool.not_eq_false', Bool.not_eq_false, if_true, if_false, Bool.and_true, Bool.true_and, Bool.and_false, Bool.false_and, r3Eq, r3Ne]
    exact ⟨_, bls_true _, ret_pure (MSub.new .refl hl2) (by rw [all_true]; exact q)⟩
  · have i1 := items_ref ep
    have i2 := items_ref er
    simp -implicitDefEqProofs only [tyD_lst ep, tyD_lst er, len_ref ep, len_ref er, i1, i2, isTup, hl, ↓ex_bl, ↓ex_int, ↓ex_str, ↓ex_ref, ↓ex_tup, ↓ex_some, ↓ex_eq, ↓ex_eq', ↓ex_1, ↓ex_2, ↓ex_3, ↓ex_4, ↓ex_5, ↓ite_tt, ↓ite_ff, ↓v3_0, ↓v3_s, ↓eq_int, ↓ne_int, ↓eq_bl, ↓ne_bl, ↓eq_pair, ↓ne_pair, eqv_bool, eqv_str, ↓pow_lit, ↓ix_t0, ↓ix_t1, ↓ix_tup, ↓ix_it, ↓q_tC3, ↓q_tOp3, ↓q_tUn3, ↓q_tTest3, ↓q_tChain3, ↓q_tTruth3, ↓q_tAnd3, ↓q_tOr3, ↓q_tNot3, ↓q_tAndV3, ↓q_tOrV3, ↓q_tNotV3, ↓q_tIf3, ↓q_tNil3, ↓q_tCons3, ↓q_tTup3, ↓q_tLst3, ↓q_tNoPart3, ↓q_tPart3, ↓q_tSl3, ↓q_tRev3, ↓r3Rev_tup, ↓r3IsNot_bl, ↓r3Is_bl, ↓r3Sl_tup, ↓c3List_tup, ↓c3List_ref, ↓q_tCB3, ↓q_tBM3, ↓q_tBM03, ↓q_tNext3, ↓q_tSeq3, ↓q_tDrop3, ↓q_tRet3, ↓q_tRetN3, ↓q_tIfS3, ↓q_gName3, ↓gnil_eq, ↓gcons_eq, ↓q_gTup3, ↓q_gSub3, ↓q_tAsg3, ↓q_tPar3, ↓q_tYes3, ↓q_tCall3, ↓q_tTryAs3, ↓q_goneE_nx, ↓q_goneE_rt, ↓q_c3IsE, ↓is_bl, ↓c3Str_int, ↓q_tRaise3, ↓q_spA0, ↓q_spA1, ↓q_spA2, ↓q_spA3, ↓q_spA4, ↓q_spA5, ↓q_endF_rt, ↓q_endF_nx, ↓q_endF_xx, r3Lt, r3Le, r3Gt, r3Ge, r3Mod, r3Div, r3Pow, r3Sub, ↓r3I_int, ↓r3I0_int, ↓r3Add_int, ↓r3Add_tup, ↓r3Add_ref, ↓r3Mul_int, ↓r3Mul_ref, datD_non, ↓datD_bl, ↓datD_int, eqv_int, ↓items_tup, ↓items_rol, ↓items_new, ↓len_new, ↓mupd_same, L3.MO.lst.injEq, List.length_cons, List.length_nil, Nat.reduceAdd, Nat.zero_add, sizeLine_eq, Nat.reduceLeDiff, Nat.reducePow, Int.reduceLT, Int.reduceLE, Int.reducePow, Int.reduceToNat, Int.reduceNeg, Int.reduceAdd, Int.cast_ofNat_Int, Int.reduceSub, Int.reduceMul, Nat.reduceMul, Nat.reduceLT, cpow_lit, List.length_append, List.length_map, ↓u3Neg_int, fdiv_pos, ↓q_tDict0, ix_1_0, ix_2_0, ix_2_1, ix_3_0, ix_3_1, ix_3_2, ix_4_0, ix_4_1, ix_4_2, ix_4_3, ix_5_0, ix_5_1, ix_5_2, ix_5_3, ix_5_4, decide_eq_false_iff_not, ↓lc_seq, ↓lc_r1, ↓lc_r2, ↓for_seq, ↓for_r1, ↓for_r2, ↓c3Tuple_it, ↓c3Min2_int, ↓c3Max2_int, ↓m3Pop_ref, ↓lc_zip, ↓for_zip, ↓lc_enum, ↓for_enum, ↓q_tAug3, r3AddI, ↓datD_pair, datD_pair, eqv_pair, ↓m3Index_ref, wipe3, ↓len_tup, ↓len_rol, ↓c3Len_tup, ↓c3Len_rol, ↓c3Len_ref, ↓c3Int_int, ↓c3Int_bl, ↓c3Abs_int, ↓c3All_ref, ↓c3Any_ref, ↓c3Isi_tl, ↓c3Isi_ty, ↓m3Append_ref, ↓s3Lst_ref, ↓r3Is_non, ↓r3IsNot_non, atI_0, atI_1, atI_2, atI_3, atI_4, tyD_tup, tyD_int, tyD_bl, mc_bool, mc_int, mc_str, mc_tuple, mc_list, mc_dict, ib_NoneType_bool, ib_NoneType_int, ib_NoneType_str, ib_NoneType_tuple, ib_NoneType_list, ib_NoneType_dict, ib_bool_bool, ib_bool_int, ib_bool_str, ib_bool_tuple, ib_bool_list, ib_bool_dict, ib_int_bool, ib_int_int, ib_int_str, ib_int_tuple, ib_int_list, ib_int_dict, ib_str_bool, ib_str_int, ib_str_str, ib_str_tuple, ib_str_list, ib_str_dict, ib_tuple_bool, ib_tuple_int, ib_tuple_str, ib_tuple_tuple, ib_tuple_list, ib_tuple_dict, ib_list_bool, ib_list_int, ib_list_str, ib_list_tuple, ib_list_list, ib_list_dict, ib_dict_bool, ib_dict_int, ib_dict_str, ib_dict_tuple, ib_dict_list, ib_dict_dict, tyD_str, tyD_non, tyD_rol, Bool.or_false, Bool.false_or, Bool.or_true, Bool.true_or, ↓truD_bl, ↓truD_int, List.getElem?_cons_zero, List.getElem?_cons_succ, List.set_cons_zero, List.set_cons_succ, Option.some.injEq, L3.D.bl.injEq, L3.D.int.injEq, L3.D.ref.injEq, L3.D.tup.injEq, L3.D.ty.injEq, L3.D.str.injEq, List.cons.injEq, and_true, true_and, exists_eq_left, exists_eq_left', exists_eq, exists_eq', exists_and_left, exists_and_right, exists_const, and_assoc, exists_eq_right_right, exists_eq_right, ↓ite_both, decide_eq_true_eq, reduceCtorEq, false_and, and_false, exists_false, not_false_eq_true, not_true_eq_false, Bool.false_eq_true, implies_true, forall_const, true_implies, false_implies, Bool.not_eq_true, Bool.not_true, Bool.not_false, decide_true, decide_false, Bool.not_eq_true', Bool.not_eq_false', Bool.not_eq_false, if_true, if_false, Bool.and_true, Bool.true_and, Bool.and_false, Bool.false_and, r3Eq, r3Ne]
    refine lcb_map (fun _ => .bl true) ⟨i1, i2⟩ (by show (zipD xs ys).length ≤ _; rw [zip_len hl]; exact hz) (fun i d R hd hR => walk xs ys hl hs i d hd R hR) fun l hl2 => ?_
    simp -implicitDefEqProofs only [↓ex_bl, ↓ex_int, ↓ex_str, ↓ex_ref, ↓ex_tup, ↓ex_some, ↓ex_eq, ↓ex_eq', ↓ex_1, ↓ex_2, ↓ex_3, ↓ex_4, ↓ex_5, ↓ite_tt, ↓ite_ff, ↓v3_0, ↓v3_s, ↓eq_int, ↓ne_int, ↓eq_bl, ↓ne_bl, ↓eq_pair, ↓ne_pair, eqv_bool, eqv_str, ↓pow_lit, ↓ix_t0, ↓ix_t1, ↓ix_tup, ↓ix_it, ↓q_tC3, ↓q_tOp3, ↓q_tUn3, ↓q_tTest3, ↓q_tChain3, ↓q_tTruth3, ↓q_tAnd3, ↓q_tOr3, ↓q_tNot3, ↓q_tAndV3, ↓q_tOrV3, ↓q_tNotV3, ↓q_tIf3, ↓q_tNil3, ↓q_tCons3, ↓q_tTup3, ↓q_tLst3, ↓q_tNoPart3, ↓q_tPart3, ↓q_tSl3, ↓q_tRev3, ↓r3Rev_tup, ↓r3IsNot_bl, ↓r3Is_bl, ↓r3Sl_tup, ↓c3List_tup, ↓c3List_ref, ↓q_tCB3, ↓q_tBM3, ↓q_tBM03, ↓q_tNext3, ↓q_tSeq3, ↓q_tDrop3, ↓q_tRet3, ↓q_tRetN3, ↓q_tIfS3, ↓q_gName3, ↓gnil_eq, ↓gcons_eq, ↓q_gTup3, ↓q_gSub3, ↓q_tAsg3, ↓q_tPar3, ↓q_tYes3, ↓q_tCall3, ↓q_tTryAs3, ↓q_goneE_nx, ↓q_goneE_rt, ↓q_c3IsE, ↓is_bl, ↓c3Str_int, ↓q_tRaise3, ↓q_spA0, ↓q_spA1, ↓q_spA2, ↓q_spA3, ↓q_spA4, ↓q_spA5, ↓q_endF_rt, ↓q_endF_nx, ↓q_endF_xx, r3Lt, r3Le, r3Gt, r3Ge, r3Mod, r3Div, r3Pow, r3Sub, ↓r3I_int, ↓r3I0_int, ↓r3Add_int, ↓r3Add_tup, ↓r3Add_ref, ↓r3Mul_int, ↓r3Mul_ref, datD_non, ↓datD_bl, ↓datD_int, eqv_int, ↓items_tup, ↓items_rol, ↓items_new, ↓len_new, ↓mupd_same, L3.MO.lst.injEq, List.length_cons, List.length_nil, Nat.reduceAdd, Nat.zero_add, sizeLine_eq, Nat.reduceLeDiff, Nat.reducePow, Int.reduceLT, Int.reduceLE, Int.reducePow, Int.reduceToNat, Int.reduceNeg, Int.reduceAdd, Int.cast_ofNat_Int, Int.reduceSub, Int.reduceMul, Nat.reduceMul, Nat.reduceLT, cpow_lit, List.length_append, List.length_map, ↓u3Neg_int, fdiv_pos, ↓q_tDict0, ix_1_0, ix_2_0, ix_2_1, ix_3_0, ix_3_1, ix_3_2, ix_4_0, ix_4_1, ix_4_2, ix_4_3, ix_5_0, ix_5_1, ix_5_2, ix_5_3, ix_5_4, decide_eq_false_iff_not, ↓lc_seq, ↓lc_r1, ↓lc_r2, ↓for_seq, ↓for_r1, ↓for_r2, ↓c3Tuple_it, ↓c3Min2_int, ↓c3Max2_int, ↓m3Pop_ref, ↓lc_zip, ↓for_zip, ↓lc_enum, ↓for_enum, ↓q_tAug3, r3AddI, ↓datD_pair, datD_pair, eqv_pair, ↓m3Index_ref, wipe3, ↓len_tup, ↓len_rol, ↓c3Len_tup, ↓c3Len_rol, ↓c3Len_ref, ↓c3Int_int, ↓c3Int_bl, ↓c3Abs_int, ↓c3All_ref, ↓c3Any_ref, ↓c3Isi_tl, ↓c3Isi_ty, ↓m3Append_ref, ↓s3Lst_ref, ↓r3Is_non, ↓r3IsNot_non, atI_0, atI_1, atI_2, atI_3, atI_4, tyD_tup, tyD_int, tyD_bl, mc_bool, mc_int, mc_str, mc_tuple, mc_list, mc_dict, ib_NoneType_bool, ib_NoneType_int, ib_NoneType_str, ib_NoneType_tuple, ib_NoneType_list, ib_NoneType_dict, ib_bool_bool, ib_bool_int, ib_bool_str, ib_bool_tuple, ib_bool_list, ib_bool_dict, ib_int_bool, ib_int_int, ib_int_str, ib_int_tuple, ib_int_list, ib_int_dict, ib_str_bool, ib_str_int, ib_str_str, ib_str_tuple, ib_str_list, ib_str_dict, ib_tuple_bool, ib_tuple_int, ib_tuple_str, ib_tuple_tuple, ib_tuple_list, ib_tuple_dict, ib_list_bool, ib_list_int, ib_list_str, ib_list_tuple, ib_list_list, ib_list_dict, ib_dict_bool, ib_dict_int, ib_dict_str, ib_dict_tuple, ib_dict_list, ib_dict_dict, tyD_str, tyD_non, tyD_rol, Bool.or_false, Bool.false_or, Bool.or_true, Bool.true_or, ↓truD_bl, ↓truD_int, List.getElem?_cons_zero, List.getElem?_cons_succ, List.set_cons_zero, List.set_cons_succ, Option.some.injEq, L3.D.bl.injEq, L3.D.int.injEq, L3.D.ref.injEq, L3.D.tup.injEq, L3.D.ty.injEq, L3.D.str.injEq, List.cons.injEq, and_true, true_and, exists_eq_left, exists_eq_left', exists_eq, exists_eq', exists_and_left, exists_and_right, exists_const, and_assoc, exists_eq_right_right, exists_eq_right, ↓ite_both, decide_eq_true_eq, reduceCtorEq, false_and, and_false, exists_false, not_false_eq_true, not_true_eq_false, Bool.false_eq_true, implies_true, forall_const, true_implies, false_implies, Bool.not_eq_true, Bool.not_true, Bool.not_false, decide_true, decide_false, Bool.not_eq_true', Bool.not_eq_false', Bool.not_eq_false, if_true, if_false, Bool.and_true, Bool.true_and, Bool.and_false, Bool.false_and, r3Eq, r3Ne]
    exact ⟨_, bls_true _, ret_pure (MSub.new .refl hl2) (by rw [all_true]; exact q)⟩

def sp__law_worth (K : PySem.W.Frag) : Sp3 := spA3 fun g a b M Q X => ∃ p, g = .int p ∧ ∃ xs, a = polyD xs ∧ ∃ y, b = nuD y ∧ Gd p ∧ (∀ x ∈ xs, NuOk p x) ∧ NuOk p y ∧ (∃ s t, (∀ x ∈ xs, Sz s x) ∧ Sz t y ∧ (xs.length + 2) * (s + t + 1) ≤ 7900) ∧ Q (nuD (worthN p y xs)) M
abbrev N__law_worth : List Str := ["ground", "polynomial", "point", "found", "number"]
def tr__law_worth (K : PySem.W.Frag) : TS3 := (tSeq3 (tAsg3 (tTup3 (tCons3 (tC3 (.int 0)) (tCons3 (tC3 (.int 1)) tNil3))) (gName3 3)) (tSeq3 (tFor3 (iSeq3 (tRev3 (tVar3 1))) (gName3 4) (tAsg3 (tCall3 (sp__law_add K) (tCons3 (tVar3 0) (tCons3 (tCall3 (sp__law_mul K) (tCons3 (tVar3 0) (tCons3 (tVar3 3) (tCons3 (tVar3 2) tNil3)))) (tCons3 (tVar3 4) tNil3)))) (gName3 3))) (tRet3 (tVar3 3))))
theorem rd__law_worth (K : PySem.W.Frag) : ∀ ds M Q E, sp__law_worth K ds M Q E → tr__law_worth K (endF M Q E) (start3 N__law_worth ds) M := by
  rintro ds M Q E ⟨g, a, b, rfl, p, rfl, xs, rfl, y, rfl, hg, hx, hy, ⟨s, t, zx, zy, hz⟩, q⟩
  have pl := hg.lt.1
  have hcx : (xs.length + 2) * (s + t + 1) = xs.length * (s + t + 1) + 2 * (s + t + 1) := by rw [Nat.add_mul]
  unfold tr__law_worth polyD
  simp only [start3, List.map_cons, List.map_nil, List.length_cons, List.length_nil, List.cons_append, List.nil_append, List.replicate_succ, List.replicate_zero, Nat.reduceAdd, Nat.reduceSub, Nat.zero_add]
  simp -implicitDefEqProofs only [↓ex_bl, ↓ex_int, ↓ex_str, ↓ex_ref, ↓ex_tup, ↓ex_some, ↓ex_eq, ↓ex_eq', ↓ex_1, ↓ex_2, ↓ex_3, ↓ex_4, ↓ex_5, ↓ite_tt, ↓ite_ff, ↓v3_0, ↓v3_s, ↓eq_int, ↓ne_int, ↓eq_bl, ↓ne_bl, ↓eq_pair, ↓ne_pair, eqv_bool, eqv_str, ↓pow_lit, ↓ix_t0, ↓ix_t1, ↓ix_tup, ↓ix_it, ↓q_tC3, ↓q_tOp3, ↓q_tUn3, ↓q_tTest3, ↓q_tChain3, ↓q_tTruth3, ↓q_tAnd3, ↓q_tOr3, ↓q_tNot3, ↓q_tAndV3, ↓q_tOrV3, ↓q_tNotV3, ↓q_tIf3, ↓q_tNil3, ↓q_tCons3, ↓q_tTup3, ↓q_tLst3, ↓q_tNoPart3, ↓q_tPart3, ↓q_tSl3, ↓q_tRev3, ↓r3Rev_tup, ↓r3IsNot_bl, ↓r3Is_bl, ↓r3Sl_tup, ↓c3List_tup, ↓c3List_ref, ↓q_tCB3, ↓q_tBM3, ↓q_tBM03, ↓q_tNext3, ↓q_tSeq3, ↓q_tDrop3, ↓q_tRet3, ↓q_tRetN3, ↓q_tIfS3, ↓q_gName3, ↓gnil_eq, ↓gcons_eq, ↓q_gTup3, ↓q_gSub3, ↓q_tAsg3, ↓q_tPar3, ↓q_tYes3, ↓q_tCall3, ↓q_tTryAs3, ↓q_goneE_nx, ↓q_goneE_rt, ↓q_c3IsE, ↓is_bl, ↓c3Str_int, ↓q_tRaise3, ↓q_spA0, ↓q_spA1, ↓q_spA2, ↓q_spA3, ↓q_spA4, ↓q_spA5, ↓q_endF_rt, ↓q_endF_nx, ↓q_endF_xx, r3Lt, r3Le, r3Gt, r3Ge, r3Mod, r3Div, r3Pow, r3Sub, ↓r3I_int, ↓r3I0_int, ↓r3Add_int, ↓r3Add_tup, ↓r3Add_ref, ↓r3Mul_int, ↓r3Mul_ref, datD_non, ↓datD_bl, ↓datD_int, eqv_int, ↓items_tup, ↓items_rol, ↓items_new, ↓len_new, ↓mupd_same, L3.MO.lst.injEq, List.length_cons, List.length_nil, Nat.reduceAdd, Nat.zero_add, sizeLine_eq, Nat.reduceLeDiff, Nat.reducePow, Int.reduceLT, Int.reduceLE, Int.reducePow, Int.reduceToNat, Int.reduceNeg, Int.reduceAdd, Int.cast_ofNat_Int, Int.reduceSub, Int.reduceMul, Nat.reduceMul, Nat.reduceLT, cpow_lit, List.length_append, List.length_map, ↓u3Neg_int, fdiv_pos, ↓q_tDict0, ix_1_0, ix_2_0, ix_2_1, ix_3_0, ix_3_1, ix_3_2, ix_4_0, ix_4_1, ix_4_2, ix_4_3, ix_5_0, ix_5_1, ix_5_2, ix_5_3, ix_5_4, decide_eq_false_iff_not, ↓lc_seq, ↓lc_r1, ↓lc_r2, ↓for_seq, ↓for_r1, ↓for_r2, ↓c3Tuple_it, ↓c3Min2_int, ↓c3Max2_int, ↓m3Pop_ref, ↓lc_zip, ↓for_zip, ↓lc_enum, ↓for_enum, ↓q_tAug3, r3AddI, ↓datD_pair, datD_pair, eqv_pair, ↓m3Index_ref, wipe3, ↓len_tup, ↓len_rol, ↓c3Len_tup, ↓c3Len_rol, ↓c3Len_ref, ↓c3Int_int, ↓c3Int_bl, ↓c3Abs_int, ↓c3All_ref, ↓c3Any_ref, ↓c3Isi_tl, ↓c3Isi_ty, ↓m3Append_ref, ↓s3Lst_ref, ↓r3Is_non, ↓r3IsNot_non, atI_0, atI_1, atI_2, atI_3, atI_4, tyD_tup, tyD_int, tyD_bl, mc_bool, mc_int, mc_str, mc_tuple, mc_list, mc_dict, ib_NoneType_bool, ib_NoneType_int, ib_NoneType_str, ib_NoneType_tuple, ib_NoneType_list, ib_NoneType_dict, ib_bool_bool, ib_bool_int, ib_bool_str, ib_bool_tuple, ib_bool_list, ib_bool_dict, ib_int_bool, ib_int_int, ib_int_str, ib_int_tuple, ib_int_list, ib_int_dict, ib_str_bool, ib_str_int, ib_str_str, ib_str_tuple, ib_str_list, ib_str_dict, ib_tuple_bool, ib_tuple_int, ib_tuple_str, ib_tuple_tuple, ib_tuple_list, ib_tuple_dict, ib_list_bool, ib_list_int, ib_list_str, ib_list_tuple, ib_list_list, ib_list_dict, ib_dict_bool, ib_dict_int, ib_dict_str, ib_dict_tuple, ib_dict_list, ib_dict_dict, tyD_str, tyD_non, tyD_rol, Bool.or_false, Bool.false_or, Bool.or_true, Bool.true_or, ↓truD_bl, ↓truD_int, List.getElem?_cons_zero, List.getElem?_cons_succ, List.set_cons_zero, List.set_cons_succ, Option.some.injEq, L3.D.bl.injEq, L3.D.int.injEq, L3.D.ref.injEq, L3.D.tup.injEq, L3.D.ty.injEq, L3.D.str.injEq, List.cons.injEq, and_true, true_and, exists_eq_left, exists_eq_left', exists_eq, exists_eq', exists_and_left, exists_and_right, exists_const, and_assoc, exists_eq_right_right, exists_eq_right, ↓ite_both, decide_eq_true_eq, reduceCtorEq, false_and, and_false, exists_false, not_false_eq_true, not_true_eq_false, Bool.false_eq_true, implies_true, forall_const, true_implies, false_implies, Bool.not_eq_true, Bool.not_true, Bool.not_false, decide_true, decide_false, Bool.not_eq_true', Bool.not_eq_false', Bool.not_eq_false, if_true, if_false, Bool.and_true, Bool.true_and, Bool.and_false, Bool.false_and, r3Eq, r3Ne]
  have key : ∀ i, i ≤ xs.length → NuOk p (((xs.reverse).take i).foldl (fun acc x => addN p (mulN p acc y) x) (zeroN p)) ∧ Sz (i * (s + t + 1) + 1) (((xs.reverse).take i).foldl (fun acc x => addN p (mulN p acc y) x) (zeroN p)) := by
    intro i
    induction i with
    | zero => exact fun _ => ⟨zero_ok pl, zero_sz (n := 0) |>.mono (by omega)⟩
    | succ i ih =>
      intro hi
      obtain ⟨h1, h2⟩ := ih (by omega)
      have hl : i < xs.reverse.length := by rw [List.length_reverse]; omega
      have hm : xs.reverse[i] ∈ xs := List.mem_reverse.mp (List.getElem_mem hl)
      rw [List.take_succ_eq_append_getElem hl, List.foldl_append]
      refine ⟨ok_add (ok_mul h1 hy) (hx _ hm), ?_⟩
      have := sz_add (p := p) (sz_mul (p := p) h2 zy) (zx _ hm)
      refine this.mono ?_
      rw [Nat.succ_mul]
      omega
  refine forB_p (fun i σ => ∃ v4, σ = [some (.int p), some (.tup (xs.map nuD)), some (nuD y), some (nuD (((xs.reverse).take i).foldl (fun acc x => addN p (mulN p acc y) x) (zeroN p))), v4]) ⟨none, by rw [List.take_zero, List.foldl_nil, zero_nu]⟩ trivial ?_ ?_
  · rintro i d σ' N hd hi ⟨v4, rfl⟩ nx
    have hd' : (xs.map nuD).reverse[i]? = some d := hd
    have hi' : i < (xs.map nuD).reverse.length := hi
    rw [List.length_reverse, List.length_map] at hi'
    have hl : i < xs.reverse.length := by rw [List.length_reverse]; omega
    rw [← List.map_reverse, List.getElem?_map, List.getElem?_eq_getElem hl] at hd'
    cases hd'
    have hm : xs.reverse[i] ∈ xs := List.mem_reverse.mp (List.getElem_mem hl)
    obtain ⟨k1, k2⟩ := key i (by omega)
    have ck : i * (s + t + 1) ≤ xs.length * (s + t + 1) := Nat.mul_le_mul_right _ (by omega)
    have mk := sz_mul (p := p) k2 zy
    simp -implicitDefEqProofs only [sp__law_add, sp__law_mul, ↓ex_bl, ↓ex_int, ↓ex_str, ↓ex_ref, ↓ex_tup, ↓ex_some, ↓ex_eq, ↓ex_eq', ↓ex_1, ↓ex_2, ↓ex_3, ↓ex_4, ↓ex_5, ↓ite_tt, ↓ite_ff, ↓v3_0, ↓v3_s, ↓eq_int, ↓ne_int, ↓eq_bl, ↓ne_bl, ↓eq_pair, ↓ne_pair, eqv_bool, eqv_str, ↓pow_lit, ↓ix_t0, ↓ix_t1, ↓ix_tup, ↓ix_it, ↓q_tC3, ↓q_tOp3, ↓q_tUn3, ↓q_tTest3, ↓q_tChain3, ↓q_tTruth3, ↓q_tAnd3, ↓q_tOr3, ↓q_tNot3, ↓q_tAndV3, ↓q_tOrV3, ↓q_tNotV3, ↓q_tIf3, ↓q_tNil3, ↓q_tCons3, ↓q_tTup3, ↓q_tLst3, ↓q_tNoPart3, ↓q_tPart3, ↓q_tSl3, ↓q_tRev3, ↓r3Rev_tup, ↓r3IsNot_bl, ↓r3Is_bl, ↓r3Sl_tup, ↓c3List_tup, ↓c3List_ref, ↓q_tCB3, ↓q_tBM3, ↓q_tBM03, ↓q_tNext3, ↓q_tSeq3, ↓q_tDrop3, ↓q_tRet3, ↓q_tRetN3, ↓q_tIfS3, ↓q_gName3, ↓gnil_eq, ↓gcons_eq, ↓q_gTup3, ↓q_gSub3, ↓q_tAsg3, ↓q_tPar3, ↓q_tYes3, ↓q_tCall3, ↓q_tTryAs3, ↓q_goneE_nx, ↓q_goneE_rt, ↓q_c3IsE, ↓is_bl, ↓c3Str_int, ↓q_tRaise3, ↓q_spA0, ↓q_spA1, ↓q_spA2, ↓q_spA3, ↓q_spA4, ↓q_spA5, ↓q_endF_rt, ↓q_endF_nx, ↓q_endF_xx, r3Lt, r3Le, r3Gt, r3Ge, r3Mod, r3Div, r3Pow, r3Sub, ↓r3I_int, ↓r3I0_int, ↓r3Add_int, ↓r3Add_tup, ↓r3Add_ref, ↓r3Mul_int, ↓r3Mul_ref, datD_non, ↓datD_bl, ↓datD_int, eqv_int, ↓items_tup, ↓items_rol, ↓items_new, ↓len_new, ↓mupd_same, L3.MO.lst.injEq, List.length_cons, List.length_nil, Nat.reduceAdd, Nat.zero_add, sizeLine_eq, Nat.reduceLeDiff, Nat.reducePow, Int.reduceLT, Int.reduceLE, Int.reducePow, Int.reduceToNat, Int.reduceNeg, Int.reduceAdd, Int.cast_ofNat_Int, Int.reduceSub, Int.reduceMul, Nat.reduceMul, Nat.reduceLT, cpow_lit, List.length_append, List.length_map, ↓u3Neg_int, fdiv_pos, ↓q_tDict0, ix_1_0, ix_2_0, ix_2_1, ix_3_0, ix_3_1, ix_3_2, ix_4_0, ix_4_1, ix_4_2, ix_4_3, ix_5_0, ix_5_1, ix_5_2, ix_5_3, ix_5_4, decide_eq_false_iff_not, ↓lc_seq, ↓lc_r1, ↓lc_r2, ↓for_seq, ↓for_r1, ↓for_r2, ↓c3Tuple_it, ↓c3Min2_int, ↓c3Max2_int, ↓m3Pop_ref, ↓lc_zip, ↓for_zip, ↓lc_enum, ↓for_enum, ↓q_tAug3, r3AddI, ↓datD_pair, datD_pair, eqv_pair, ↓m3Index_ref, wipe3, ↓len_tup, ↓len_rol, ↓c3Len_tup, ↓c3Len_rol, ↓c3Len_ref, ↓c3Int_int, ↓c3Int_bl, ↓c3Abs_int, ↓c3All_ref, ↓c3Any_ref, ↓c3Isi_tl, ↓c3Isi_ty, ↓m3Append_ref, ↓s3Lst_ref, ↓r3Is_non, ↓r3IsNot_non, atI_0, atI_1, atI_2, atI_3, atI_4, tyD_tup, tyD_int, tyD_bl, mc_bool, mc_int, mc_str, mc_tuple, mc_list, mc_dict, ib_NoneType_bool, ib_NoneType_int, ib_NoneType_str, ib_NoneType_tuple, ib_NoneType_list, ib_NoneType_dict, ib_bool_bool, ib_bool_int, ib_bool_str, ib_bool_tuple, ib_bool_list, ib_bool_dict, ib_int_bool, ib_int_int, ib_int_str, ib_int_tuple, ib_int_list, ib_int_dict, ib_str_bool, ib_str_int, ib_str_str, ib_str_tuple, ib_str_list, ib_str_dict, ib_tuple_bool, ib_tuple_int, ib_tuple_str, ib_tuple_tuple, ib_tuple_list, ib_tuple_dict, ib_list_bool, ib_list_int, ib_list_str, ib_list_tuple, ib_list_list, ib_list_dict, ib_dict_bool, ib_dict_int, ib_dict_str, ib_dict_tuple, ib_dict_list, ib_dict_dict, tyD_str, tyD_non, tyD_rol, Bool.or_false, Bool.false_or, Bool.or_true, Bool.true_or, ↓truD_bl, ↓truD_int, List.getElem?_cons_zero, List.getElem?_cons_succ, List.set_cons_zero, List.set_cons_succ, Option.some.injEq, L3.D.bl.injEq, L3.D.int.injEq, L3.D.ref.injEq, L3.D.tup.injEq, L3.D.ty.injEq, L3.D.str.injEq, List.cons.injEq, and_true, true_and, exists_eq_left, exists_eq_left', exists_eq, exists_eq', exists_and_left, exists_and_right, exists_const, and_assoc, exists_eq_right_right, exists_eq_right, ↓ite_both, decide_eq_true_eq, reduceCtorEq, false_and, and_false, exists_false, not_false_eq_true, not_true_eq_false, Bool.false_eq_true, implies_true, forall_const, true_implies, false_implies, Bool.not_eq_true, Bool.not_true, Bool.not_false, decide_true, decide_false, Bool.not_eq_true', Bool.not_eq_false', Bool.not_eq_false, if_true, if_false, Bool.and_true, Bool.true_and, Bool.and_false, Bool.false_and, r3Eq, r3Ne]
    refine ⟨_, rfl, _, rfl, hg, k1, hy, ⟨_, k2, _, zy, by omega⟩, _, rfl, _, rfl, hg, ok_mul k1 hy, hx _ hm, ⟨_, mk, _, zx _ hm, by omega⟩, nx _ _ .refl ⟨some (nuD xs.reverse[i]), ?_⟩⟩
    rw [List.take_succ_eq_append_getElem hl, List.foldl_append]
    rfl
  · rintro σ' ⟨v4, rfl⟩
    have e : xs.reverse.take (xs.map nuD).reverse.length = xs.reverse := by
      rw [List.length_reverse, List.length_map, ← List.length_reverse (as := xs), List.take_length]
    have q' : Q (nuD ((xs.reverse.take (xs.map nuD).reverse.length).foldl (fun acc x => addN p (mulN p acc y) x) (zeroN p))) M := by
      rw [e]
      exact q
    simp -implicitDefEqProofs only [↓ex_bl, ↓ex_int, ↓ex_str, ↓ex_ref, ↓ex_tup, ↓ex_some, ↓ex_eq, ↓ex_eq', ↓ex_1, ↓ex_2, ↓ex_3, ↓ex_4, ↓ex_5, ↓ite_tt, ↓ite_ff, ↓v3_0, ↓v3_s, ↓eq_int, ↓ne_int, ↓eq_bl, ↓ne_bl, ↓eq_pair, ↓ne_pair, eqv_bool, eqv_str, ↓pow_lit, ↓ix_t0, ↓ix_t1, ↓ix_tup, ↓ix_it, ↓q_tC3, ↓q_tOp3, ↓q_tUn3, ↓q_tTest3, ↓q_tChain3, ↓q_tTruth3, ↓q_tAnd3, ↓q_tOr3, ↓q_tNot3, ↓q_tAndV3, ↓q_tOrV3, ↓q_tNotV3, ↓q_tIf3, ↓q_tNil3, ↓q_tCons3, ↓q_tTup3, ↓q_tLst3, ↓q_tNoPart3, ↓q_tPart3, ↓q_tSl3, ↓q_tRev3, ↓r3Rev_tup, ↓r3IsNot_bl, ↓r3Is_bl, ↓r3Sl_tup, ↓c3List_tup, ↓c3List_ref, ↓q_tCB3, ↓q_tBM3, ↓q_tBM03, ↓q_tNext3, ↓q_tSeq3, ↓q_tDrop3, ↓q_tRet3, ↓q_tRetN3, ↓q_tIfS3, ↓q_gName3, ↓gnil_eq, ↓gcons_eq, ↓q_gTup3, ↓q_gSub3, ↓q_tAsg3, ↓q_tPar3, ↓q_tYes3, ↓q_tCall3, ↓q_tTryAs3, ↓q_goneE_nx, ↓q_goneE_rt, ↓q_c3IsE, ↓is_bl, ↓c3Str_int, ↓q_tRaise3, ↓q_spA0, ↓q_spA1, ↓q_spA2, ↓q_spA3, ↓q_spA4, ↓q_spA5, ↓q_endF_rt, ↓q_endF_nx, ↓q_endF_xx, r3Lt, r3Le, r3Gt, r3Ge, r3Mod, r3Div, r3Pow, r3Sub, ↓r3I_int, ↓r3I0_int, ↓r3Add_int, ↓r3Add_tup, ↓r3Add_ref, ↓r3Mul_int, ↓r3Mul_ref, datD_non, ↓datD_bl, ↓datD_int, eqv_int, ↓items_tup, ↓items_rol, ↓items_new, ↓len_new, ↓mupd_same, L3.MO.lst.injEq, List.length_cons, List.length_nil, Nat.reduceAdd, Nat.zero_add, sizeLine_eq, Nat.reduceLeDiff, Nat.reducePow, Int.reduceLT, Int.reduceLE, Int.reducePow, Int.reduceToNat, Int.reduceNeg, Int.reduceAdd, Int.cast_ofNat_Int, Int.reduceSub, Int.reduceMul, Nat.reduceMul, Nat.reduceLT, cpow_lit, List.length_append, List.length_map, ↓u3Neg_int, fdiv_pos, ↓q_tDict0, ix_1_0, ix_2_0, ix_2_1, ix_3_0, ix_3_1, ix_3_2, ix_4_0, ix_4_1, ix_4_2, ix_4_3, ix_5_0, ix_5_1, ix_5_2, ix_5_3, ix_5_4, decide_eq_false_iff_not, ↓lc_seq, ↓lc_r1, ↓lc_r2, ↓for_seq, ↓for_r1, ↓for_r2, ↓c3Tuple_it, ↓c3Min2_int, ↓c3Max2_int, ↓m3Pop_ref, ↓lc_zip, ↓for_zip, ↓lc_enum, ↓for_enum, ↓q_tAug3, r3AddI, ↓datD_pair, datD_pair, eqv_pair, ↓m3Index_ref, wipe3, ↓len_tup, ↓len_rol, ↓c3Len_tup, ↓c3Len_rol, ↓c3Len_ref, ↓c3Int_int, ↓c3Int_bl, ↓c3Abs_int, ↓c3All_ref, ↓c3Any_ref, ↓c3Isi_tl, ↓c3Isi_ty, ↓m3Append_ref, ↓s3Lst_ref, ↓r3Is_non, ↓r3IsNot_non, atI_0, atI_1, atI_2, atI_3, atI_4, tyD_tup, tyD_int, tyD_bl, mc_bool, mc_int, mc_str, mc_tuple, mc_list, mc_dict, ib_NoneType_bool, ib_NoneType_int, ib_NoneType_str, ib_NoneType_tuple, ib_NoneType_list, ib_NoneType_dict, ib_bool_bool, ib_bool_int, ib_bool_str, ib_bool_tuple, ib_bool_list, ib_bool_dict, ib_int_bool, ib_int_int, ib_int_str, ib_int_tuple, ib_int_list, ib_int_dict, ib_str_bool, ib_str_int, ib_str_str, ib_str_tuple, ib_str_list, ib_str_dict, ib_tuple_bool, ib_tuple_int, ib_tuple_str, ib_tuple_tuple, ib_tuple_list, ib_tuple_dict, ib_list_bool, ib_list_int, ib_list_str, ib_list_tuple, ib_list_list, ib_list_dict, ib_dict_bool, ib_dict_int, ib_dict_str, ib_dict_tuple, ib_dict_list, ib_dict_dict, tyD_str, tyD_non, tyD_rol, Bool.or_false, Bool.false_or, Bool.or_true, Bool.true_or, ↓truD_bl, ↓truD_int, List.getElem?_cons_zero, List.getElem?_cons_succ, List.set_cons_zero, List.set_cons_succ, Option.some.injEq, L3.D.bl.injEq, L3.D.int.injEq, L3.D.ref.injEq, L3.D.tup.injEq, L3.D.ty.injEq, L3.D.str.injEq, List.cons.injEq, and_true, true_and, exists_eq_left, exists_eq_left', exists_eq, exists_eq', exists_and_left, exists_and_right, exists_const, and_assoc, exists_eq_right_right, exists_eq_right, ↓ite_both, decide_eq_true_eq, reduceCtorEq, false_and, and_false, exists_false, not_false_eq_true, not_true_eq_false, Bool.false_eq_true, implies_true, forall_const, true_implies, false_implies, Bool.not_eq_true, Bool.not_true, Bool.not_false, decide_true, decide_false, Bool.not_eq_true', Bool.not_eq_false', Bool.not_eq_false, if_true, if_false, Bool.and_true, Bool.true_and, Bool.and_false, Bool.false_and, r3Eq, r3Ne]
    exact ret_same q'

def sp__law_deep (K : PySem.W.Frag) : Sp3 := spA1 fun a M Q X => ∃ h, a = .ref h ∧ HandOk M h ∧ ∀ d M', isInt d = false → tyA M' d → HStep h M M' → Q d M'
abbrev N__law_deep : List Str := ["hand", "thing", "turn"]
def tr__law_deep (K : PySem.W.Frag) : TS3 := (tSeq3 (tAsg3 (tCall3 (sp__law_any K) (tCons3 (tVar3 0) (tCons3 (tLst3 (tCons3 (tC3 (.int 0)) (tCons3 (tTup3 tNil3) (tCons3 (tC3 (.str ("a" : Str))) (tCons3 (tTup3 (tCons3 (tC3 (.int 0)) (tCons3 (tC3 (.int 1)) tNil3))) tNil3))))) tNil3))) (gName3 1)) (tSeq3 (tFor3 (iRng13 (tCons3 (tOp3 r3Add (tC3 (.int 18)) (tCall3 (sp__law_draw K) (tCons3 (tVar3 0) (tCons3 (tC3 (.int 12)) tNil3)))) tNil3)) (gName3 2) (tAsg3 (tIf3 (tTest3 (tOp3 r3Gt (tCall3 (sp__law_draw K) (tCons3 (tVar3 0) (tCons3 (tC3 (.int 3)) tNil3))) (tC3 (.int 0)))) (tTup3 (tCons3 (tVar3 1) tNil3)) (tLst3 (tCons3 (tVar3 1) tNil3))) (gName3 1))) (tRet3 (tVar3 1))))
theorem rd__law_deep (K : PySem.W.Frag) : ∀ ds M Q E, sp__law_deep K ds M Q E → tr__law_deep K (endF M Q E) (start3 N__law_deep ds) M := by
  rintro ds M Q E ⟨a, rfl, h, rfl, hk, q⟩
  unfold tr__law_deep
  simp only [start3, List.map_cons, List.map_nil, List.length_cons, List.length_nil, List.cons_append, List.nil_append, List.replicate_succ, List.replicate_zero, Nat.reduceAdd, Nat.reduceSub, Nat.zero_add]
  simp -implicitDefEqProofs only [sp__law_any, spAny, sp__law_draw, spDraw, ↓ex_bl, ↓ex_int, ↓ex_str, ↓ex_ref, ↓ex_tup, ↓ex_some, ↓ex_eq, ↓ex_eq', ↓ex_1, ↓ex_2, ↓ex_3, ↓ex_4, ↓ex_5, ↓ite_tt, ↓ite_ff, ↓v3_0, ↓v3_s, ↓eq_int, ↓ne_int, ↓eq_bl, ↓ne_bl, ↓eq_pair, ↓ne_pair, eqv_bool, eqv_str, ↓pow_lit, ↓ix_t0, ↓ix_t1, ↓ix_tup, ↓ix_it, ↓q_tC3, ↓q_tOp3, ↓q_tUn3, ↓q_tTest3, ↓q_tChain3, ↓q_tTruth3, ↓q_tAnd3, ↓q_tOr3, ↓q_tNot3, ↓q_tAndV3, ↓q_tOrV3, ↓q_tNotV3, ↓q_tIf3, ↓q_tNil3, ↓q_tCons3, ↓q_tTup3, ↓q_tLst3, ↓q_tNoPart3, ↓q_tPart3, ↓q_tSl3, ↓q_tRev3, ↓r3Rev_tup, ↓r3IsNot_bl, ↓r3Is_bl, ↓r3Sl_tup, ↓c3List_tup, ↓c3List_ref, ↓q_tCB3, ↓q_tBM3, ↓q_tBM03, ↓q_tNext3, ↓q_tSeq3, ↓q_tDrop3, ↓q_tRet3, ↓q_tRetN3, ↓q_tIfS3, ↓q_gName3, ↓gnil_eq, ↓gcons_eq, ↓q_gTup3, ↓q_gSub3, ↓q_tAsg3, ↓q_tPar3, ↓q_tYes3, ↓q_tCall3, ↓q_tTryAs3, ↓q_goneE_nx, ↓q_goneE_rt, ↓q_c3IsE, ↓is_bl, ↓c3Str_int, ↓q_tRaise3, ↓q_spA0, ↓q_spA1, ↓q_spA2, ↓q_spA3, ↓q_spA4, ↓q_spA5, ↓q_endF_rt, ↓q_endF_nx, ↓q_endF_xx, r3Lt, r3Le, r3Gt, r3Ge, r3Mod, r3Div, r3Pow, r3Sub, ↓r3I_int, ↓r3I0_int, ↓r3Add_int, ↓r3Add_tup, ↓r3Add_ref, ↓r3Mul_int, ↓r3Mul_ref, datD_non, ↓datD_bl, ↓datD_int, eqv_int, ↓items_tup, ↓items_rol, ↓items_new, ↓len_new, ↓mupd_same, L3.MO.lst.injEq, List.length_cons, List.length_nil, Nat.reduceAdd, Nat.zero_add, sizeLine_eq, Nat.reduceLeDiff, Nat.reducePow, Int.reduceLT, Int.reduceLE, Int.reducePow, Int.reduceToNat, Int.reduceNeg, Int.reduceAdd, Int.cast_ofNat_Int, Int.reduceSub, Int.reduceMul, Nat.reduceMul, Nat.reduceLT, cpow_lit, List.length_append, List.length_map, ↓u3Neg_int, fdiv_pos, ↓q_tDict0, ix_1_0, ix_2_0, ix_2_1, ix_3_0, ix_3_1, ix_3_2, ix_4_0, ix_4_1, ix_4_2, ix_4_3, ix_5_0, ix_5_1, ix_5_2, ix_5_3, ix_5_4, decide_eq_false_iff_not, ↓lc_seq, ↓lc_r1, ↓lc_r2, ↓for_seq, ↓for_r1, ↓for_r2, ↓c3Tuple_it, ↓c3Min2_int, ↓c3Max2_int, ↓m3Pop_ref, ↓lc_zip, ↓for_zip, ↓lc_enum, ↓for_enum, ↓q_tAug3, r3AddI, ↓datD_pair, datD_pair, eqv_pair, ↓m3Index_ref, wipe3, ↓len_tup, ↓len_rol, ↓c3Len_tup, ↓c3Len_rol, ↓c3Len_ref, ↓c3Int_int, ↓c3Int_bl, ↓c3Abs_int, ↓c3All_ref, ↓c3Any_ref, ↓c3Isi_tl, ↓c3Isi_ty, ↓m3Append_ref, ↓s3Lst_ref, ↓r3Is_non, ↓r3IsNot_non, atI_0, atI_1, atI_2, atI_3, atI_4, tyD_tup, tyD_int, tyD_bl, mc_bool, mc_int, mc_str, mc_tuple, mc_list, mc_dict, ib_NoneType_bool, ib_NoneType_int, ib_NoneType_str, ib_NoneType_tuple, ib_NoneType_list, ib_NoneType_dict, ib_bool_bool, ib_bool_int, ib_bool_str, ib_bool_tuple, ib_bool_list, ib_bool_dict, ib_int_bool, ib_int_int, ib_int_str, ib_int_tuple, ib_int_list, ib_int_dict, ib_str_bool, ib_str_int, ib_str_str, ib_str_tuple, ib_str_list, ib_str_dict, ib_tuple_bool, ib_tuple_int, ib_tuple_str, ib_tuple_tuple, ib_tuple_list, ib_tuple_dict, ib_list_bool, ib_list_int, ib_list_str, ib_list_tuple, ib_list_list, ib_list_dict, ib_dict_bool, ib_dict_int, ib_dict_str, ib_dict_tuple, ib_dict_list, ib_dict_dict, tyD_str, tyD_non, tyD_rol, Bool.or_false, Bool.false_or, Bool.or_true, Bool.true_or, ↓truD_bl, ↓truD_int, List.getElem?_cons_zero, List.getElem?_cons_succ, List.set_cons_zero, List.set_cons_succ, Option.some.injEq, L3.D.bl.injEq, L3.D.int.injEq, L3.D.ref.injEq, L3.D.tup.injEq, L3.D.ty.injEq, L3.D.str.injEq, List.cons.injEq, and_true, true_and, exists_eq_left, exists_eq_left', exists_eq, exists_eq', exists_and_left, exists_and_right, exists_const, and_assoc, exists_eq_right_right, exists_eq_right, ↓ite_both, decide_eq_true_eq, reduceCtorEq, false_and, and_false, exists_false, not_false_eq_true, not_true_eq_false, Bool.false_eq_true, implies_true, forall_const, true_implies, false_implies, Bool.not_eq_true, Bool.not_true, Bool.not_false, decide_true, decide_false, Bool.not_eq_true', Bool.not_eq_false', Bool.not_eq_false, if_true, if_false, Bool.and_true, Bool.true_and, Bool.and_false, Bool.false_and, r3Eq, r3Ne]
  refine fun l hl => ⟨hk.ne hl, hk.new hl, fun d M1 hd s1 => ?_⟩
  refine ⟨s1.ok, fun r M2 r0 r1 s2 => ⟨by omega, by omega, ?_⟩⟩
  have s0 : HStep h M M2 := ((HStep.alloc hk hl).trans s1).trans s2
  have td : tyA M2 d := by
    simp only [List.mem_cons, List.not_mem_nil, or_false] at hd
    rcases hd with rfl | rfl | rfl | rfl
    all_goals simp [tyA, tyAs]
  refine forB_h s2.ok (fun i σ M' => ∃ d x, σ = [some (.ref h), some d, x] ∧ tyA M' d ∧ (0 < i → isInt d = false)) ⟨d, none, rfl, td, fun z => absurd z (by decide)⟩ (fun _ _ _ _ _ => trivial) ?_ ?_
  · rintro i d σ' M' N hi _ s ⟨d', x, rfl, t, _⟩ n
    obtain ⟨rfl, _⟩ := rng_get hi
    simp -implicitDefEqProofs only [↓ex_bl, ↓ex_int, ↓ex_str, ↓ex_ref, ↓ex_tup, ↓ex_some, ↓ex_eq, ↓ex_eq', ↓ex_1, ↓ex_2, ↓ex_3, ↓ex_4, ↓ex_5, ↓ite_tt, ↓ite_ff, ↓v3_0, ↓v3_s, ↓eq_int, ↓ne_int, ↓eq_bl, ↓ne_bl, ↓eq_pair, ↓ne_pair, eqv_bool, eqv_str, ↓pow_lit, ↓ix_t0, ↓ix_t1, ↓ix_tup, ↓ix_it, ↓q_tC3, ↓q_tOp3, ↓q_tUn3, ↓q_tTest3, ↓q_tChain3, ↓q_tTruth3, ↓q_tAnd3, ↓q_tOr3, ↓q_tNot3, ↓q_tAndV3, ↓q_tOrV3, ↓q_tNotV3, ↓q_tIf3, ↓q_tNil3, ↓q_tCons3, ↓q_tTup3, ↓q_tLst3, ↓q_tNoPart3, ↓q_tPart3, ↓q_tSl3, ↓q_tRev3, ↓r3Rev_tup, ↓r3IsNot_bl, ↓r3Is_bl, ↓r3Sl_tup, ↓c3List_tup, ↓c3List_ref, ↓q_tCB3, ↓q_tBM3, ↓q_tBM03, ↓q_tNext3, ↓q_tSeq3, ↓q_tDrop3, ↓q_tRet3, ↓q_tRetN3, ↓q_tIfS3, ↓q_gName3, ↓gnil_eq, ↓gcons_eq, ↓q_gTup3, ↓q_gSub3, ↓q_tAsg3, ↓q_tPar3, ↓q_tYes3, ↓q_tCall3, ↓q_tTryAs3, ↓q_goneE_nx, ↓q_goneE_rt, ↓q_c3IsE, ↓is_bl, ↓c3Str_int, ↓q_tRaise3, ↓q_spA0, ↓q_spA1, ↓q_spA2, ↓q_spA3, ↓q_spA4, ↓q_spA5, ↓q_endF_rt, ↓q_endF_nx, ↓q_endF_xx, r3Lt, r3Le, r3Gt, r3Ge, r3Mod, r3Div, r3Pow, r3Sub, ↓r3I_int, ↓r3I0_int, ↓r3Add_int, ↓r3Add_tup, ↓r3Add_ref, ↓r3Mul_int, ↓r3Mul_ref, datD_non, ↓datD_bl, ↓datD_int, eqv_int, ↓items_tup, ↓items_rol, ↓items_new, ↓len_new, ↓mupd_same, L3.MO.lst.injEq, List.length_cons, List.length_nil, Nat.reduceAdd, Nat.zero_add, sizeLine_eq, Nat.reduceLeDiff, Nat.reducePow, Int.reduceLT, Int.reduceLE, Int.reducePow, Int.reduceToNat, Int.reduceNeg, Int.reduceAdd, Int.cast_ofNat_Int, Int.reduceSub, Int.reduceMul, Nat.reduceMul, Nat.reduceLT, cpow_lit, List.length_append, List.length_map, ↓u3Neg_int, fdiv_pos, ↓q_tDict0, ix_1_0, ix_2_0, ix_2_1, ix_3_0, ix_3_1, ix_3_2, ix_4_0, ix_4_1, ix_4_2, ix_4_3, ix_5_0, ix_5_1, ix_5_2, ix_5_3, ix_5_4, decide_eq_false_iff_not, ↓lc_seq, ↓lc_r1, ↓lc_r2, ↓for_seq, ↓for_r1, ↓for_r2, ↓c3Tuple_it, ↓c3Min2_int, ↓c3Max2_int, ↓m3Pop_ref, ↓lc_zip, ↓for_zip, ↓lc_enum, ↓for_enum, ↓q_tAug3, r3AddI, ↓datD_pair, datD_pair, eqv_pair, ↓m3Index_ref, wipe3, ↓len_tup, ↓len_rol, ↓c3Len_tup, ↓c3Len_rol, ↓c3Len_ref, ↓c3Int_int, ↓c3Int_bl, ↓c3Abs_int, ↓c3All_ref, ↓c3Any_ref, ↓c3Isi_tl, ↓c3Isi_ty, ↓m3Append_ref, ↓s3Lst_ref, ↓r3Is_non, ↓r3IsNot_non, atI_0, atI_1, atI_2, atI_3, atI_4, tyD_tup, tyD_int, tyD_bl, mc_bool, mc_int, mc_str, mc_tuple, mc_list, mc_dict, ib_NoneType_bool, ib_NoneType_int, ib_NoneType_str, ib_NoneType_tuple, ib_NoneType_list, ib_NoneType_dict, ib_bool_bool, ib_bool_int, ib_bool_str, ib_bool_tuple, ib_bool_list, ib_bool_dict, ib_int_bool, ib_int_int, ib_int_str, ib_int_tuple, ib_int_list, ib_int_dict, ib_str_bool, ib_str_int, ib_str_str, ib_str_tuple, ib_str_list, ib_str_dict, ib_tuple_bool, ib_tuple_int, ib_tuple_str, ib_tuple_tuple, ib_tuple_list, ib_tuple_dict, ib_list_bool, ib_list_int, ib_list_str, ib_list_tuple, ib_list_list, ib_list_dict, ib_dict_bool, ib_dict_int, ib_dict_str, ib_dict_tuple, ib_dict_list, ib_dict_dict, tyD_str, tyD_non, tyD_rol, Bool.or_false, Bool.false_or, Bool.or_true, Bool.true_or, ↓truD_bl, ↓truD_int, List.getElem?_cons_zero, List.getElem?_cons_succ, List.set_cons_zero, List.set_cons_succ, Option.some.injEq, L3.D.bl.injEq, L3.D.int.injEq, L3.D.ref.injEq, L3.D.tup.injEq, L3.D.ty.injEq, L3.D.str.injEq, List.cons.injEq, and_true, true_and, exists_eq_left, exists_eq_left', exists_eq, exists_eq', exists_and_left, exists_and_right, exists_const, and_assoc, exists_eq_right_right, exists_eq_right, ↓ite_both, decide_eq_true_eq, reduceCtorEq, false_and, and_false, exists_false, not_false_eq_true, not_true_eq_false, Bool.false_eq_true, implies_true, forall_const, true_implies, false_implies, Bool.not_eq_true, Bool.not_true, Bool.not_false, decide_true, decide_false, Bool.not_eq_true', Bool.not_eq_false', Bool.not_eq_false, if_true, if_false, Bool.and_true, Bool.true_and, Bool.and_false, Bool.false_and, r3Eq, r3Ne]
    refine ⟨s.ok, fun r M3 r0 r1 s3 => ⟨fun _ => ?_, fun _ => fun l2 hl2 => ?_⟩⟩
    · exact n _ _ (s.trans s3) ⟨_, _, rfl, tyA_tup.mpr ⟨(show 1 ≤ 1000000 by decide), by simp only [List.mem_singleton]; rintro x rfl; exact t.step s3⟩, fun _ => rfl⟩
    · exact n _ _ ((s.trans s3).new hl2) ⟨_, _, rfl, tyA_lst mupd_same, fun _ => rfl⟩
  · rintro σ' M' s ⟨d', x, rfl, t, z⟩
    simp -implicitDefEqProofs only [↓ex_bl, ↓ex_int, ↓ex_str, ↓ex_ref, ↓ex_tup, ↓ex_some, ↓ex_eq, ↓ex_eq', ↓ex_1, ↓ex_2, ↓ex_3, ↓ex_4, ↓ex_5, ↓ite_tt, ↓ite_ff, ↓v3_0, ↓v3_s, ↓eq_int, ↓ne_int, ↓eq_bl, ↓ne_bl, ↓eq_pair, ↓ne_pair, eqv_bool, eqv_str, ↓pow_lit, ↓ix_t0, ↓ix_t1, ↓ix_tup, ↓ix_it, ↓q_tC3, ↓q_tOp3, ↓q_tUn3, ↓q_tTest3, ↓q_tChain3, ↓q_tTruth3, ↓q_tAnd3, ↓q_tOr3, ↓q_tNot3, ↓q_tAndV3, ↓q_tOrV3, ↓q_tNotV3, ↓q_tIf3, ↓q_tNil3, ↓q_tCons3, ↓q_tTup3, ↓q_tLst3, ↓q_tNoPart3, ↓q_tPart3, ↓q_tSl3, ↓q_tRev3, ↓r3Rev_tup, ↓r3IsNot_bl, ↓r3Is_bl, ↓r3Sl_tup, ↓c3List_tup, ↓c3List_ref, ↓q_tCB3, ↓q_tBM3, ↓q_tBM03, ↓q_tNext3, ↓q_tSeq3, ↓q_tDrop3, ↓q_tRet3, ↓q_tRetN3, ↓q_tIfS3, ↓q_gName3, ↓gnil_eq, ↓gcons_eq, ↓q_gTup3, ↓q_gSub3, ↓q_tAsg3, ↓q_tPar3, ↓q_tYes3, ↓q_tCall3, ↓q_tTryAs3, ↓q_goneE_nx, ↓q_goneE_rt, ↓q_c3IsE, ↓is_bl, ↓c3Str_int, ↓q_tRaise3, ↓q_spA0, ↓q_spA1, ↓q_spA2, ↓q_spA3, ↓q_spA4, ↓q_spA5, ↓q_endF_rt, ↓q_endF_nx, ↓q_endF_xx, r3Lt, r3Le, r3Gt, r3Ge, r3Mod, r3Div, r3Pow, r3Sub, ↓r3I_int, ↓r3I0_int, ↓r3Add_int, ↓r3Add_tup, ↓r3Add_ref, ↓r3Mul_int, ↓r3Mul_ref, datD_non, ↓datD_bl, ↓datD_int, eqv_int, ↓items_tup, ↓items_rol, ↓items_new, ↓len_new, ↓mupd_same, L3.MO.lst.injEq, List.length_cons, List.length_nil, Nat.reduceAdd, Nat.zero_add, sizeLine_eq, Nat.reduceLeDiff, Nat.reducePow, Int.reduceLT, Int.reduceLE, Int.reducePow, Int.reduceToNat, Int.reduceNeg, Int.reduceAdd, Int.cast_ofNat_Int, Int.reduceSub, Int.reduceMul, Nat.reduceMul, Nat.reduceLT, cpow_lit, List.length_append, List.length_map, ↓u3Neg_int, fdiv_pos, ↓q_tDict0, ix_1_0, ix_2_0, ix_2_1, ix_3_0, ix_3_1, ix_3_2, ix_4_0, ix_4_1, ix_4_2, ix_4_3, ix_5_0, ix_5_1, ix_5_2, ix_5_3, ix_5_4, decide_eq_false_iff_not, ↓lc_seq, ↓lc_r1, ↓lc_r2, ↓for_seq, ↓for_r1, ↓for_r2, ↓c3Tuple_it, ↓c3Min2_int, ↓c3Max2_int, ↓m3Pop_ref, ↓lc_zip, ↓for_zip, ↓lc_enum, ↓for_enum, ↓q_tAug3, r3AddI, ↓datD_pair, datD_pair, eqv_pair, ↓m3Index_ref, wipe3, ↓len_tup, ↓len_rol, ↓c3Len_tup, ↓c3Len_rol, ↓c3Len_ref, ↓c3Int_int, ↓c3Int_bl, ↓c3Abs_int, ↓c3All_ref, ↓c3Any_ref, ↓c3Isi_tl, ↓c3Isi_ty, ↓m3Append_ref, ↓s3Lst_ref, ↓r3Is_non, ↓r3IsNot_non, atI_0, atI_1, atI_2, atI_3, atI_4, tyD_tup, tyD_int, tyD_bl, mc_bool, mc_int, mc_str, mc_tuple, mc_list, mc_dict, ib_NoneType_bool, ib_NoneType_int, ib_NoneType_str, ib_NoneType_tuple, ib_NoneType_list, ib_NoneType_dict, ib_bool_bool, ib_bool_int, ib_bool_str, ib_bool_tuple, ib_bool_list, ib_bool_dict, ib_int_bool, ib_int_int, ib_int_str, ib_int_tuple, ib_int_list, ib_int_dict, ib_str_bool, ib_str_int, ib_str_str, ib_str_tuple, ib_str_list, ib_str_dict, ib_tuple_bool, ib_tuple_int, ib_tuple_str, ib_tuple_tuple, ib_tuple_list, ib_tuple_dict, ib_list_bool, ib_list_int, ib_list_str, ib_list_tuple, ib_list_list, ib_list_dict, ib_dict_bool, ib_dict_int, ib_dict_str, ib_dict_tuple, ib_dict_list, ib_dict_dict, tyD_str, tyD_non, tyD_rol, Bool.or_false, Bool.false_or, Bool.or_true, Bool.true_or, ↓truD_bl, ↓truD_int, List.getElem?_cons_zero, List.getElem?_cons_succ, List.set_cons_zero, List.set_cons_succ, Option.some.injEq, L3.D.bl.injEq, L3.D.int.injEq, L3.D.ref.injEq, L3.D.tup.injEq, L3.D.ty.injEq, L3.D.str.injEq, List.cons.injEq, and_true, true_and, exists_eq_left, exists_eq_left', exists_eq, exists_eq', exists_and_left, exists_and_right, exists_const, and_assoc, exists_eq_right_right, exists_eq_right, ↓ite_both, decide_eq_true_eq, reduceCtorEq, false_and, and_false, exists_false, not_false_eq_true, not_true_eq_false, Bool.false_eq_true, implies_true, forall_const, true_implies, false_implies, Bool.not_eq_true, Bool.not_true, Bool.not_false, decide_true, decide_false, Bool.not_eq_true', Bool.not_eq_false', Bool.not_eq_false, if_true, if_false, Bool.and_true, Bool.true_and, Bool.and_false, Bool.false_and, r3Eq, r3Ne]
    exact (s0.trans s).ret (q _ _ (z (by rw [rng_len]; omega)) t (s0.trans s))

def sp__law_odd (K : PySem.W.Frag) : Sp3 := spA2 fun a b M Q X => ∃ h, a = .ref h ∧ HandOk M h ∧ tyA M b ∧ ∀ d M', tyA M' d → HStep h M M' → Q d M'
abbrev N__law_odd : List Str := ["hand", "thing", "odd"]
def tr__law_odd (K : PySem.W.Frag) : TS3 := (tSeq3 (tAsg3 (tLst3 (tCons3 (tC3 .non) (tCons3 (tC3 (.bl true)) (tCons3 (tC3 (.bl false)) (tCons3 (tC3 (.int 0)) (tCons3 (tUn3 u3Neg (tC3 (.int 1))) (tCons3 (tC3 (.str ("0" : Str))) (tCons3 (tC3 (.str ("" : Str))) (tCons3 (tTup3 tNil3) (tCons3 (tLst3 tNil3) (tCons3 tDict0 (tCons3 (tTup3 (tCons3 (tC3 (.int 0)) tNil3)) (tCons3 (tTup3 (tCons3 (tTup3 (tCons3 (tC3 (.int 0)) (tCons3 (tC3 (.int 1)) tNil3))) tNil3)) (tCons3 (tTup3 (tCons3 (tC3 .non) tNil3)) (tCons3 (tOp3 r3Pow (tC3 (.int 10)) (tC3 (.int 19))) (tCons3 (tVar3 1) tNil3)))))))))))))))) (gName3 2)) (tRet3 (tCall3 (sp__law_any K) (tCons3 (tVar3 0) (tCons3 (tOp3 r3Add (tVar3 2) (tLst3 (tCons3 (tCall3 (sp__law_deep K) (tCons3 (tVar3 0) tNil3)) tNil3))) tNil3)))))
theorem rd__law_odd (K : PySem.W.Frag) : ∀ ds M Q E, sp__law_odd K ds M Q E → tr__law_odd K (endF M Q E) (start3 N__law_odd ds) M := by
  rintro ds M Q E ⟨a, b, rfl, h, rfl, hk, tb, q⟩
  unfold tr__law_odd
  simp only [start3, List.map_cons, List.map_nil, List.length_cons, List.length_nil, List.cons_append, List.nil_append, List.replicate_succ, List.replicate_zero, Nat.reduceAdd, Nat.reduceSub, Nat.zero_add]
  simp -implicitDefEqProofs only [sp__law_any, spAny, sp__law_deep, ↓ex_bl, ↓ex_int, ↓ex_str, ↓ex_ref, ↓ex_tup, ↓ex_some, ↓ex_eq, ↓ex_eq', ↓ex_1, ↓ex_2, ↓ex_3, ↓ex_4, ↓ex_5, ↓ite_tt, ↓ite_ff, ↓v3_0, ↓v3_s, ↓eq_int, ↓ne_int, ↓eq_bl, ↓ne_bl, ↓eq_pair, ↓ne_pair, eqv_bool, eqv_str, ↓pow_lit, ↓ix_t0, ↓ix_t1, ↓ix_tup, ↓ix_it, ↓q_tC3, ↓q_tOp3, ↓q_tUn3, ↓q_tTest3, ↓q_tChain3, ↓q_tTruth3, ↓q_tAnd3, ↓q_tOr3, ↓q_tNot3, ↓q_tAndV3, ↓q_tOrV3, ↓q_tNotV3, ↓q_tIf3, ↓q_tNil3, ↓q_tCons3, ↓q_tTup3, ↓q_tLst3, ↓q_tNoPart3, ↓q_tPart3, ↓q_tSl3, ↓q_tRev3, ↓r3Rev_tup, ↓r3IsNot_bl, ↓r3Is_bl, ↓r3Sl_tup, ↓c3List_tup, ↓c3List_ref, ↓q_tCB3, ↓q_tBM3, ↓q_tBM03, ↓q_tNext3, ↓q_tSeq3, ↓q_tDrop3, ↓q_tRet3, ↓q_tRetN3, ↓q_tIfS3, ↓q_gName3, ↓gnil_eq, ↓gcons_eq, ↓q_gTup3, ↓q_gSub3, ↓q_tAsg3, ↓q_tPar3, ↓q_tYes3, ↓q_tCall3, ↓q_tTryAs3, ↓q_goneE_nx, ↓q_goneE_rt, ↓q_c3IsE, ↓is_bl, ↓c3Str_int, ↓q_tRaise3, ↓q_spA0, ↓q_spA1, ↓q_spA2, ↓q_spA3, ↓q_spA4, ↓q_spA5, ↓q_endF_rt, ↓q_endF_nx, ↓q_endF_xx, r3Lt, r3Le, r3Gt, r3Ge, r3Mod, r3Div, r3Pow, r3Sub, ↓r3I_int, ↓r3I0_int, ↓r3Add_int, ↓r3Add_tup, ↓r3Add_ref, ↓r3Mul_int, ↓r3Mul_ref, datD_non, ↓datD_bl, ↓datD_int, eqv_int, ↓items_tup, ↓items_rol, ↓items_new, ↓len_new, ↓mupd_same, L3.MO.lst.injEq, List.length_cons, List.length_nil, Nat.reduceAdd, Nat.zero_add, sizeLine_eq, Nat.reduceLeDiff, Nat.reducePow, Int.reduceLT, Int.reduceLE, Int.reducePow, Int.reduceToNat, Int.reduceNeg, Int.reduceAdd, Int.cast_ofNat_Int, Int.reduceSub, Int.reduceMul, Nat.reduceMul, Nat.reduceLT, cpow_lit, List.length_append, List.length_map, ↓u3Neg_int, fdiv_pos, ↓q_tDict0, ix_1_0, ix_2_0, ix_2_1, ix_3_0, ix_3_1, ix_3_2, ix_4_0, ix_4_1, ix_4_2, ix_4_3, ix_5_0, ix_5_1, ix_5_2, ix_5_3, ix_5_4, decide_eq_false_iff_not, ↓lc_seq, ↓lc_r1, ↓lc_r2, ↓for_seq, ↓for_r1, ↓for_r2, ↓c3Tuple_it, ↓c3Min2_int, ↓c3Max2_int, ↓m3Pop_ref, ↓lc_zip, ↓for_zip, ↓lc_enum, ↓for_enum, ↓q_tAug3, r3AddI, ↓datD_pair, datD_pair, eqv_pair, ↓m3Index_ref, wipe3, ↓len_tup, ↓len_rol, ↓c3Len_tup, ↓c3Len_rol, ↓c3Len_ref, ↓c3Int_int, ↓c3Int_bl, ↓c3Abs_int, ↓c3All_ref, ↓c3Any_ref, ↓c3Isi_tl, ↓c3Isi_ty, ↓m3Append_ref, ↓s3Lst_ref, ↓r3Is_non, ↓r3IsNot_non, atI_0, atI_1, atI_2, atI_3, atI_4, tyD_tup, tyD_int, tyD_bl, mc_bool, mc_int, mc_str, mc_tuple, mc_list, mc_dict, ib_NoneType_bool, ib_NoneType_int, ib_NoneType_str, ib_NoneType_tuple, ib_NoneType_list, ib_NoneType_dict, ib_bool_bool, ib_bool_int, ib_bool_str, ib_bool_tuple, ib_bool_list, ib_bool_dict, ib_int_bool, ib_int_int, ib_int_str, ib_int_tuple, ib_int_list, ib_int_dict, ib_str_bool, ib_str_int, ib_str_str, ib_str_tuple, ib_str_list, ib_str_dict, ib_tuple_bool, ib_tuple_int, ib_tuple_str, ib_tuple_tuple, ib_tuple_list, ib_tuple_dict, ib_list_bool, ib_list_int, ib_list_str, ib_list_tuple, ib_list_list, ib_list_dict, ib_dict_bool, ib_dict_int, ib_dict_str, ib_dict_tuple, ib_dict_list, ib_dict_dict, tyD_str, tyD_non, tyD_rol, Bool.or_false, Bool.false_or, Bool.or_true, Bool.true_or, ↓truD_bl, ↓truD_int, List.getElem?_cons_zero, List.getElem?_cons_succ, List.set_cons_zero, List.set_cons_succ, Option.some.injEq, L3.D.bl.injEq, L3.D.int.injEq, L3.D.ref.injEq, L3.D.tup.injEq, L3.D.ty.injEq, L3.D.str.injEq, List.cons.injEq, and_true, true_and, exists_eq_left, exists_eq_left', exists_eq, exists_eq', exists_and_left, exists_and_right, exists_const, and_assoc, exists_eq_right_right, exists_eq_right, ↓ite_both, decide_eq_true_eq, reduceCtorEq, false_and, and_false, exists_false, not_false_eq_true, not_true_eq_false, Bool.false_eq_true, implies_true, forall_const, true_implies, false_implies, Bool.not_eq_true, Bool.not_true, Bool.not_false, decide_true, decide_false, Bool.not_eq_true', Bool.not_eq_false', Bool.not_eq_false, if_true, if_false, Bool.and_true, Bool.true_and, Bool.and_false, Bool.false_and, r3Eq, r3Ne]
  intro l1 h1 l2 h2 l3 h3
  have s1 := HStep.alloc (o := .lst []) hk h1
  have s2 := s1.new (o := .dK []) h2
  have s3 := s2.new (o := .lst [D.non, .bl true, .bl false, .int 0, .int (-1), .str (Str.ofString "0"), .str (Str.ofString ""), .tup [], .ref l1, .ref l2, .tup [.int 0], .tup [.tup [.int 0, .int 1]], .tup [.non], .int 10000000000000000000, b]) h3
  refine ⟨s3.ok, fun d M4 _ td s4 l5 h5 => ⟨[D.non, .bl true, .bl false, .int 0, .int (-1), .str (Str.ofString "0"), .str (Str.ofString ""), .tup [], .ref l1, .ref l2, .tup [.int 0], .tup [.tup [.int 0, .int 1]], .tup [.non], .int 10000000000000000000, b], ?_, by simp, fun l6 h6 => ?_⟩⟩
  · exact new_ne (s4.rest _ _ (s2.ok.ne h3) mupd_same) h5
  · have s5 := (s3.trans s4).new (o := .lst [d]) h5
    have s6 := s5.new (o := .lst ([D.non, .bl true, .bl false, .int 0, .int (-1), .str (Str.ofString "0"), .str (Str.ofString ""), .tup [], .ref l1, .ref l2, .tup [.int 0], .tup [.tup [.int 0, .int 1]], .tup [.non], .int 10000000000000000000, b] ++ [d])) h6
    refine ⟨s5.ok.ne h6, by simp, by simp, s6.ok, fun e M7 he s7 => ?_⟩
    have st := s6.trans s7
    refine st.ret (q _ _ ?_ st)
    have k1 : M7 (l1) = some (.lst []) := by
      refine s7.rest _ _ (hk.ne h1) (new_ne (new_ne (s4.rest _ _ (hk.ne h1) ?_) h5) h6)
      exact new_ne (new_ne mupd_same h2) h3
    have k2 : M7 (l2) = some (.dK []) := by
      refine s7.rest _ _ (s1.ok.ne h2) (new_ne (new_ne (s4.rest _ _ (s1.ok.ne h2) ?_) h5) h6)
      exact new_ne mupd_same h3
    have kd : tyA M7 d := td.step (((HStep.refl s4.ok).new h5).new h6 |>.trans s7)
    have kb : tyA M7 b := tb.step st
    simp only [List.cons_append, List.nil_append, List.mem_cons, List.not_mem_nil, or_false] at he
    rcases he with rfl | rfl | rfl | rfl | rfl | rfl | rfl | rfl | rfl | rfl | rfl | rfl | rfl | rfl | rfl | rfl
    all_goals first | exact kb | exact kd | exact tyA_int | exact tyA_bl | exact tyA_str | exact tyA_non | exact tyA_lst k1 | exact tyA_dK k2 | simp [tyA, tyAs]

def sp__law_bent (K : PySem.W.Frag) : Sp3 := spA3 fun a b c M Q X => ∃ h, a = .ref h ∧ ∃ p, b = .int p ∧ ∃ xs, c = polyD xs ∧ HandOk M h ∧ xs.length ≤ 100 ∧ ∀ d M', tyA M' d → HStep h M M' → Q d M'
abbrev N__law_bent : List Str := ["hand", "ground", "polynomial", "odd", "number", "at", "bent"]
def tr__law_bent (K : PySem.W.Frag) : TS3 := (tSeq3 (tAsg3 (tLst3 (tCons3 (tTup3 (tCons3 (tC3 (.int 0)) (tCons3 (tC3 (.int 1)) tNil3))) (tCons3 (tTup3 (tCons3 (tVar3 1) (tCons3 (tC3 (.int 1)) tNil3))) (tCons3 (tTup3 (tCons3 (tC3 (.int 2)) (tCons3 (tC3 (.int 4)) tNil3))) (tCons3 (tTup3 (tCons3 (tC3 (.int 1)) (tCons3 (tC3 (.int 0)) tNil3))) (tCons3 (tTup3 (tCons3 (tUn3 u3Neg (tC3 (.int 1))) (tCons3 (tC3 (.int 1)) tNil3))) (tCons3 (tTup3 (tCons3 (tC3 (.int 1)) (tCons3 (tC3 (.bl true)) tNil3))) (tCons3 (tLst3 (tCons3 (tC3 (.int 1)) (tCons3 (tC3 (.int 1)) tNil3))) (tCons3 (tC3 (.int 1)) (tCons3 (tTup3 (tCons3 (tC3 (.int 1)) (tCons3 (tC3 (.int 1)) (tCons3 (tC3 (.int 1)) tNil3)))) (tCons3 (tTup3 (tCons3 (tC3 (.bl true)) (tCons3 (tC3 (.int 1)) tNil3))) tNil3))))))))))) (gName3 3)) (tSeq3 (tAsg3 (tCall3 (sp__law_any K) (tCons3 (tVar3 0) (tCons3 (tVar3 3) tNil3))) (gName3 4)) (tSeq3 (tAsg3 (tCall3 (sp__law_draw K) (tCons3 (tVar3 0) (tCons3 (tOp3 r3Add (tCB3 c3Len (tCons3 (tVar3 2) tNil3)) (tC3 (.int 1))) tNil3))) (gName3 5)) (tSeq3 (tAsg3 (tLst3 (tCons3 (tOp3 r3Add (tVar3 2) (tTup3 (tCons3 (tTup3 (tCons3 (tC3 (.int 0)) (tCons3 (tC3 (.int 1)) tNil3))) tNil3))) (tCons3 (tOp3 r3Add (tOp3 r3Add (tSl3 r3Sl (tVar3 2) tNoPart3 (tPart3 (tVar3 5))) (tTup3 (tCons3 (tVar3 4) tNil3))) (tSl3 r3Sl (tVar3 2) (tPart3 (tVar3 5)) tNoPart3)) (tCons3 (tCB3 c3List (tCons3 (tVar3 2) tNil3)) (tCons3 (tSl3 r3Sl (tVar3 2) tNoPart3 (tPart3 (tVar3 5))) tNil3))))) (gName3 6)) (tRet3 (tCall3 (sp__law_any K) (tCons3 (tVar3 0) (tCons3 (tOp3 r3Add (tVar3 6) (tLst3 (tCons3 (tTup3 (tCons3 (tTup3 (tCons3 (tC3 (.int 0)) (tCons3 (tC3 (.int 1)) tNil3))) tNil3)) (tCons3 (tVar3 2) (tCons3 (tOp3 r3Add (tVar3 2) (tTup3 (tCons3 (tVar3 4) tNil3))) (tCons3 (tCall3 (sp__law_odd K) (tCons3 (tVar3 0) (tCons3 (tVar3 2) tNil3))) tNil3)))))) tNil3))))))))
theorem rd__law_bent (K : PySem.W.Frag) : ∀ ds M Q E, sp__law_bent K ds M Q E → tr__law_bent K (endF M Q E) (start3 N__law_bent ds) M := by
  rintro ds M Q E ⟨a, b, c, rfl, h, rfl, p, rfl, xs, rfl, hk, hx, q⟩
  unfold tr__law_bent polyD
  simp only [start3, List.map_cons, List.map_nil, List.length_cons, List.length_nil, List.cons_append, List.nil_append, List.replicate_succ, List.replicate_zero, Nat.reduceAdd, Nat.reduceSub, Nat.zero_add]
  simp -implicitDefEqProofs only [sp__law_any, spAny, sp__law_draw, spDraw, sp__law_odd, ↓ex_bl, ↓ex_int, ↓ex_str, ↓ex_ref, ↓ex_tup, ↓ex_some, ↓ex_eq, ↓ex_eq', ↓ex_1, ↓ex_2, ↓ex_3, ↓ex_4, ↓ex_5, ↓ite_tt, ↓ite_ff, ↓v3_0, ↓v3_s, ↓eq_int, ↓ne_int, ↓eq_bl, ↓ne_bl, ↓eq_pair, ↓ne_pair, eqv_bool, eqv_str, ↓pow_lit, ↓ix_t0, ↓ix_t1, ↓ix_tup, ↓ix_it, ↓q_tC3, ↓q_tOp3, ↓q_tUn3, ↓q_tTest3, ↓q_tChain3, ↓q_tTruth3, ↓q_tAnd3, ↓q_tOr3, ↓q_tNot3, ↓q_tAndV3, ↓q_tOrV3, ↓q_tNotV3, ↓q_tIf3, ↓q_tNil3, ↓q_tCons3, ↓q_tTup3, ↓q_tLst3, ↓q_tNoPart3, ↓q_tPart3, ↓q_tSl3, ↓q_tRev3, ↓r3Rev_tup, ↓r3IsNot_bl, ↓r3Is_bl, ↓r3Sl_tup, ↓c3List_tup, ↓c3List_ref, ↓q_tCB3, ↓q_tBM3, ↓q_tBM03, ↓q_tNext3, ↓q_tSeq3, ↓q_tDrop3, ↓q_tRet3, ↓q_tRetN3, ↓q_tIfS3, ↓q_gName3, ↓gnil_eq, ↓gcons_eq, ↓q_gTup3, ↓q_gSub3, ↓q_tAsg3, ↓q_tPar3, ↓q_tYes3, ↓q_tCall3, ↓q_tTryAs3, ↓q_goneE_nx, ↓q_goneE_rt, ↓q_c3IsE, ↓is_bl, ↓c3Str_int, ↓q_tRaise3, ↓q_spA0, ↓q_spA1, ↓q_spA2, ↓q_spA3, ↓q_spA4, ↓q_spA5, ↓q_endF_rt, ↓q_endF_nx, ↓q_endF_xx, r3Lt, r3Le, r3Gt, r3Ge, r3Mod, r3Div, r3Pow, r3Sub, ↓r3I_int, ↓r3I0_int, ↓r3Add_int, ↓r3Add_tup, ↓r3Add_ref, ↓r3Mul_int, ↓r3Mul_ref, datD_non, ↓datD_bl, ↓datD_int, eqv_int, ↓items_tup, ↓items_rol, ↓items_new, ↓len_new, ↓mupd_same, L3.MO.lst.injEq, List.length_cons, List.length_nil, Nat.reduceAdd, Nat.zero_add, sizeLine_eq, Nat.reduceLeDiff, Nat.reducePow, Int.reduceLT, Int.reduceLE, Int.reducePow, Int.reduceToNat, Int.reduceNeg, Int.reduceAdd, Int.cast_ofNat_Int, Int.reduceSub, Int.reduceMul, Nat.reduceMul, Nat.reduceLT, cpow_lit, List.length_append, List.length_map, ↓u3Neg_int, fdiv_pos, ↓q_tDict0, ix_1_0, ix_2_0, ix_2_1, ix_3_0, ix_3_1, ix_3_2, ix_4_0, ix_4_1, ix_4_2, ix_4_3, ix_5_0, ix_5_1, ix_5_2, ix_5_3, ix_5_4, decide_eq_false_iff_not, ↓lc_seq, ↓lc_r1, ↓lc_r2, ↓for_seq, ↓for_r1, ↓for_r2, ↓c3Tuple_it, ↓c3Min2_int, ↓c3Max2_int, ↓m3Pop_ref, ↓lc_zip, ↓for_zip, ↓lc_enum, ↓for_enum, ↓q_tAug3, r3AddI, ↓datD_pair, datD_pair, eqv_pair, ↓m3Index_ref, wipe3, ↓len_tup, ↓len_rol, ↓c3Len_tup, ↓c3Len_rol, ↓c3Len_ref, ↓c3Int_int, ↓c3Int_bl, ↓c3Abs_int, ↓c3All_ref, ↓c3Any_ref, ↓c3Isi_tl, ↓c3Isi_ty, ↓m3Append_ref, ↓s3Lst_ref, ↓r3Is_non, ↓r3IsNot_non, atI_0, atI_1, atI_2, atI_3, atI_4, tyD_tup, tyD_int, tyD_bl, mc_bool, mc_int, mc_str, mc_tuple, mc_list, mc_dict, ib_NoneType_bool, ib_NoneType_int, ib_NoneType_str, ib_NoneType_tuple, ib_NoneType_list, ib_NoneType_dict, ib_bool_bool, ib_bool_int, ib_bool_str, ib_bool_tuple, ib_bool_list, ib_bool_dict, ib_int_bool, ib_int_int, ib_int_str, ib_int_tuple, ib_int_list, ib_int_dict, ib_str_bool, ib_str_int, ib_str_str, ib_str_tuple, ib_str_list, ib_str_dict, ib_tuple_bool, ib_tuple_int, ib_tuple_str, ib_tuple_tuple, ib_tuple_list, ib_tuple_dict, ib_list_bool, ib_list_int, ib_list_str, ib_list_tuple, ib_list_list, ib_list_dict, ib_dict_bool, ib_dict_int, ib_dict_str, ib_dict_tuple, ib_dict_list, ib_dict_dict, tyD_str, tyD_non, tyD_rol, Bool.or_false, Bool.false_or, Bool.or_true, Bool.true_or, ↓truD_bl, ↓truD_int, List.getElem?_cons_zero, List.getElem?_cons_succ, List.set_cons_zero, List.set_cons_succ, Option.some.injEq, L3.D.bl.injEq, L3.D.int.injEq, L3.D.ref.injEq, L3.D.tup.injEq, L3.D.ty.injEq, L3.D.str.injEq, List.cons.injEq, and_true, true_and, exists_eq_left, exists_eq_left', exists_eq, exists_eq', exists_and_left, exists_and_right, exists_const, and_assoc, exists_eq_right_right, exists_eq_right, ↓ite_both, decide_eq_true_eq, reduceCtorEq, false_and, and_false, exists_false, not_false_eq_true, not_true_eq_false, Bool.false_eq_true, implies_true, forall_const, true_implies, false_implies, Bool.not_eq_true, Bool.not_true, Bool.not_false, decide_true, decide_false, Bool.not_eq_true', Bool.not_eq_false', Bool.not_eq_false, if_true, if_false, Bool.and_true, Bool.true_and, Bool.and_false, Bool.false_and, r3Eq, r3Ne]
  intro l1 h1 l2 h2
  generalize hO : [D.tup [.int 0, .int 1], D.tup [.int p, .int 1], D.tup [.int 2, .int 4], D.tup [.int 1, .int 0], D.tup [.int (-1), .int 1], D.tup [.int 1, .bl true], D.ref l1, .int 1, D.tup [.int 1, .int 1, .int 1], D.tup [.bl true, .int 1]] = O
  have e1 := HStep.alloc (o := .lst [.int 1, .int 1]) hk h1
  have e2 := e1.new (o := .lst O) h2
  refine ⟨e1.ok.ne h2, e2.ok, fun d M3 hd s3 => ⟨by omega, by omega, s3.ok, fun r M4 r0 r1 s4 => ?_⟩⟩
  obtain ⟨n, rfl⟩ : ∃ n : Nat, r = (n : Int) := ⟨r.toNat, by omega⟩
  have hn : n ≤ xs.length := by omega
  rw [cutD_take, cutD_drop (by rw [List.length_map]; exact hn)]
  have lt : ((xs.map nuD).take n).length ≤ 100 := by rw [List.length_take, List.length_map]; omega
  have ld : ((xs.map nuD).drop n).length ≤ 100 := by rw [List.length_drop, List.length_map]; omega
  refine ⟨by omega, by omega, by omega, fun l5 h5 l6 h6 => ?_⟩
  have e4 := e2.trans (s3.trans s4)
  have s5 := (HStep.alloc (o := .lst (xs.map nuD)) s4.ok h5)
  generalize hL : [D.tup (xs.map nuD ++ [.tup [.int 0, .int 1]]), D.tup ((xs.map nuD).take n ++ [d] ++ (xs.map nuD).drop n), D.ref l5, D.tup ((xs.map nuD).take n)] = L
  have hLl : L.length = 4 := by rw [← hL]; rfl
  have s6 := s5.new (o := .lst L) h6
  refine ⟨by omega, s6.ok, tyA_poly (by omega), fun d7 M7 t7 s7 l8 h8 => ?_⟩
  have k6 : M7 l6 = some (.lst L) := s7.rest _ _ (s5.ok.ne h6) mupd_same
  have s8 := s7.new (o := .lst [D.tup [.tup [.int 0, .int 1]], D.tup (xs.map nuD), D.tup (xs.map nuD ++ [d]), d7]) h8
  refine ⟨L, new_ne k6 h8, by omega, fun l9 h9 => ?_⟩
  have s9 := s8.new (o := .lst (L ++ [D.tup [.tup [.int 0, .int 1]], D.tup (xs.map nuD), D.tup (xs.map nuD ++ [d]), d7])) h9
  refine ⟨s8.ok.ne h9, by omega, by omega, s9.ok, fun d10 M10 hd10 s10 => ?_⟩
  have all := e4.trans (s6.trans (s9.trans s10))
  refine all.ret (q _ _ ?_ all)
  have k1 : M3 l1 = some (.lst [.int 1, .int 1]) := s3.rest _ _ (hk.ne h1) (new_ne mupd_same h2)
  have td3 : tyA M3 d := by
    rw [← hO] at hd
    simp only [List.mem_cons, List.not_mem_nil, or_false] at hd
    rcases hd with rfl | rfl | rfl | rfl | rfl | rfl | rfl | rfl | rfl | rfl
    all_goals first | exact tyA_int | exact tyA_lst k1 | simp [tyA, tyAs]
  have st3 := s4.trans (s6.trans (s9.trans s10))
  have td : tyA M10 d := td3.step st3
  have t7' : tyA M10 d7 := t7.step (((HStep.refl s7.ok).new h8).new h9 |>.trans s10)
  have k5 : M10 l5 = some (.lst (xs.map nuD)) := by
    refine s10.rest _ _ (s4.ok.ne h5) (new_ne (new_ne (s7.rest _ _ (s4.ok.ne h5) (new_ne mupd_same h6)) h8) h9)
  have tn : ∀ x ∈ xs.map nuD, tyA M10 x := fun x hx' => by
    obtain ⟨y, _, rfl⟩ := List.mem_map.mp hx'
    exact tyA_nu
  have tz : tyA M10 (.tup [.int 0, .int 1]) := by simp [tyA, tyAs]
  rw [← hL] at hd10
  simp only [List.cons_append, List.nil_append, List.mem_cons, List.not_mem_nil, or_false] at hd10
  rcases hd10 with rfl | rfl | rfl | rfl | rfl | rfl | rfl | rfl
  · refine tyA_tup.mpr ⟨by simp; omega, fun x hx' => ?_⟩
    rcases List.mem_append.mp hx' with z | z
    · exact tn x z
    · rw [List.mem_singleton] at z
      rw [z]; exact tz
  · refine tyA_tup.mpr ⟨by simp only [List.length_append, List.length_cons, List.length_nil]; omega, fun x hx' => ?_⟩
    rcases List.mem_append.mp hx' with z | z
    · rcases List.mem_append.mp z with z | z
      · exact tn x (List.mem_of_mem_take z)
      · rw [List.mem_singleton] at z
        rw [z]; exact td
    · exact tn x (List.mem_of_mem_drop z)
  · exact tyA_lst k5
  · exact tyA_tup.mpr ⟨by omega, fun x hx' => tn x (List.mem_of_mem_take hx')⟩
  · simp [tyA, tyAs]
  · exact tyA_poly (by omega)
  · refine tyA_tup.mpr ⟨by simp; omega, fun x hx' => ?_⟩
    rcases List.mem_append.mp hx' with z | z
    · exact tn x z
    · rw [List.mem_singleton] at z
      rw [z]; exact td
  · exact t7'

def sp_is_polynomial (K : PySem.W.Frag) : Sp3 := spA2 fun g a M Q X => HasTy M g ∧ tyA M a ∧ (∀ p, g = .int p → Gd p → Q (.bl (isPolyB p a)) M) ∧ (isGr g = false → X (.ref (He.ga K "NoGround")) [] M)
abbrev N_is_polynomial : List Str := ["ground", "thing"]
def tr_is_polynomial (K : PySem.W.Frag) : TS3 := (tSeq3 (tDrop3 (tCall3 (sp_check_ground K) (tCons3 (tVar3 0) tNil3))) (tRet3 (tCall3 (sp_is_poly K) (tCons3 (tVar3 0) (tCons3 (tVar3 1) tNil3)))))
theorem rd_is_polynomial (K : PySem.W.Frag) : ∀ ds M Q E, sp_is_polynomial K ds M Q E → tr_is_polynomial K (endF M Q E) (start3 N_is_polynomial ds) M := by
  rintro ds M Q E ⟨g, a, rfl, hg, ha, q1, q2⟩
  unfold tr_is_polynomial
  simp only [start3, List.map_cons, List.map_nil, List.length_cons, List.length_nil, List.cons_append, List.nil_append, List.replicate_succ, List.replicate_zero, Nat.reduceAdd, Nat.reduceSub, Nat.zero_add]
  simp -implicitDefEqProofs only [sp_check_ground, sp_is_poly, ↓ex_bl, ↓ex_int, ↓ex_str, ↓ex_ref, ↓ex_tup, ↓ex_some, ↓ex_eq, ↓ex_eq', ↓ex_1, ↓ex_2, ↓ex_3, ↓ex_4, ↓ex_5, ↓ite_tt, ↓ite_ff, ↓v3_0, ↓v3_s, ↓eq_int, ↓ne_int, ↓eq_bl, ↓ne_bl, ↓eq_pair, ↓ne_pair, eqv_bool, eqv_str, ↓pow_lit, ↓ix_t0, ↓ix_t1, ↓ix_tup, ↓ix_it, ↓q_tC3, ↓q_tOp3, ↓q_tUn3, ↓q_tTest3, ↓q_tChain3, ↓q_tTruth3, ↓q_tAnd3, ↓q_tOr3, ↓q_tNot3, ↓q_tAndV3, ↓q_tOrV3, ↓q_tNotV3, ↓q_tIf3, ↓q_tNil3, ↓q_tCons3, ↓q_tTup3, ↓q_tLst3, ↓q_tNoPart3, ↓q_tPart3, ↓q_tSl3, ↓q_tRev3, ↓r3Rev_tup, ↓r3IsNot_bl, ↓r3Is_bl, ↓r3Sl_tup, ↓c3List_tup, ↓c3List_ref, ↓q_tCB3, ↓q_tBM3, ↓q_tBM03, ↓q_tNext3, ↓q_tSeq3, ↓q_tDrop3, ↓q_tRet3, ↓q_tRetN3, ↓q_tIfS3, ↓q_gName3, ↓gnil_eq, ↓gcons_eq, ↓q_gTup3, ↓q_gSub3, ↓q_tAsg3, ↓q_tPar3, ↓q_tYes3, ↓q_tCall3, ↓q_tTryAs3, ↓q_goneE_nx, ↓q_goneE_rt, ↓q_c3IsE, ↓is_bl, ↓c3Str_int, ↓q_tRaise3, ↓q_spA0, ↓q_spA1, ↓q_spA2, ↓q_spA3, ↓q_spA4, ↓q_spA5, ↓q_endF_rt, ↓q_endF_nx, ↓q_endF_xx, r3Lt, r3Le, r3Gt, r3Ge, r3Mod, r3Div, r3Pow, r3Sub, ↓r3I_int, ↓r3I0_int, ↓r3Add_int, ↓r3Add_tup, ↓r3Add_ref, ↓r3Mul_int, ↓r3Mul_ref, datD_non, ↓datD_bl, ↓datD_int, eqv_int, ↓items_tup, ↓items_rol, ↓items_new, ↓len_new, ↓mupd_same, L3.MO.lst.injEq, List.length_cons, List.length_nil, Nat.reduceAdd, Nat.zero_add, sizeLine_eq, Nat.reduceLeDiff, Nat.reducePow, Int.reduceLT, Int.reduceLE, Int.reducePow, Int.reduceToNat, Int.reduceNeg, Int.reduceAdd, Int.cast_ofNat_Int, Int.reduceSub, Int.reduceMul, Nat.reduceMul, Nat.reduceLT, cpow_lit, List.length_append, List.length_map, ↓u3Neg_int, fdiv_pos, ↓q_tDict0, ix_1_0, ix_2_0, ix_2_1, ix_3_0, ix_3_1, ix_3_2, ix_4_0, ix_4_1, ix_4_2, ix_4_3, ix_5_0, ix_5_1, ix_5_2, ix_5_3, ix_5_4, decide_eq_false_iff_not, ↓lc_seq, ↓lc_r1, ↓lc_r2, ↓for_seq, ↓for_r1, ↓for_r2, ↓c3Tuple_it, ↓c3Min2_int, ↓c3Max2_int, ↓m3Pop_ref, ↓lc_zip, ↓for_zip, ↓lc_enum, ↓for_enum, ↓q_tAug3, r3AddI, ↓datD_pair, datD_pair, eqv_pair, ↓m3Index_ref, wipe3, ↓len_tup, ↓len_rol, ↓c3Len_tup, ↓c3Len_rol, ↓c3Len_ref, ↓c3Int_int, ↓c3Int_bl, ↓c3Abs_int, ↓c3All_ref, ↓c3Any_ref, ↓c3Isi_tl, ↓c3Isi_ty, ↓m3Append_ref, ↓s3Lst_ref, ↓r3Is_non, ↓r3IsNot_non, atI_0, atI_1, atI_2, atI_3, atI_4, tyD_tup, tyD_int, tyD_bl, mc_bool, mc_int, mc_str, mc_tuple, mc_list, mc_dict, ib_NoneType_bool, ib_NoneType_int, ib_NoneType_str, ib_NoneType_tuple, ib_NoneType_list, ib_NoneType_dict, ib_bool_bool, ib_bool_int, ib_bool_str, ib_bool_tuple, ib_bool_list, ib_bool_dict, ib_int_bool, ib_int_int, ib_int_str, ib_int_tuple, ib_int_list, ib_int_dict, ib_str_bool, ib_str_int, ib_str_str, ib_str_tuple, ib_str_list, ib_str_dict, ib_tuple_bool, ib_tuple_int, ib_tuple_str, ib_tuple_tuple, ib_tuple_list, ib_tuple_dict, ib_list_bool, ib_list_int, ib_list_str, ib_list_tuple, ib_list_list, ib_list_dict, ib_dict_bool, ib_dict_int, ib_dict_str, ib_dict_tuple, ib_dict_list, ib_dict_dict, tyD_str, tyD_non, tyD_rol, Bool.or_false, Bool.false_or, Bool.or_true, Bool.true_or, ↓truD_bl, ↓truD_int, List.getElem?_cons_zero, List.getElem?_cons_succ, List.set_cons_zero, List.set_cons_succ, Option.some.injEq, L3.D.bl.injEq, L3.D.int.injEq, L3.D.ref.injEq, L3.D.tup.injEq, L3.D.ty.injEq, L3.D.str.injEq, List.cons.injEq, and_true, true_and, exists_eq_left, exists_eq_left', exists_eq, exists_eq', exists_and_left, exists_and_right, exists_const, and_assoc, exists_eq_right_right, exists_eq_right, ↓ite_both, decide_eq_true_eq, reduceCtorEq, false_and, and_false, exists_false, not_false_eq_true, not_true_eq_false, Bool.false_eq_true, implies_true, forall_const, true_implies, false_implies, Bool.not_eq_true, Bool.not_true, Bool.not_false, decide_true, decide_false, Bool.not_eq_true', Bool.not_eq_false', Bool.not_eq_false, if_true, if_false, Bool.and_true, Bool.true_and, Bool.and_false, Bool.false_and, r3Eq, r3Ne]
  refine ⟨hg, fun h => ?_, fun h => ret_x .refl (q2 h)⟩
  obtain ⟨p, rfl⟩ := isGr_int h
  exact ⟨p, rfl, gd_of h, ha, ret_same (q1 p rfl (gd_of h))⟩

def sp__law_is_num (K : PySem.W.Frag) : Sp3 := spA2 fun g a M Q X => ∃ p : Int, g = .int p ∧ Ty1 M a ∧ Q (.bl (isNumB p a)) M
abbrev N__law_is_num : List Str := ["ground", "thing", "one"]
def tr__law_is_num (K : PySem.W.Frag) : TS3 := (tSeq3 (tIfS3 (tOr3 (tNot3 (tTruth3 (tCB3 c3Isi (tCons3 (tVar3 1) (tCons3 (tC3 (.ty "tuple")) tNil3))))) (tTest3 (tOp3 r3Ne (tCB3 c3Len (tCons3 (tVar3 1) tNil3)) (tC3 (.int 2))))) (tRet3 (tC3 (.bl false))) tNext3) (tSeq3 (tIfS3 (tNot3 (tTruth3 (tCB3 c3All (tCons3 (tLc3 (iSeq3 (tVar3 1)) (gName3 2) tYes3 (tAndV3 (tCB3 c3Isi (tCons3 (tVar3 2) (tCons3 (tC3 (.ty "int")) tNil3))) (tNotV3 (tCB3 c3Isi (tCons3 (tVar3 2) (tCons3 (tC3 (.ty "bool")) tNil3))))) [2]) tNil3)))) (tRet3 (tC3 (.bl false))) tNext3) (tSeq3 (tIfS3 (tTest3 (tOp3 r3Gt (tVar3 0) (tC3 (.int 0)))) (tRet3 (tAndV3 (tOp3 r3Eq (tOp3 r3Ix (tVar3 1) (tC3 (.int 1))) (tC3 (.int 1))) (tChain3 r3Le r3Lt (tC3 (.int 0)) (tOp3 r3Ix (tVar3 1) (tC3 (.int 0))) (tVar3 0)))) tNext3) (tRet3 (tAndV3 (tOp3 r3Gt (tOp3 r3Ix (tVar3 1) (tC3 (.int 1))) (tC3 (.int 0))) (tOp3 r3Eq (tCall3 (sp__law_divisor K) (tCons3 (tCB3 c3Abs (tCons3 (tOp3 r3Ix (tVar3 1) (tC3 (.int 0))) tNil3)) (tCons3 (tOp3 r3Ix (tVar3 1) (tC3 (.int 1))) tNil3))) (tC3 (.int 1))))))))
theorem rd__law_is_num (K : PySem.W.Frag) : ∀ ds M Q E, sp__law_is_num K ds M Q E → tr__law_is_num K (endF M Q E) (start3 N__law_is_num ds) M := by
  rintro ds M Q E ⟨g, a, rfl, p, rfl, ⟨⟨t, ht⟩, hb⟩, q⟩
  unfold tr__law_is_num
  simp only [start3, List.map_cons, List.map_nil, List.length_cons, List.length_nil, List.cons_append, List.nil_append, List.replicate_succ, List.replicate_zero, Nat.reduceAdd, Nat.reduceSub, Nat.zero_add]
  simp -implicitDefEqProofs only [sp__law_divisor, ↓ex_bl, ↓ex_int, ↓ex_str, ↓ex_ref, ↓ex_tup, ↓ex_some, ↓ex_eq, ↓ex_eq', ↓ex_1, ↓ex_2, ↓ex_3, ↓ex_4, ↓ex_5, ↓ite_tt, ↓ite_ff, ↓v3_0, ↓v3_s, ↓eq_int, ↓ne_int, ↓eq_bl, ↓ne_bl, ↓eq_pair, ↓ne_pair, eqv_bool, eqv_str, ↓pow_lit, ↓ix_t0, ↓ix_t1, ↓ix_tup, ↓ix_it, ↓q_tC3, ↓q_tOp3, ↓q_tUn3, ↓q_tTest3, ↓q_tChain3, ↓q_tTruth3, ↓q_tAnd3, ↓q_tOr3, ↓q_tNot3, ↓q_tAndV3, ↓q_tOrV3, ↓q_tNotV3, ↓q_tIf3, ↓q_tNil3, ↓q_tCons3, ↓q_tTup3, ↓q_tLst3, ↓q_tNoPart3, ↓q_tPart3, ↓q_tSl3, ↓q_tRev3, ↓r3Rev_tup, ↓r3IsNot_bl, ↓r3Is_bl, ↓r3Sl_tup, ↓c3List_tup, ↓c3List_ref, ↓q_tCB3, ↓q_tBM3, ↓q_tBM03, ↓q_tNext3, ↓q_tSeq3, ↓q_tDrop3, ↓q_tRet3, ↓q_tRetN3, ↓q_tIfS3, ↓q_gName3, ↓gnil_eq, ↓gcons_eq, ↓q_gTup3, ↓q_gSub3, ↓q_tAsg3, ↓q_tPar3, ↓q_tYes3, ↓q_tCall3, ↓q_tTryAs3, ↓q_goneE_nx, ↓q_goneE_rt, ↓q_c3IsE, ↓is_bl, ↓c3Str_int, ↓q_tRaise3, ↓q_spA0, ↓q_spA1, ↓q_spA2, ↓q_spA3, ↓q_spA4, ↓q_spA5, ↓q_endF_rt, ↓q_endF_nx, ↓q_endF_xx, r3Lt, r3Le, r3Gt, r3Ge, r3Mod, r3Div, r3Pow, r3Sub, ↓r3I_int, ↓r3I0_int, ↓r3Add_int, ↓r3Add_tup, ↓r3Add_ref, ↓r3Mul_int, ↓r3Mul_ref, datD_non, ↓datD_bl, ↓datD_int, eqv_int, ↓items_tup, ↓items_rol, ↓items_new, ↓len_new, ↓mupd_same, L3.MO.lst.injEq, List.length_cons, List.length_nil, Nat.reduceAdd, Nat.zero_add, sizeLine_eq, Nat.reduceLeDiff, Nat.reducePow, Int.reduceLT, Int.reduceLE, Int.reducePow, Int.reduceToNat, Int.reduceNeg, Int.reduceAdd, Int.cast_ofNat_Int, Int.reduceSub, Int.reduceMul, Nat.reduceMul, Nat.reduceLT, cpow_lit, List.length_append, List.length_map, ↓u3Neg_int, fdiv_pos, ↓q_tDict0, ix_1_0, ix_2_0, ix_2_1, ix_3_0, ix_3_1, ix_3_2, ix_4_0, ix_4_1, ix_4_2, ix_4_3, ix_5_0, ix_5_1, ix_5_2, ix_5_3, ix_5_4, decide_eq_false_iff_not, ↓lc_seq, ↓lc_r1, ↓lc_r2, ↓for_seq, ↓for_r1, ↓for_r2, ↓c3Tuple_it, ↓c3Min2_int, ↓c3Max2_int, ↓m3Pop_ref, ↓lc_zip, ↓for_zip, ↓lc_enum, ↓for_enum, ↓q_tAug3, r3AddI, ↓datD_pair, datD_pair, eqv_pair, ↓m3Index_ref, wipe3, ↓len_tup, ↓len_rol, ↓c3Len_tup, ↓c3Len_rol, ↓c3Len_ref, ↓c3Int_int, ↓c3Int_bl, ↓c3Abs_int, ↓c3All_ref, ↓c3Any_ref, ↓c3Isi_tl, ↓c3Isi_ty, ↓m3Append_ref, ↓s3Lst_ref, ↓r3Is_non, ↓r3IsNot_non, atI_0, atI_1, atI_2, atI_3, atI_4, tyD_tup, tyD_int, tyD_bl, mc_bool, mc_int, mc_str, mc_tuple, mc_list, mc_dict, ib_NoneType_bool, ib_NoneType_int, ib_NoneType_str, ib_NoneType_tuple, ib_NoneType_list, ib_NoneType_dict, ib_bool_bool, ib_bool_int, ib_bool_str, ib_bool_tuple, ib_bool_list, ib_bool_dict, ib_int_bool, ib_int_int, ib_int_str, ib_int_tuple, ib_int_list, ib_int_dict, ib_str_bool, ib_str_int, ib_str_str, ib_str_tuple, ib_str_list, ib_str_dict, ib_tuple_bool, ib_tuple_int, ib_tuple_str, ib_tuple_tuple, ib_tuple_list, ib_tuple_dict, ib_list_bool, ib_list_int, ib_list_str, ib_list_tuple, ib_list_list, ib_list_dict, ib_dict_bool, ib_dict_int, ib_dict_str, ib_dict_tuple, ib_dict_list, ib_dict_dict, tyD_str, tyD_non, tyD_rol, Bool.or_false, Bool.false_or, Bool.or_true, Bool.true_or, ↓truD_bl, ↓truD_int, List.getElem?_cons_zero, List.getElem?_cons_succ, List.set_cons_zero, List.set_cons_succ, Option.some.injEq, L3.D.bl.injEq, L3.D.int.injEq, L3.D.ref.injEq, L3.D.tup.injEq, L3.D.ty.injEq, L3.D.str.injEq, List.cons.injEq, and_true, true_and, exists_eq_left, exists_eq_left', exists_eq, exists_eq', exists_and_left, exists_and_right, exists_const, and_assoc, exists_eq_right_right, exists_eq_right, ↓ite_both, decide_eq_true_eq, reduceCtorEq, false_and, and_false, exists_false, not_false_eq_true, not_true_eq_false, Bool.false_eq_true, implies_true, forall_const, true_implies, false_implies, Bool.not_eq_true, Bool.not_true, Bool.not_false, decide_true, decide_false, Bool.not_eq_true', Bool.not_eq_false', Bool.not_eq_false, if_true, if_false, Bool.and_true, Bool.true_and, Bool.and_false, Bool.false_and, r3Eq, r3Ne]
  refine ⟨t, ht, ?_⟩
  rw [isi_tup ht]
  cases a with
  | tup ds =>
    simp -implicitDefEqProofs only [isTupD, ↓ex_bl, ↓ex_int, ↓ex_str, ↓ex_ref, ↓ex_tup, ↓ex_some, ↓ex_eq, ↓ex_eq', ↓ex_1, ↓ex_2, ↓ex_3, ↓ex_4, ↓ex_5, ↓ite_tt, ↓ite_ff, ↓v3_0, ↓v3_s, ↓eq_int, ↓ne_int, ↓eq_bl, ↓ne_bl, ↓eq_pair, ↓ne_pair, eqv_bool, eqv_str, ↓pow_lit, ↓ix_t0, ↓ix_t1, ↓ix_tup, ↓ix_it, ↓q_tC3, ↓q_tOp3, ↓q_tUn3, ↓q_tTest3, ↓q_tChain3, ↓q_tTruth3, ↓q_tAnd3, ↓q_tOr3, ↓q_tNot3, ↓q_tAndV3, ↓q_tOrV3, ↓q_tNotV3, ↓q_tIf3, ↓q_tNil3, ↓q_tCons3, ↓q_tTup3, ↓q_tLst3, ↓q_tNoPart3, ↓q_tPart3, ↓q_tSl3, ↓q_tRev3, ↓r3Rev_tup, ↓r3IsNot_bl, ↓r3Is_bl, ↓r3Sl_tup, ↓c3List_tup, ↓c3List_ref, ↓q_tCB3, ↓q_tBM3, ↓q_tBM03, ↓q_tNext3, ↓q_tSeq3, ↓q_tDrop3, ↓q_tRet3, ↓q_tRetN3, ↓q_tIfS3, ↓q_gName3, ↓gnil_eq, ↓gcons_eq, ↓q_gTup3, ↓q_gSub3, ↓q_tAsg3, ↓q_tPar3, ↓q_tYes3, ↓q_tCall3, ↓q_tTryAs3, ↓q_goneE_nx, ↓q_goneE_rt, ↓q_c3IsE, ↓is_bl, ↓c3Str_int, ↓q_tRaise3, ↓q_spA0, ↓q_spA1, ↓q_spA2, ↓q_spA3, ↓q_spA4, ↓q_spA5, ↓q_endF_rt, ↓q_endF_nx, ↓q_endF_xx, r3Lt, r3Le, r3Gt, r3Ge, r3Mod, r3Div, r3Pow, r3Sub, ↓r3I_int, ↓r3I0_int, ↓r3Add_int, ↓r3Add_tup, ↓r3Add_ref, ↓r3Mul_int, ↓r3Mul_ref, datD_non, ↓datD_bl, ↓datD_int, eqv_int, ↓items_tup, ↓items_rol, ↓items_new, ↓len_new, ↓mupd_same, L3.MO.lst.injEq, List.length_cons, List.length_nil, Nat.reduceAdd, Nat.zero_add, sizeLine_eq, Nat.reduceLeDiff, Nat.reducePow, Int.reduceLT, Int.reduceLE, Int.reducePow, Int.reduceToNat, Int.reduceNeg, Int.reduceAdd, Int.cast_ofNat_Int, Int.reduceSub, Int.reduceMul, Nat.reduceMul, Nat.reduceLT, cpow_lit, List.length_append, List.length_map, ↓u3Neg_int, fdiv_pos, ↓q_tDict0, ix_1_0, ix_2_0, ix_2_1, ix_3_0, ix_3_1, ix_3_2, ix_4_0, ix_4_1, ix_4_2, ix_4_3, ix_5_0, ix_5_1, ix_5_2, ix_5_3, ix_5_4, decide_eq_false_iff_not, ↓lc_seq, ↓lc_r1, ↓lc_r2, ↓for_seq, ↓for_r1, ↓for_r2, ↓c3Tuple_it, ↓c3Min2_int, ↓c3Max2_int, ↓m3Pop_ref, ↓lc_zip, ↓for_zip, ↓lc_enum, ↓for_enum, ↓q_tAug3, r3AddI, ↓datD_pair, datD_pair, eqv_pair, ↓m3Index_ref, wipe3, ↓len_tup, ↓len_rol, ↓c3Len_tup, ↓c3Len_rol, ↓c3Len_ref, ↓c3Int_int, ↓c3Int_bl, ↓c3Abs_int, ↓c3All_ref, ↓c3Any_ref, ↓c3Isi_tl, ↓c3Isi_ty, ↓m3Append_ref, ↓s3Lst_ref, ↓r3Is_non, ↓r3IsNot_non, atI_0, atI_1, atI_2, atI_3, atI_4, tyD_tup, tyD_int, tyD_bl, mc_bool, mc_int, mc_str, mc_tuple, mc_list, mc_dict, ib_NoneType_bool, ib_NoneType_int, ib_NoneType_str, ib_NoneType_tuple, ib_NoneType_list, ib_NoneType_dict, ib_bool_bool, ib_bool_int, ib_bool_str, ib_bool_tuple, ib_bool_list, ib_bool_dict, ib_int_bool, ib_int_int, ib_int_str, ib_int_tuple, ib_int_list, ib_int_dict, ib_str_bool, ib_str_int, ib_str_str, ib_str_tuple, ib_str_list, ib_str_dict, ib_tuple_bool, ib_tuple_int, ib_tuple_str, ib_tuple_tuple, ib_tuple_list, ib_tuple_dict, ib_list_bool, ib_list_int, ib_list_str, ib_list_tuple, ib_list_list, ib_list_dict, ib_dict_bool, ib_dict_int, ib_dict_str, ib_dict_tuple, ib_dict_list, ib_dict_dict, tyD_str, tyD_non, tyD_rol, Bool.or_false, Bool.false_or, Bool.or_true, Bool.true_or, ↓truD_bl, ↓truD_int, List.getElem?_cons_zero, List.getElem?_cons_succ, List.set_cons_zero, List.set_cons_succ, Option.some.injEq, L3.D.bl.injEq, L3.D.int.injEq, L3.D.ref.injEq, L3.D.tup.injEq, L3.D.ty.injEq, L3.D.str.injEq, List.cons.injEq, and_true, true_and, exists_eq_left, exists_eq_left', exists_eq, exists_eq', exists_and_left, exists_and_right, exists_const, and_assoc, exists_eq_right_right, exists_eq_right, ↓ite_both, decide_eq_true_eq, reduceCtorEq, false_and, and_false, exists_false, not_false_eq_true, not_true_eq_false, Bool.false_eq_true, implies_true, forall_const, true_implies, false_implies, Bool.not_eq_true, Bool.not_true, Bool.not_false, decide_true, decide_false, Bool.not_eq_true', Bool.not_eq_false', Bool.not_eq_false, if_true, if_false, Bool.and_true, Bool.true_and, Bool.and_false, Bool.false_and, r3Eq, r3Ne]
    refine ⟨fun h => ret_same ?_, fun h => ?_⟩
    · have h' : ¬ ((ds.length : Nat) : Int) = 2 := by simpa using h
      rw [isNumB_no (d := .tup ds) (show decide (ds.length = 2) = false from decide_eq_false (by omega))] at q
      exact q
    · obtain ⟨x, y, rfl⟩ : ∃ x y, ds = [x, y] := by
        have h' : ((ds.length : Nat) : Int) = 2 := by simpa using h
        have hl : ds.length = 2 := by omega
        match ds, hl with
        | [x, y], _ => exact ⟨x, y, rfl⟩
      refine lcb_map (fun d => .bl (isInt d)) trivial (show 2 ≤ sizeLine by decide) ?_ ?_
      · intro i d R hd hR
        obtain ⟨t2, ht2⟩ := hb _ rfl d (List.mem_of_getElem? hd)
        have e := isi_int ht2
        simp -implicitDefEqProofs only [ht2, ↓ex_bl, ↓ex_int, ↓ex_str, ↓ex_ref, ↓ex_tup, ↓ex_some, ↓ex_eq, ↓ex_eq', ↓ex_1, ↓ex_2, ↓ex_3, ↓ex_4, ↓ex_5, ↓ite_tt, ↓ite_ff, ↓v3_0, ↓v3_s, ↓eq_int, ↓ne_int, ↓eq_bl, ↓ne_bl, ↓eq_pair, ↓ne_pair, eqv_bool, eqv_str, ↓pow_lit, ↓ix_t0, ↓ix_t1, ↓ix_tup, ↓ix_it, ↓q_tC3, ↓q_tOp3, ↓q_tUn3, ↓q_tTest3, ↓q_tChain3, ↓q_tTruth3, ↓q_tAnd3, ↓q_tOr3, ↓q_tNot3, ↓q_tAndV3, ↓q_tOrV3, ↓q_tNotV3, ↓q_tIf3, ↓q_tNil3, ↓q_tCons3, ↓q_tTup3, ↓q_tLst3, ↓q_tNoPart3, ↓q_tPart3, ↓q_tSl3, ↓q_tRev3, ↓r3Rev_tup, ↓r3IsNot_bl, ↓r3Is_bl, ↓r3Sl_tup, ↓c3List_tup, ↓c3List_ref, ↓q_tCB3, ↓q_tBM3, ↓q_tBM03, ↓q_tNext3, ↓q_tSeq3, ↓q_tDrop3, ↓q_tRet3, ↓q_tRetN3, ↓q_tIfS3, ↓q_gName3, ↓gnil_eq, ↓gcons_eq, ↓q_gTup3, ↓q_gSub3, ↓q_tAsg3, ↓q_tPar3, ↓q_tYes3, ↓q_tCall3, ↓q_tTryAs3, ↓q_goneE_nx, ↓q_goneE_rt, ↓q_c3IsE, ↓is_bl, ↓c3Str_int, ↓q_tRaise3, ↓q_spA0, ↓q_spA1, ↓q_spA2, ↓q_spA3, ↓q_spA4, ↓q_spA5, ↓q_endF_rt, ↓q_endF_nx, ↓q_endF_xx, r3Lt, r3Le, r3Gt, r3Ge, r3Mod, r3Div, r3Pow, r3Sub, ↓r3I_int, ↓r3I0_int, ↓r3Add_int, ↓r3Add_tup, ↓r3Add_ref, ↓r3Mul_int, ↓r3Mul_ref, datD_non, ↓datD_bl, ↓datD_int, eqv_int, ↓items_tup, ↓items_rol, ↓items_new, ↓len_new, ↓mupd_same, L3.MO.lst.injEq, List.length_cons, List.length_nil, Nat.reduceAdd, Nat.zero_add, sizeLine_eq, Nat.reduceLeDiff, Nat.reducePow, Int.reduceLT, Int.reduceLE, Int.reducePow, Int.reduceToNat, Int.reduceNeg, Int.reduceAdd, Int.cast_ofNat_Int, Int.reduceSub, Int.reduceMul, Nat.reduceMul, Nat.reduceLT, cpow_lit, List.length_append, List.length_map, ↓u3Neg_int, fdiv_pos, ↓q_tDict0, ix_1_0, ix_2_0, ix_2_1, ix_3_0, ix_3_1, ix_3_2, ix_4_0, ix_4_1, ix_4_2, ix_4_3, ix_5_0, ix_5_1, ix_5_2, ix_5_3, ix_5_4, decide_eq_false_iff_not, ↓lc_seq, ↓lc_r1, ↓lc_r2, ↓for_seq, ↓for_r1, ↓for_r2, ↓c3Tuple_it, ↓c3Min2_int, ↓c3Max2_int, ↓m3Pop_ref, ↓lc_zip, ↓for_zip, ↓lc_enum, ↓for_enum, ↓q_tAug3, r3AddI, ↓datD_pair, datD_pair, eqv_pair, ↓m3Index_ref, wipe3, ↓len_tup, ↓len_rol, ↓c3Len_tup, ↓c3Len_rol, ↓c3Len_ref, ↓c3Int_int, ↓c3Int_bl, ↓c3Abs_int, ↓c3All_ref, ↓c3Any_ref, ↓c3Isi_tl, ↓c3Isi_ty, ↓m3Append_ref, ↓s3Lst_ref, ↓r3Is_non, ↓r3IsNot_non, atI_0, atI_1, atI_2, atI_3, atI_4, tyD_tup, tyD_int, tyD_bl, mc_bool, mc_int, mc_str, mc_tuple, mc_list, mc_dict, ib_NoneType_bool, ib_NoneType_int, ib_NoneType_str, ib_NoneType_tuple, ib_NoneType_list, ib_NoneType_dict, ib_bool_bool, ib_bool_int, ib_bool_str, ib_bool_tuple, ib_bool_list, ib_bool_dict, ib_int_bool, ib_int_int, ib_int_str, ib_int_tuple, ib_int_list, ib_int_dict, ib_str_bool, ib_str_int, ib_str_str, ib_str_tuple, ib_str_list, ib_str_dict, ib_tuple_bool, ib_tuple_int, ib_tuple_str, ib_tuple_tuple, ib_tuple_list, ib_tuple_dict, ib_list_bool, ib_list_int, ib_list_str, ib_list_tuple, ib_list_list, ib_list_dict, ib_dict_bool, ib_dict_int, ib_dict_str, ib_dict_tuple, ib_dict_list, ib_dict_dict, tyD_str, tyD_non, tyD_rol, Bool.or_false, Bool.false_or, Bool.or_true, Bool.true_or, ↓truD_bl, ↓truD_int, List.getElem?_cons_zero, List.getElem?_cons_succ, List.set_cons_zero, List.set_cons_succ, Option.some.injEq, L3.D.bl.injEq, L3.D.int.injEq, L3.D.ref.injEq, L3.D.tup.injEq, L3.D.ty.injEq, L3.D.str.injEq, List.cons.injEq, and_true, true_and, exists_eq_left, exists_eq_left', exists_eq, exists_eq', exists_and_left, exists_and_right, exists_const, and_assoc, exists_eq_right_right, exists_eq_right, ↓ite_both, decide_eq_true_eq, reduceCtorEq, false_and, and_false, exists_false, not_false_eq_true, not_true_eq_false, Bool.false_eq_true, implies_true, forall_const, true_implies, false_implies, Bool.not_eq_true, Bool.not_true, Bool.not_false, decide_true, decide_false, Bool.not_eq_true', Bool.not_eq_false', Bool.not_eq_false, if_true, if_false, Bool.and_true, Bool.true_and, Bool.and_false, Bool.false_and, r3Eq, r3Ne]
        cases h1 : isiB t2 "int" with
        | false =>
          rw [h1] at e
          rw [← e] at hR
          exact ⟨fun z => (Bool.noConfusion z), fun _ => hR⟩
        | true =>
          rw [h1] at e
          rw [← e] at hR
          exact ⟨fun _ => hR, fun z => (Bool.noConfusion z)⟩
      · intro l hl
        simp -implicitDefEqProofs only [List.map_cons, List.map_nil, bls_nil, bls_cons, Option.map_some, List.all_cons, List.all_nil, id, ↓ex_bl, ↓ex_int, ↓ex_str, ↓ex_ref, ↓ex_tup, ↓ex_some, ↓ex_eq, ↓ex_eq', ↓ex_1, ↓ex_2, ↓ex_3, ↓ex_4, ↓ex_5, ↓ite_tt, ↓ite_ff, ↓v3_0, ↓v3_s, ↓eq_int, ↓ne_int, ↓eq_bl, ↓ne_bl, ↓eq_pair, ↓ne_pair, eqv_bool, eqv_str, ↓pow_lit, ↓ix_t0, ↓ix_t1, ↓ix_tup, ↓ix_it, ↓q_tC3, ↓q_tOp3, ↓q_tUn3, ↓q_tTest3, ↓q_tChain3, ↓q_tTruth3, ↓q_tAnd3, ↓q_tOr3, ↓q_tNot3, ↓q_tAndV3, ↓q_tOrV3, ↓q_tNotV3, ↓q_tIf3, ↓q_tNil3, ↓q_tCons3, ↓q_tTup3, ↓q_tLst3, ↓q_tNoPart3, ↓q_tPart3, ↓q_tSl3, ↓q_tRev3, ↓r3Rev_tup, ↓r3IsNot_bl, ↓r3Is_bl, ↓r3Sl_tup, ↓c3List_tup, ↓c3List_ref, ↓q_tCB3, ↓q_tBM3, ↓q_tBM03, ↓q_tNext3, ↓q_tSeq3, ↓q_tDrop3, ↓q_tRet3, ↓q_tRetN3, ↓q_tIfS3, ↓q_gName3, ↓gnil_eq, ↓gcons_eq, ↓q_gTup3, ↓q_gSub3, ↓q_tAsg3, ↓q_tPar3, ↓q_tYes3, ↓q_tCall3, ↓q_tTryAs3, ↓q_goneE_nx, ↓q_goneE_rt, ↓q_c3IsE, ↓is_bl, ↓c3Str_int, ↓q_tRaise3, ↓q_spA0, ↓q_spA1, ↓q_spA2, ↓q_spA3, ↓q_spA4, ↓q_spA5, ↓q_endF_rt, ↓q_endF_nx, ↓q_endF_xx, r3Lt, r3Le, r3Gt, r3Ge, r3Mod, r3Div, r3Pow, r3Sub, ↓r3I_int, ↓r3I0_int, ↓r3Add_int, ↓r3Add_tup, ↓r3Add_ref, ↓r3Mul_int, ↓r3Mul_ref, datD_non, ↓datD_bl, ↓datD_int, eqv_int, ↓items_tup, ↓items_rol, ↓items_new, ↓len_new, ↓mupd_same, L3.MO.lst.injEq, List.length_cons, List.length_nil, Nat.reduceAdd, Nat.zero_add, sizeLine_eq, Nat.reduceLeDiff, Nat.reducePow, Int.reduceLT, Int.reduceLE, Int.reducePow, Int.reduceToNat, Int.reduceNeg, Int.reduceAdd, Int.cast_ofNat_Int, Int.reduceSub, Int.reduceMul, Nat.reduceMul, Nat.reduceLT, cpow_lit, List.length_append, List.length_map, ↓u3Neg_int, fdiv_pos, ↓q_tDict0, ix_1_0, ix_2_0, ix_2_1, ix_3_0, ix_3_1, ix_3_2, ix_4_0, ix_4_1, ix_4_2, ix_4_3, ix_5_0, ix_5_1, ix_5_2, ix_5_3, ix_5_4, decide_eq_false_iff_not, ↓lc_seq, ↓lc_r1, ↓lc_r2, ↓for_seq, ↓for_r1, ↓for_r2, ↓c3Tuple_it, ↓c3Min2_int, ↓c3Max2_int, ↓m3Pop_ref, ↓lc_zip, ↓for_zip, ↓lc_enum, ↓for_enum, ↓q_tAug3, r3AddI, ↓datD_pair, datD_pair, eqv_pair, ↓m3Index_ref, wipe3, ↓len_tup, ↓len_rol, ↓c3Len_tup, ↓c3Len_rol, ↓c3Len_ref, ↓c3Int_int, ↓c3Int_bl, ↓c3Abs_int, ↓c3All_ref, ↓c3Any_ref, ↓c3Isi_tl, ↓c3Isi_ty, ↓m3Append_ref, ↓s3Lst_ref, ↓r3Is_non, ↓r3IsNot_non, atI_0, atI_1, atI_2, atI_3, atI_4, tyD_tup, tyD_int, tyD_bl, mc_bool, mc_int, mc_str, mc_tuple, mc_list, mc_dict, ib_NoneType_bool, ib_NoneType_int, ib_NoneType_str, ib_NoneType_tuple, ib_NoneType_list, ib_NoneType_dict, ib_bool_bool, ib_bool_int, ib_bool_str, ib_bool_tuple, ib_bool_list, ib_bool_dict, ib_int_bool, ib_int_int, ib_int_str, ib_int_tuple, ib_int_list, ib_int_dict, ib_str_bool, ib_str_int, ib_str_str, ib_str_tuple, ib_str_list, ib_str_dict, ib_tuple_bool, ib_tuple_int, ib_tuple_str, ib_tuple_tuple, ib_tuple_list, ib_tuple_dict, ib_list_bool, ib_list_int, ib_list_str, ib_list_tuple, ib_list_list, ib_list_dict, ib_dict_bool, ib_dict_int, ib_dict_str, ib_dict_tuple, ib_dict_list, ib_dict_dict, tyD_str, tyD_non, tyD_rol, Bool.or_false, Bool.false_or, Bool.or_true, Bool.true_or, ↓truD_bl, ↓truD_int, List.getElem?_cons_zero, List.getElem?_cons_succ, List.set_cons_zero, List.set_cons_succ, Option.some.injEq, L3.D.bl.injEq, L3.D.int.injEq, L3.D.ref.injEq, L3.D.tup.injEq, L3.D.ty.injEq, L3.D.str.injEq, List.cons.injEq, and_true, true_and, exists_eq_left, exists_eq_left', exists_eq, exists_eq', exists_and_left, exists_and_right, exists_const, and_assoc, exists_eq_right_right, exists_eq_right, ↓ite_both, decide_eq_true_eq, reduceCtorEq, false_and, and_false, exists_false, not_false_eq_true, not_true_eq_false, Bool.false_eq_true, implies_true, forall_const, true_implies, false_implies, Bool.not_eq_true, Bool.not_true, Bool.not_false, decide_true, decide_false, Bool.not_eq_true', Bool.not_eq_false', Bool.not_eq_false, if_true, if_false, Bool.and_true, Bool.true_and, Bool.and_false, Bool.false_and, r3Eq, r3Ne]
        have s1 : MSub M (mupd M l (.lst [.bl (isInt x), .bl (isInt y)])) := MSub.new .refl hl
        cases x with
        | int i =>
          cases y with
          | int j =>
            simp -implicitDefEqProofs only [isInt, ↓ex_bl, ↓ex_int, ↓ex_str, ↓ex_ref, ↓ex_tup, ↓ex_some, ↓ex_eq, ↓ex_eq', ↓ex_1, ↓ex_2, ↓ex_3, ↓ex_4, ↓ex_5, ↓ite_tt, ↓ite_ff, ↓v3_0, ↓v3_s, ↓eq_int, ↓ne_int, ↓eq_bl, ↓ne_bl, ↓eq_pair, ↓ne_pair, eqv_bool, eqv_str, ↓pow_lit, ↓ix_t0, ↓ix_t1, ↓ix_tup, ↓ix_it, ↓q_tC3, ↓q_tOp3, ↓q_tUn3, ↓q_tTest3, ↓q_tChain3, ↓q_tTruth3, ↓q_tAnd3, ↓q_tOr3, ↓q_tNot3, ↓q_tAndV3, ↓q_tOrV3, ↓q_tNotV3, ↓q_tIf3, ↓q_tNil3, ↓q_tCons3, ↓q_tTup3, ↓q_tLst3, ↓q_tNoPart3, ↓q_tPart3, ↓q_tSl3, ↓q_tRev3, ↓r3Rev_tup, ↓r3IsNot_bl, ↓r3Is_bl, ↓r3Sl_tup, ↓c3List_tup, ↓c3List_ref, ↓q_tCB3, ↓q_tBM3, ↓q_tBM03, ↓q_tNext3, ↓q_tSeq3, ↓q_tDrop3, ↓q_tRet3, ↓q_tRetN3, ↓q_tIfS3, ↓q_gName3, ↓gnil_eq, ↓gcons_eq, ↓q_gTup3, ↓q_gSub3, ↓q_tAsg3, ↓q_tPar3, ↓q_tYes3, ↓q_tCall3, ↓q_tTryAs3, ↓q_goneE_nx, ↓q_goneE_rt, ↓q_c3IsE, ↓is_bl, ↓c3Str_int, ↓q_tRaise3, ↓q_spA0, ↓q_spA1, ↓q_spA2, ↓q_spA3, ↓q_spA4, ↓q_spA5, ↓q_endF_rt, ↓q_endF_nx, ↓q_endF_xx, r3Lt, r3Le, r3Gt, r3Ge, r3Mod, r3Div, r3Pow, r3Sub, ↓r3I_int, ↓r3I0_int, ↓r3Add_int, ↓r3Add_tup, ↓r3Add_ref, ↓r3Mul_int, ↓r3Mul_ref, datD_non, ↓datD_bl, ↓datD_int, eqv_int, ↓items_tup, ↓items_rol, ↓items_new, ↓len_new, ↓mupd_same, L3.MO.lst.injEq, List.length_cons, List.length_nil, Nat.reduceAdd, Nat.zero_add, sizeLine_eq, Nat.reduceLeDiff, Nat.reducePow, Int.reduceLT, Int.reduceLE, Int.reducePow, Int.reduceToNat, Int.reduceNeg, Int.reduceAdd, Int.cast_ofNat_Int, Int.reduceSub, Int.reduceMul, Nat.reduceMul, Nat.reduceLT, cpow_lit, List.length_append, List.length_map, ↓u3Neg_int, fdiv_pos, ↓q_tDict0, ix_1_0, ix_2_0, ix_2_1, ix_3_0, ix_3_1, ix_3_2, ix_4_0, ix_4_1, ix_4_2, ix_4_3, ix_5_0, ix_5_1, ix_5_2, ix_5_3, ix_5_4, decide_eq_false_iff_not, ↓lc_seq, ↓lc_r1, ↓lc_r2, ↓for_seq, ↓for_r1, ↓for_r2, ↓c3Tuple_it, ↓c3Min2_int, ↓c3Max2_int, ↓m3Pop_ref, ↓lc_zip, ↓for_zip, ↓lc_enum, ↓for_enum, ↓q_tAug3, r3AddI, ↓datD_pair, datD_pair, eqv_pair, ↓m3Index_ref, wipe3, ↓len_tup, ↓len_rol, ↓c3Len_tup, ↓c3Len_rol, ↓c3Len_ref, ↓c3Int_int, ↓c3Int_bl, ↓c3Abs_int, ↓c3All_ref, ↓c3Any_ref, ↓c3Isi_tl, ↓c3Isi_ty, ↓m3Append_ref, ↓s3Lst_ref, ↓r3Is_non, ↓r3IsNot_non, atI_0, atI_1, atI_2, atI_3, atI_4, tyD_tup, tyD_int, tyD_bl, mc_bool, mc_int, mc_str, mc_tuple, mc_list, mc_dict, ib_NoneType_bool, ib_NoneType_int, ib_NoneType_str, ib_NoneType_tuple, ib_NoneType_list, ib_NoneType_dict, ib_bool_bool, ib_bool_int, ib_bool_str, ib_bool_tuple, ib_bool_list, ib_bool_dict, ib_int_bool, ib_int_int, ib_int_str, ib_int_tuple, ib_int_list, ib_int_dict, ib_str_bool, ib_str_int, ib_str_str, ib_str_tuple, ib_str_list, ib_str_dict, ib_tuple_bool, ib_tuple_int, ib_tuple_str, ib_tuple_tuple, ib_tuple_list, ib_tuple_dict, ib_list_bool, ib_list_int, ib_list_str, ib_list_tuple, ib_list_list, ib_list_dict, ib_dict_bool, ib_dict_int, ib_dict_str, ib_dict_tuple, ib_dict_list, ib_dict_dict, tyD_str, tyD_non, tyD_rol, Bool.or_false, Bool.false_or, Bool.or_true, Bool.true_or, ↓truD_bl, ↓truD_int, List.getElem?_cons_zero, List.getElem?_cons_succ, List.set_cons_zero, List.set_cons_succ, Option.some.injEq, L3.D.bl.injEq, L3.D.int.injEq, L3.D.ref.injEq, L3.D.tup.injEq, L3.D.ty.injEq, L3.D.str.injEq, List.cons.injEq, and_true, true_and, exists_eq_left, exists_eq_left', exists_eq, exists_eq', exists_and_left, exists_and_right, exists_const, and_assoc, exists_eq_right_right, exists_eq_right, ↓ite_both, decide_eq_true_eq, reduceCtorEq, false_and, and_false, exists_false, not_false_eq_true, not_true_eq_false, Bool.false_eq_true, implies_true, forall_const, true_implies, false_implies, Bool.not_eq_true, Bool.not_true, Bool.not_false, decide_true, decide_false, Bool.not_eq_true', Bool.not_eq_false', Bool.not_eq_false, if_true, if_false, Bool.and_true, Bool.true_and, Bool.and_false, Bool.false_and, r3Eq, r3Ne]
            refine ⟨fun hp => ⟨fun h1 => ⟨fun h0 => ret_pure s1 ?_, fun h0 => ret_pure s1 ?_⟩, fun h1 => ret_pure s1 ?_⟩, fun hp => ⟨fun h1 => ⟨i.natAbs, rfl, j.natAbs, by omega, ret_pure s1 ?_⟩, fun h1 => ret_pure s1 ?_⟩⟩
            · simp only [isNumB, if_pos hp, decide_eq_true h1, Bool.and_true] at q
              rw [show decide (0 ≤ i ∧ i ≤ p - 1) = decide (i < p) from decide_eq_decide.mpr (by omega)] at q
              exact q
            · simp only [isNumB, if_pos hp] at q
              rw [show decide (0 ≤ i ∧ i ≤ p - 1) = false from decide_eq_false (by omega)] at q
              exact q
            · simp only [isNumB, if_pos hp, decide_eq_false h1, Bool.and_false] at q
              exact q
            · simp only [isNumB, if_neg hp, decide_eq_true h1, Bool.true_and] at q
              rw [show decide (((Nat.gcd i.natAbs j.natAbs : Nat) : Int) = 1) = decide (Nat.gcd i.natAbs j.natAbs = 1) from decide_eq_decide.mpr (by omega)]
              exact q
            · simp only [isNumB, if_neg hp, decide_eq_false h1, Bool.false_and] at q
              exact q
          | _ => simp -implicitDefEqProofs only [isInt, ↓ex_bl, ↓ex_int, ↓ex_str, ↓ex_ref, ↓ex_tup, ↓ex_some, ↓ex_eq, ↓ex_eq', ↓ex_1, ↓ex_2, ↓ex_3, ↓ex_4, ↓ex_5, ↓ite_tt, ↓ite_ff, ↓v3_0, ↓v3_s, ↓eq_int, ↓ne_int, ↓eq_bl, ↓ne_bl, ↓eq_pair, ↓ne_pair, eqv_bool, eqv_str, ↓pow_lit, ↓ix_t0, ↓ix_t1, ↓ix_tup, ↓ix_it, ↓q_tC3, ↓q_tOp3, ↓q_tUn3, ↓q_tTest3, ↓q_tChain3, ↓q_tTruth3, ↓q_tAnd3, ↓q_tOr3, ↓q_tNot3, ↓q_tAndV3, ↓q_tOrV3, ↓q_tNotV3, ↓q_tIf3, ↓q_tNil3, ↓q_tCons3, ↓q_tTup3, ↓q_tLst3, ↓q_tNoPart3, ↓q_tPart3, ↓q_tSl3, ↓q_tRev3, ↓r3Rev_tup, ↓r3IsNot_bl, ↓r3Is_bl, ↓r3Sl_tup, ↓c3List_tup, ↓c3List_ref, ↓q_tCB3, ↓q_tBM3, ↓q_tBM03, ↓q_tNext3, ↓q_tSeq3, ↓q_tDrop3, ↓q_tRet3, ↓q_tRetN3, ↓q_tIfS3, ↓q_gName3, ↓gnil_eq, ↓gcons_eq, ↓q_gTup3, ↓q_gSub3, ↓q_tAsg3, ↓q_tPar3, ↓q_tYes3, ↓q_tCall3, ↓q_tTryAs3, ↓q_goneE_nx, ↓q_goneE_rt, ↓q_c3IsE, ↓is_bl, ↓c3Str_int, ↓q_tRaise3, ↓q_spA0, ↓q_spA1, ↓q_spA2, ↓q_spA3, ↓q_spA4, ↓q_spA5, ↓q_endF_rt, ↓q_endF_nx, ↓q_endF_xx, r3Lt, r3Le, r3Gt, r3Ge, r3Mod, r3Div, r3Pow, r3Sub, ↓r3I_int, ↓r3I0_int, ↓r3Add_int, ↓r3Add_tup, ↓r3Add_ref, ↓r3Mul_int, ↓r3Mul_ref, datD_non, ↓datD_bl, ↓datD_int, eqv_int, ↓items_tup, ↓items_rol, ↓items_new, ↓len_new, ↓mupd_same, L3.MO.lst.injEq, List.length_cons, List.length_nil, Nat.reduceAdd, Nat.zero_add, sizeLine_eq, Nat.reduceLeDiff, Nat.reducePow, Int.reduceLT, Int.reduceLE, Int.reducePow, Int.reduceToNat, Int.reduceNeg, Int.reduceAdd, Int.cast_ofNat_Int, Int.reduceSub, Int.reduceMul, Nat.reduceMul, Nat.reduceLT, cpow_lit, List.length_append, List.length_map, ↓u3Neg_int, fdiv_pos, ↓q_tDict0, ix_1_0, ix_2_0, ix_2_1, ix_3_0, ix_3_1, ix_3_2, ix_4_0, ix_4_1, ix_4_2, ix_4_3, ix_5_0, ix_5_1, ix_5_2, ix_5_3, ix_5_4, decide_eq_false_iff_not, ↓lc_seq, ↓lc_r1, ↓lc_r2, ↓for_seq, ↓for_r1, ↓for_r2, ↓c3Tuple_it, ↓c3Min2_int, ↓c3Max2_int, ↓m3Pop_ref, ↓lc_zip, ↓for_zip, ↓lc_enum, ↓for_enum, ↓q_tAug3, r3AddI, ↓datD_pair, datD_pair, eqv_pair, ↓m3Index_ref, wipe3, ↓len_tup, ↓len_rol, ↓c3Len_tup, ↓c3Len_rol, ↓c3Len_ref, ↓c3Int_int, ↓c3Int_bl, ↓c3Abs_int, ↓c3All_ref, ↓c3Any_ref, ↓c3Isi_tl, ↓c3Isi_ty, ↓m3Append_ref, ↓s3Lst_ref, ↓r3Is_non, ↓r3IsNot_non, atI_0, atI_1, atI_2, atI_3, atI_4, tyD_tup, tyD_int, tyD_bl, mc_bool, mc_int, mc_str, mc_tuple, mc_list, mc_dict, ib_NoneType_bool, ib_NoneType_int, ib_NoneType_str, ib_NoneType_tuple, ib_NoneType_list, ib_NoneType_dict, ib_bool_bool, ib_bool_int, ib_bool_str, ib_bool_tuple, ib_bool_list, ib_bool_dict, ib_int_bool, ib_int_int, ib_int_str, ib_int_tuple, ib_int_list, ib_int_dict, ib_str_bool, ib_str_int, ib_str_str, ib_str_tuple, ib_str_list, ib_str_dict, ib_tuple_bool, ib_tuple_int, ib_tuple_str, ib_tuple_tuple, ib_tuple_list, ib_tuple_dict, ib_list_bool, ib_list_int, ib_list_str, ib_list_tuple, ib_list_list, ib_list_dict, ib_dict_bool, ib_dict_int, ib_dict_str, ib_dict_tuple, ib_dict_list, ib_dict_dict, tyD_str, tyD_non, tyD_rol, Bool.or_false, Bool.false_or, Bool.or_true, Bool.true_or, ↓truD_bl, ↓truD_int, List.getElem?_cons_zero, List.getElem?_cons_succ, List.set_cons_zero, List.set_cons_succ, Option.some.injEq, L3.D.bl.injEq, L3.D.int.injEq, L3.D.ref.injEq, L3.D.tup.injEq, L3.D.ty.injEq, L3.D.str.injEq, List.cons.injEq, and_true, true_and, exists_eq_left, exists_eq_left', exists_eq, exists_eq', exists_and_left, exists_and_right, exists_const, and_assoc, exists_eq_right_right, exists_eq_right, ↓ite_both, decide_eq_true_eq, reduceCtorEq, false_and, and_false, exists_false, not_false_eq_true, not_true_eq_false, Bool.false_eq_true, implies_true, forall_const, true_implies, false_implies, Bool.not_eq_true, Bool.not_true, Bool.not_false, decide_true, decide_false, Bool.not_eq_true', Bool.not_eq_false', Bool.not_eq_false, if_true, if_false, Bool.and_true, Bool.true_and, Bool.and_false, Bool.false_and, r3Eq, r3Ne]; exact ret_pure s1 q
        | _ => simp -implicitDefEqProofs only [isInt, ↓ex_bl, ↓ex_int, ↓ex_str, ↓ex_ref, ↓ex_tup, ↓ex_some, ↓ex_eq, ↓ex_eq', ↓ex_1, ↓ex_2, ↓ex_3, ↓ex_4, ↓ex_5, ↓ite_tt, ↓ite_ff, ↓v3_0, ↓v3_s, ↓eq_int, ↓ne_int, ↓eq_bl, ↓ne_bl, ↓eq_pair, ↓ne_pair, eqv_bool, eqv_str, ↓pow_lit, ↓ix_t0, ↓ix_t1, ↓ix_tup, ↓ix_it, ↓q_tC3, ↓q_tOp3, ↓q_tUn3, ↓q_tTest3, ↓q_tChain3, ↓q_tTruth3, ↓q_tAnd3, ↓q_tOr3, ↓q_tNot3, ↓q_tAndV3, ↓q_tOrV3, ↓q_tNotV3, ↓q_tIf3, ↓q_tNil3, ↓q_tCons3, ↓q_tTup3, ↓q_tLst3, ↓q_tNoPart3, ↓q_tPart3, ↓q_tSl3, ↓q_tRev3, ↓r3Rev_tup, ↓r3IsNot_bl, ↓r3Is_bl, ↓r3Sl_tup, ↓c3List_tup, ↓c3List_ref, ↓q_tCB3, ↓q_tBM3, ↓q_tBM03, ↓q_tNext3, ↓q_tSeq3, ↓q_tDrop3, ↓q_tRet3, ↓q_tRetN3, ↓q_tIfS3, ↓q_gName3, ↓gnil_eq, ↓gcons_eq, ↓q_gTup3, ↓q_gSub3, ↓q_tAsg3, ↓q_tPar3, ↓q_tYes3, ↓q_tCall3, ↓q_tTryAs3, ↓q_goneE_nx, ↓q_goneE_rt, ↓q_c3IsE, ↓is_bl, ↓c3Str_int, ↓q_tRaise3, ↓q_spA0, ↓q_spA1, ↓q_spA2, ↓q_spA3, ↓q_spA4, ↓q_spA5, ↓q_endF_rt, ↓q_endF_nx, ↓q_endF_xx, r3Lt, r3Le, r3Gt, r3Ge, r3Mod, r3Div, r3Pow, r3Sub, ↓r3I_int, ↓r3I0_int, ↓r3Add_int, ↓r3Add_tup, ↓r3Add_ref, ↓r3Mul_int, ↓r3Mul_ref, datD_non, ↓datD_bl, ↓datD_int, eqv_int, ↓items_tup, ↓items_rol, ↓items_new, ↓len_new, ↓mupd_same, L3.MO.lst.injEq, List.length_cons, List.length_nil, Nat.reduceAdd, Nat.zero_add, sizeLine_eq, Nat.reduceLeDiff, Nat.reducePow, Int.reduceLT, Int.reduceLE, Int.reducePow, Int.reduceToNat, Int.reduceNeg, Int.reduceAdd, Int.cast_ofNat_Int, Int.reduceSub, Int.reduceMul, Nat.reduceMul, Nat.reduceLT, cpow_lit, List.length_append, List.length_map, ↓u3Neg_int, fdiv_pos, ↓q_tDict0, ix_1_0, ix_2_0, ix_2_1, ix_3_0, ix_3_1, ix_3_2, ix_4_0, ix_4_1, ix_4_2, ix_4_3, ix_5_0, ix_5_1, ix_5_2, ix_5_3, ix_5_4, decide_eq_false_iff_not, ↓lc_seq, ↓lc_r1, ↓lc_r2, ↓for_seq, ↓for_r1, ↓for_r2, ↓c3Tuple_it, ↓c3Min2_int, ↓c3Max2_int, ↓m3Pop_ref, ↓lc_zip, ↓for_zip, ↓lc_enum, ↓for_enum, ↓q_tAug3, r3AddI, ↓datD_pair, datD_pair, eqv_pair, ↓m3Index_ref, wipe3, ↓len_tup, ↓len_rol, ↓c3Len_tup, ↓c3Len_rol, ↓c3Len_ref, ↓c3Int_int, ↓c3Int_bl, ↓c3Abs_int, ↓c3All_ref, ↓c3Any_ref, ↓c3Isi_tl, ↓c3Isi_ty, ↓m3Append_ref, ↓s3Lst_ref, ↓r3Is_non, ↓r3IsNot_non, atI_0, atI_1, atI_2, atI_3, atI_4, tyD_tup, tyD_int, tyD_bl, mc_bool, mc_int, mc_str, mc_tuple, mc_list, mc_dict, ib_NoneType_bool, ib_NoneType_int, ib_NoneType_str, ib_NoneType_tuple, ib_NoneType_list, ib_NoneType_dict, ib_bool_bool, ib_bool_int, ib_bool_str, ib_bool_tuple, ib_bool_list, ib_bool_dict, ib_int_bool, ib_int_int, ib_int_str, ib_int_tuple, ib_int_list, ib_int_dict, ib_str_bool, ib_str_int, ib_str_str, ib_str_tuple, ib_str_list, ib_str_dict, ib_tuple_bool, ib_tuple_int, ib_tuple_str, ib_tuple_tuple, ib_tuple_list, ib_tuple_dict, ib_list_bool, ib_list_int, ib_list_str, ib_list_tuple, ib_list_list, ib_list_dict, ib_dict_bool, ib_dict_int, ib_dict_str, ib_dict_tuple, ib_dict_list, ib_dict_dict, tyD_str, tyD_non, tyD_rol, Bool.or_false, Bool.false_or, Bool.or_true, Bool.true_or, ↓truD_bl, ↓truD_int, List.getElem?_cons_zero, List.getElem?_cons_succ, List.set_cons_zero, List.set_cons_succ, Option.some.injEq, L3.D.bl.injEq, L3.D.int.injEq, L3.D.ref.injEq, L3.D.tup.injEq, L3.D.ty.injEq, L3.D.str.injEq, List.cons.injEq, and_true, true_and, exists_eq_left, exists_eq_left', exists_eq, exists_eq', exists_and_left, exists_and_right, exists_const, and_assoc, exists_eq_right_right, exists_eq_right, ↓ite_both, decide_eq_true_eq, reduceCtorEq, false_and, and_false, exists_false, not_false_eq_true, not_true_eq_false, Bool.false_eq_true, implies_true, forall_const, true_implies, false_implies, Bool.not_eq_true, Bool.not_true, Bool.not_false, decide_true, decide_false, Bool.not_eq_true', Bool.not_eq_false', Bool.not_eq_false, if_true, if_false, Bool.and_true, Bool.true_and, Bool.and_false, Bool.false_and, r3Eq, r3Ne]; exact ret_pure s1 q
  | _ => simp -implicitDefEqProofs only [isTupD, ↓ex_bl, ↓ex_int, ↓ex_str, ↓ex_ref, ↓ex_tup, ↓ex_some, ↓ex_eq, ↓ex_eq', ↓ex_1, ↓ex_2, ↓ex_3, ↓ex_4, ↓ex_5, ↓ite_tt, ↓ite_ff, ↓v3_0, ↓v3_s, ↓eq_int, ↓ne_int, ↓eq_bl, ↓ne_bl, ↓eq_pair, ↓ne_pair, eqv_bool, eqv_str, ↓pow_lit, ↓ix_t0, ↓ix_t1, ↓ix_tup, ↓ix_it, ↓q_tC3, ↓q_tOp3, ↓q_tUn3, ↓q_tTest3, ↓q_tChain3, ↓q_tTruth3, ↓q_tAnd3, ↓q_tOr3, ↓q_tNot3, ↓q_tAndV3, ↓q_tOrV3, ↓q_tNotV3, ↓q_tIf3, ↓q_tNil3, ↓q_tCons3, ↓q_tTup3, ↓q_tLst3, ↓q_tNoPart3, ↓q_tPart3, ↓q_tSl3, ↓q_tRev3, ↓r3Rev_tup, ↓r3IsNot_bl, ↓r3Is_bl, ↓r3Sl_tup, ↓c3List_tup, ↓c3List_ref, ↓q_tCB3, ↓q_tBM3, ↓q_tBM03, ↓q_tNext3, ↓q_tSeq3, ↓q_tDrop3, ↓q_tRet3, ↓q_tRetN3, ↓q_tIfS3, ↓q_gName3, ↓gnil_eq, ↓gcons_eq, ↓q_gTup3, ↓q_gSub3, ↓q_tAsg3, ↓q_tPar3, ↓q_tYes3, ↓q_tCall3, ↓q_tTryAs3, ↓q_goneE_nx, ↓q_goneE_rt, ↓q_c3IsE, ↓is_bl, ↓c3Str_int, ↓q_tRaise3, ↓q_spA0, ↓q_spA1, ↓q_spA2, ↓q_spA3, ↓q_spA4, ↓q_spA5, ↓q_endF_rt, ↓q_endF_nx, ↓q_endF_xx, r3Lt, r3Le, r3Gt, r3Ge, r3Mod, r3Div, r3Pow, r3Sub, ↓r3I_int, ↓r3I0_int, ↓r3Add_int, ↓r3Add_tup, ↓r3Add_ref, ↓r3Mul_int, ↓r3Mul_ref, datD_non, ↓datD_bl, ↓datD_int, eqv_int, ↓items_tup, ↓items_rol, ↓items_new, ↓len_new, ↓mupd_same, L3.MO.lst.injEq, List.length_cons, List.length_nil, Nat.reduceAdd, Nat.zero_add, sizeLine_eq, Nat.reduceLeDiff, Nat.reducePow, Int.reduceLT, Int.reduceLE, Int.reducePow, Int.reduceToNat, Int.reduceNeg, Int.reduceAdd, Int.cast_ofNat_Int, Int.reduceSub, Int.reduceMul, Nat.reduceMul, Nat.reduceLT, cpow_lit, List.length_append, List.length_map, ↓u3Neg_int, fdiv_pos, ↓q_tDict0, ix_1_0, ix_2_0, ix_2_1, ix_3_0, ix_3_1, ix_3_2, ix_4_0, ix_4_1, ix_4_2, ix_4_3, ix_5_0, ix_5_1, ix_5_2, ix_5_3, ix_5_4, decide_eq_false_iff_not, ↓lc_seq, ↓lc_r1, ↓lc_r2, ↓for_seq, ↓for_r1, ↓for_r2, ↓c3Tuple_it, ↓c3Min2_int, ↓c3Max2_int, ↓m3Pop_ref, ↓lc_zip, ↓for_zip, ↓lc_enum, ↓for_enum, ↓q_tAug3, r3AddI, ↓datD_pair, datD_pair, eqv_pair, ↓m3Index_ref, wipe3, ↓len_tup, ↓len_rol, ↓c3Len_tup, ↓c3Len_rol, ↓c3Len_ref, ↓c3Int_int, ↓c3Int_bl, ↓c3Abs_int, ↓c3All_ref, ↓c3Any_ref, ↓c3Isi_tl, ↓c3Isi_ty, ↓m3Append_ref, ↓s3Lst_ref, ↓r3Is_non, ↓r3IsNot_non, atI_0, atI_1, atI_2, atI_3, atI_4, tyD_tup, tyD_int, tyD_bl, mc_bool, mc_int, mc_str, mc_tuple, mc_list, mc_dict, ib_NoneType_bool, ib_NoneType_int, ib_NoneType_str, ib_NoneType_tuple, ib_NoneType_list, ib_NoneType_dict, ib_bool_bool, ib_bool_int, ib_bool_str, ib_bool_tuple, ib_bool_list, ib_bool_dict, ib_int_bool, ib_int_int, ib_int_str, ib_int_tuple, ib_int_list, ib_int_dict, ib_str_bool, ib_str_int, ib_str_str, ib_str_tuple, ib_str_list, ib_str_dict, ib_tuple_bool, ib_tuple_int, ib_tuple_str, ib_tuple_tuple, ib_tuple_list, ib_tuple_dict, ib_list_bool, ib_list_int, ib_list_str, ib_list_tuple, ib_list_list, ib_list_dict, ib_dict_bool, ib_dict_int, ib_dict_str, ib_dict_tuple, ib_dict_list, ib_dict_dict, tyD_str, tyD_non, tyD_rol, Bool.or_false, Bool.false_or, Bool.or_true, Bool.true_or, ↓truD_bl, ↓truD_int, List.getElem?_cons_zero, List.getElem?_cons_succ, List.set_cons_zero, List.set_cons_succ, Option.some.injEq, L3.D.bl.injEq, L3.D.int.injEq, L3.D.ref.injEq, L3.D.tup.injEq, L3.D.ty.injEq, L3.D.str.injEq, List.cons.injEq, and_true, true_and, exists_eq_left, exists_eq_left', exists_eq, exists_eq', exists_and_left, exists_and_right, exists_const, and_assoc, exists_eq_right_right, exists_eq_right, ↓ite_both, decide_eq_true_eq, reduceCtorEq, false_and, and_false, exists_false, not_false_eq_true, not_true_eq_false, Bool.false_eq_true, implies_true, forall_const, true_implies, false_implies, Bool.not_eq_true, Bool.not_true, Bool.not_false, decide_true, decide_false, Bool.not_eq_true', Bool.not_eq_false', Bool.not_eq_false, if_true, if_false, Bool.and_true, Bool.true_and, Bool.and_false, Bool.false_and, r3Eq, r3Ne]; exact ret_same q

def sp__law_is_poly (K : PySem.W.Frag) : Sp3 := spA2 fun g a M Q X => ∃ p, g = .int p ∧ Gd p ∧ tyA M a ∧ Q (.bl (isPolyB p a)) M
abbrev N__law_is_poly : List Str := ["ground", "thing", "one"]
def tr__law_is_poly (K : PySem.W.Frag) : TS3 := (tSeq3 (tIfS3 (tOr3 (tNot3 (tTruth3 (tCB3 c3Isi (tCons3 (tVar3 1) (tCons3 (tC3 (.ty "tuple")) tNil3))))) (tNot3 (tTruth3 (tCB3 c3All (tCons3 (tLc3 (iSeq3 (tVar3 1)) (gName3 2) tYes3 (tCall3 (sp__law_is_num K) (tCons3 (tVar3 0) (tCons3 (tVar3 2) tNil3))) [2]) tNil3))))) (tRet3 (tC3 (.bl false))) tNext3) (tRet3 (tOrV3 (tOp3 r3Eq (tCB3 c3Len (tCons3 (tVar3 1) tNil3)) (tC3 (.int 0))) (tOp3 r3Ne (tOp3 r3Ix (tOp3 r3Ix (tVar3 1) (tUn3 u3Neg (tC3 (.int 1)))) (tC3 (.int 0))) (tC3 (.int 0))))))
theorem rd__law_is_poly (K : PySem.W.Frag) : ∀ ds M Q E, sp__law_is_poly K ds M Q E → tr__law_is_poly K (endF M Q E) (start3 N__law_is_poly ds) M := by
  rintro ds M Q E ⟨g, a, rfl, p, rfl, hg, ta, q⟩
  unfold tr__law_is_poly
  simp only [start3, List.map_cons, List.map_nil, List.length_cons, List.length_nil, List.cons_append, List.nil_append, List.replicate_succ, List.replicate_zero, Nat.reduceAdd, Nat.reduceSub, Nat.zero_add]
  obtain ⟨t, ht⟩ := ta.ty
  simp -implicitDefEqProofs only [ht, ↓ex_bl, ↓ex_int, ↓ex_str, ↓ex_ref, ↓ex_tup, ↓ex_some, ↓ex_eq, ↓ex_eq', ↓ex_1, ↓ex_2, ↓ex_3, ↓ex_4, ↓ex_5, ↓ite_tt, ↓ite_ff, ↓v3_0, ↓v3_s, ↓eq_int, ↓ne_int, ↓eq_bl, ↓ne_bl, ↓eq_pair, ↓ne_pair, eqv_bool, eqv_str, ↓pow_lit, ↓ix_t0, ↓ix_t1, ↓ix_tup, ↓ix_it, ↓q_tC3, ↓q_tOp3, ↓q_tUn3, ↓q_tTest3, ↓q_tChain3, ↓q_tTruth3, ↓q_tAnd3, ↓q_tOr3, ↓q_tNot3, ↓q_tAndV3, ↓q_tOrV3, ↓q_tNotV3, ↓q_tIf3, ↓q_tNil3, ↓q_tCons3, ↓q_tTup3, ↓q_tLst3, ↓q_tNoPart3, ↓q_tPart3, ↓q_tSl3, ↓q_tRev3, ↓r3Rev_tup, ↓r3IsNot_bl, ↓r3Is_bl, ↓r3Sl_tup, ↓c3List_tup, ↓c3List_ref, ↓q_tCB3, ↓q_tBM3, ↓q_tBM03, ↓q_tNext3, ↓q_tSeq3, ↓q_tDrop3, ↓q_tRet3, ↓q_tRetN3, ↓q_tIfS3, ↓q_gName3, ↓gnil_eq, ↓gcons_eq, ↓q_gTup3, ↓q_gSub3, ↓q_tAsg3, ↓q_tPar3, ↓q_tYes3, ↓q_tCall3, ↓q_tTryAs3, ↓q_goneE_nx, ↓q_goneE_rt, ↓q_c3IsE, ↓is_bl, ↓c3Str_int, ↓q_tRaise3, ↓q_spA0, ↓q_spA1, ↓q_spA2, ↓q_spA3, ↓q_spA4, ↓q_spA5, ↓q_endF_rt, ↓q_endF_nx, ↓q_endF_xx, r3Lt, r3Le, r3Gt, r3Ge, r3Mod, r3Div, r3Pow, r3Sub, ↓r3I_int, ↓r3I0_int, ↓r3Add_int, ↓r3Add_tup, ↓r3Add_ref, ↓r3Mul_int, ↓r3Mul_ref, datD_non, ↓datD_bl, ↓datD_int, eqv_int, ↓items_tup, ↓items_rol, ↓items_new, ↓len_new, ↓mupd_same, L3.MO.lst.injEq, List.length_cons, List.length_nil, Nat.reduceAdd, Nat.zero_add, sizeLine_eq, Nat.reduceLeDiff, Nat.reducePow, Int.reduceLT, Int.reduceLE, Int.reducePow, Int.reduceToNat, Int.reduceNeg, Int.reduceAdd, Int.cast_ofNat_Int, Int.reduceSub, Int.reduceMul, Nat.reduceMul, Nat.reduceLT, cpow_lit, List.length_append, List.length_map, ↓u3Neg_int, fdiv_pos, ↓q_tDict0, ix_1_0, ix_2_0, ix_2_1, ix_3_0, ix_3_1, ix_3_2, ix_4_0, ix_4_1, ix_4_2, ix_4_3, ix_5_0, ix_5_1, ix_5_2, ix_5_3, ix_5_4, decide_eq_false_iff_not, ↓lc_seq, ↓lc_r1, ↓lc_r2, ↓for_seq, ↓for_r1, ↓for_r2, ↓c3Tuple_it, ↓c3Min2_int, ↓c3Max2_int, ↓m3Pop_ref, ↓lc_zip, ↓for_zip, ↓lc_enum, ↓for_enum, ↓q_tAug3, r3AddI, ↓datD_pair, datD_pair, eqv_pair, ↓m3Index_ref, wipe3, ↓len_tup, ↓len_rol, ↓c3Len_tup, ↓c3Len_rol, ↓c3Len_ref, ↓c3Int_int, ↓c3Int_bl, ↓c3Abs_int, ↓c3All_ref, ↓c3Any_ref, ↓c3Isi_tl, ↓c3Isi_ty, ↓m3Append_ref, ↓s3Lst_ref, ↓r3Is_non, ↓r3IsNot_non, atI_0, atI_1, atI_2, atI_3, atI_4, tyD_tup, tyD_int, tyD_bl, mc_bool, mc_int, mc_str, mc_tuple, mc_list, mc_dict, ib_NoneType_bool, ib_NoneType_int, ib_NoneType_str, ib_NoneType_tuple, ib_NoneType_list, ib_NoneType_dict, ib_bool_bool, ib_bool_int, ib_bool_str, ib_bool_tuple, ib_bool_list, ib_bool_dict, ib_int_bool, ib_int_int, ib_int_str, ib_int_tuple, ib_int_list, ib_int_dict, ib_str_bool, ib_str_int, ib_str_str, ib_str_tuple, ib_str_list, ib_str_dict, ib_tuple_bool, ib_tuple_int, ib_tuple_str, ib_tuple_tuple, ib_tuple_list, ib_tuple_dict, ib_list_bool, ib_list_int, ib_list_str, ib_list_tuple, ib_list_list, ib_list_dict, ib_dict_bool, ib_dict_int, ib_dict_str, ib_dict_tuple, ib_dict_list, ib_dict_dict, tyD_str, tyD_non, tyD_rol, Bool.or_false, Bool.false_or, Bool.or_true, Bool.true_or, ↓truD_bl, ↓truD_int, List.getElem?_cons_zero, List.getElem?_cons_succ, List.set_cons_zero, List.set_cons_succ, Option.some.injEq, L3.D.bl.injEq, L3.D.int.injEq, L3.D.ref.injEq, L3.D.tup.injEq, L3.D.ty.injEq, L3.D.str.injEq, List.cons.injEq, and_true, true_and, exists_eq_left, exists_eq_left', exists_eq, exists_eq', exists_and_left, exists_and_right, exists_const, and_assoc, exists_eq_right_right, exists_eq_right, ↓ite_both, decide_eq_true_eq, reduceCtorEq, false_and, and_false, exists_false, not_false_eq_true, not_true_eq_false, Bool.false_eq_true, implies_true, forall_const, true_implies, false_implies, Bool.not_eq_true, Bool.not_true, Bool.not_false, decide_true, decide_false, Bool.not_eq_true', Bool.not_eq_false', Bool.not_eq_false, if_true, if_false, Bool.and_true, Bool.true_and, Bool.and_false, Bool.false_and, r3Eq, r3Ne]
  rw [isi_tup ht]
  cases a with
  | tup es =>
    simp -implicitDefEqProofs only [isTupD, ↓ex_bl, ↓ex_int, ↓ex_str, ↓ex_ref, ↓ex_tup, ↓ex_some, ↓ex_eq, ↓ex_eq', ↓ex_1, ↓ex_2, ↓ex_3, ↓ex_4, ↓ex_5, ↓ite_tt, ↓ite_ff, ↓v3_0, ↓v3_s, ↓eq_int, ↓ne_int, ↓eq_bl, ↓ne_bl, ↓eq_pair, ↓ne_pair, eqv_bool, eqv_str, ↓pow_lit, ↓ix_t0, ↓ix_t1, ↓ix_tup, ↓ix_it, ↓q_tC3, ↓q_tOp3, ↓q_tUn3, ↓q_tTest3, ↓q_tChain3, ↓q_tTruth3, ↓q_tAnd3, ↓q_tOr3, ↓q_tNot3, ↓q_tAndV3, ↓q_tOrV3, ↓q_tNotV3, ↓q_tIf3, ↓q_tNil3, ↓q_tCons3, ↓q_tTup3, ↓q_tLst3, ↓q_tNoPart3, ↓q_tPart3, ↓q_tSl3, ↓q_tRev3, ↓r3Rev_tup, ↓r3IsNot_bl, ↓r3Is_bl, ↓r3Sl_tup, ↓c3List_tup, ↓c3List_ref, ↓q_tCB3, ↓q_tBM3, ↓q_tBM03, ↓q_tNext3, ↓q_tSeq3, ↓q_tDrop3, ↓q_tRet3, ↓q_tRetN3, ↓q_tIfS3, ↓q_gName3, ↓gnil_eq, ↓gcons_eq, ↓q_gTup3, ↓q_gSub3, ↓q_tAsg3, ↓q_tPar3, ↓q_tYes3, ↓q_tCall3, ↓q_tTryAs3, ↓q_goneE_nx, ↓q_goneE_rt, ↓q_c3IsE, ↓is_bl, ↓c3Str_int, ↓q_tRaise3, ↓q_spA0, ↓q_spA1, ↓q_spA2, ↓q_spA3, ↓q_spA4, ↓q_spA5, ↓q_endF_rt, ↓q_endF_nx, ↓q_endF_xx, r3Lt, r3Le, r3Gt, r3Ge, r3Mod, r3Div, r3Pow, r3Sub, ↓r3I_int, ↓r3I0_int, ↓r3Add_int, ↓r3Add_tup, ↓r3Add_ref, ↓r3Mul_int, ↓r3Mul_ref, datD_non, ↓datD_bl, ↓datD_int, eqv_int, ↓items_tup, ↓items_rol, ↓items_new, ↓len_new, ↓mupd_same, L3.MO.lst.injEq, List.length_cons, List.length_nil, Nat.reduceAdd, Nat.zero_add, sizeLine_eq, Nat.reduceLeDiff, Nat.reducePow, Int.reduceLT, Int.reduceLE, Int.reducePow, Int.reduceToNat, Int.reduceNeg, Int.reduceAdd, Int.cast_ofNat_Int, Int.reduceSub, Int.reduceMul, Nat.reduceMul, Nat.reduceLT, cpow_lit, List.length_append, List.length_map, ↓u3Neg_int, fdiv_pos, ↓q_tDict0, ix_1_0, ix_2_0, ix_2_1, ix_3_0, ix_3_1, ix_3_2, ix_4_0, ix_4_1, ix_4_2, ix_4_3, ix_5_0, ix_5_1, ix_5_2, ix_5_3, ix_5_4, decide_eq_false_iff_not, ↓lc_seq, ↓lc_r1, ↓lc_r2, ↓for_seq, ↓for_r1, ↓for_r2, ↓c3Tuple_it, ↓c3Min2_int, ↓c3Max2_int, ↓m3Pop_ref, ↓lc_zip, ↓for_zip, ↓lc_enum, ↓for_enum, ↓q_tAug3, r3AddI, ↓datD_pair, datD_pair, eqv_pair, ↓m3Index_ref, wipe3, ↓len_tup, ↓len_rol, ↓c3Len_tup, ↓c3Len_rol, ↓c3Len_ref, ↓c3Int_int, ↓c3Int_bl, ↓c3Abs_int, ↓c3All_ref, ↓c3Any_ref, ↓c3Isi_tl, ↓c3Isi_ty, ↓m3Append_ref, ↓s3Lst_ref, ↓r3Is_non, ↓r3IsNot_non, atI_0, atI_1, atI_2, atI_3, atI_4, tyD_tup, tyD_int, tyD_bl, mc_bool, mc_int, mc_str, mc_tuple, mc_list, mc_dict, ib_NoneType_bool, ib_NoneType_int, ib_NoneType_str, ib_NoneType_tuple, ib_NoneType_list, ib_NoneType_dict, ib_bool_bool, ib_bool_int, ib_bool_str, ib_bool_tuple, ib_bool_list, ib_bool_dict, ib_int_bool, ib_int_int, ib_int_str, ib_int_tuple, ib_int_list, ib_int_dict, ib_str_bool, ib_str_int, ib_str_str, ib_str_tuple, ib_str_list, ib_str_dict, ib_tuple_bool, ib_tuple_int, ib_tuple_str, ib_tuple_tuple, ib_tuple_list, ib_tuple_dict, ib_list_bool, ib_list_int, ib_list_str, ib_list_tuple, ib_list_list, ib_list_dict, ib_dict_bool, ib_dict_int, ib_dict_str, ib_dict_tuple, ib_dict_list, ib_dict_dict, tyD_str, tyD_non, tyD_rol, Bool.or_false, Bool.false_or, Bool.or_true, Bool.true_or, ↓truD_bl, ↓truD_int, List.getElem?_cons_zero, List.getElem?_cons_succ, List.set_cons_zero, List.set_cons_succ, Option.some.injEq, L3.D.bl.injEq, L3.D.int.injEq, L3.D.ref.injEq, L3.D.tup.injEq, L3.D.ty.injEq, L3.D.str.injEq, List.cons.injEq, and_true, true_and, exists_eq_left, exists_eq_left', exists_eq, exists_eq', exists_and_left, exists_and_right, exists_const, and_assoc, exists_eq_right_right, exists_eq_right, ↓ite_both, decide_eq_true_eq, reduceCtorEq, false_and, and_false, exists_false, not_false_eq_true, not_true_eq_false, Bool.false_eq_true, implies_true, forall_const, true_implies, false_implies, Bool.not_eq_true, Bool.not_true, Bool.not_false, decide_true, decide_false, Bool.not_eq_true', Bool.not_eq_false', Bool.not_eq_false, if_true, if_false, Bool.and_true, Bool.true_and, Bool.and_false, Bool.false_and, r3Eq, r3Ne]
    refine lcb_map (fun d => .bl (isNumB p d)) trivial (Nat.le_trans ta.len (by decide)) ?_ ?_
    · intro i d R hd hR
      simp -implicitDefEqProofs only [sp__law_is_num, ↓ex_bl, ↓ex_int, ↓ex_str, ↓ex_ref, ↓ex_tup, ↓ex_some, ↓ex_eq, ↓ex_eq', ↓ex_1, ↓ex_2, ↓ex_3, ↓ex_4, ↓ex_5, ↓ite_tt, ↓ite_ff, ↓v3_0, ↓v3_s, ↓eq_int, ↓ne_int, ↓eq_bl, ↓ne_bl, ↓eq_pair, ↓ne_pair, eqv_bool, eqv_str, ↓pow_lit, ↓ix_t0, ↓ix_t1, ↓ix_tup, ↓ix_it, ↓q_tC3, ↓q_tOp3, ↓q_tUn3, ↓q_tTest3, ↓q_tChain3, ↓q_tTruth3, ↓q_tAnd3, ↓q_tOr3, ↓q_tNot3, ↓q_tAndV3, ↓q_tOrV3, ↓q_tNotV3, ↓q_tIf3, ↓q_tNil3, ↓q_tCons3, ↓q_tTup3, ↓q_tLst3, ↓q_tNoPart3, ↓q_tPart3, ↓q_tSl3, ↓q_tRev3, ↓r3Rev_tup, ↓r3IsNot_bl, ↓r3Is_bl, ↓r3Sl_tup, ↓c3List_tup, ↓c3List_ref, ↓q_tCB3, ↓q_tBM3, ↓q_tBM03, ↓q_tNext3, ↓q_tSeq3, ↓q_tDrop3, ↓q_tRet3, ↓q_tRetN3, ↓q_tIfS3, ↓q_gName3, ↓gnil_eq, ↓gcons_eq, ↓q_gTup3, ↓q_gSub3, ↓q_tAsg3, ↓q_tPar3, ↓q_tYes3, ↓q_tCall3, ↓q_tTryAs3, ↓q_goneE_nx, ↓q_goneE_rt, ↓q_c3IsE, ↓is_bl, ↓c3Str_int, ↓q_tRaise3, ↓q_spA0, ↓q_spA1, ↓q_spA2, ↓q_spA3, ↓q_spA4, ↓q_spA5, ↓q_endF_rt, ↓q_endF_nx, ↓q_endF_xx, r3Lt, r3Le, r3Gt, r3Ge, r3Mod, r3Div, r3Pow, r3Sub, ↓r3I_int, ↓r3I0_int, ↓r3Add_int, ↓r3Add_tup, ↓r3Add_ref, ↓r3Mul_int, ↓r3Mul_ref, datD_non, ↓datD_bl, ↓datD_int, eqv_int, ↓items_tup, ↓items_rol, ↓items_new, ↓len_new, ↓mupd_same, L3.MO.lst.injEq, List.length_cons, List.length_nil, Nat.reduceAdd, Nat.zero_add, sizeLine_eq, Nat.reduceLeDiff, Nat.reducePow, Int.reduceLT, Int.reduceLE, Int.reducePow, Int.reduceToNat, Int.reduceNeg, Int.reduceAdd, Int.cast_ofNat_Int, Int.reduceSub, Int.reduceMul, Nat.reduceMul, Nat.reduceLT, cpow_lit, List.length_append, List.length_map, ↓u3Neg_int, fdiv_pos, ↓q_tDict0, ix_1_0, ix_2_0, ix_2_1, ix_3_0, ix_3_1, ix_3_2, ix_4_0, ix_4_1, ix_4_2, ix_4_3, ix_5_0, ix_5_1, ix_5_2, ix_5_3, ix_5_4, decide_eq_false_iff_not, ↓lc_seq, ↓lc_r1, ↓lc_r2, ↓for_seq, ↓for_r1, ↓for_r2, ↓c3Tuple_it, ↓c3Min2_int, ↓c3Max2_int, ↓m3Pop_ref, ↓lc_zip, ↓for_zip, ↓lc_enum, ↓for_enum, ↓q_tAug3, r3AddI, ↓datD_pair, datD_pair, eqv_pair, ↓m3Index_ref, wipe3, ↓len_tup, ↓len_rol, ↓c3Len_tup, ↓c3Len_rol, ↓c3Len_ref, ↓c3Int_int, ↓c3Int_bl, ↓c3Abs_int, ↓c3All_ref, ↓c3Any_ref, ↓c3Isi_tl, ↓c3Isi_ty, ↓m3Append_ref, ↓s3Lst_ref, ↓r3Is_non, ↓r3IsNot_non, atI_0, atI_1, atI_2, atI_3, atI_4, tyD_tup, tyD_int, tyD_bl, mc_bool, mc_int, mc_str, mc_tuple, mc_list, mc_dict, ib_NoneType_bool, ib_NoneType_int, ib_NoneType_str, ib_NoneType_tuple, ib_NoneType_list, ib_NoneType_dict, ib_bool_bool, ib_bool_int, ib_bool_str, ib_bool_tuple, ib_bool_list, ib_bool_dict, ib_int_bool, ib_int_int, ib_int_str, ib_int_tuple, ib_int_list, ib_int_dict, ib_str_bool, ib_str_int, ib_str_str, ib_str_tuple, ib_str_list, ib_str_dict, ib_tuple_bool, ib_tuple_int, ib_tuple_str, ib_tuple_tuple, ib_tuple_list, ib_tuple_dict, ib_list_bool, ib_list_int, ib_list_str, ib_list_tuple, ib_list_list, ib_list_dict, ib_dict_bool, ib_dict_int, ib_dict_str, ib_dict_tuple, ib_dict_list, ib_dict_dict, tyD_str, tyD_non, tyD_rol, Bool.or_false, Bool.false_or, Bool.or_true, Bool.true_or, ↓truD_bl, ↓truD_int, List.getElem?_cons_zero, List.getElem?_cons_succ, List.set_cons_zero, List.set_cons_succ, Option.some.injEq, L3.D.bl.injEq, L3.D.int.injEq, L3.D.ref.injEq, L3.D.tup.injEq, L3.D.ty.injEq, L3.D.str.injEq, List.cons.injEq, and_true, true_and, exists_eq_left, exists_eq_left', exists_eq, exists_eq', exists_and_left, exists_and_right, exists_const, and_assoc, exists_eq_right_right, exists_eq_right, ↓ite_both, decide_eq_true_eq, reduceCtorEq, false_and, and_false, exists_false, not_false_eq_true, not_true_eq_false, Bool.false_eq_true, implies_true, forall_const, true_implies, false_implies, Bool.not_eq_true, Bool.not_true, Bool.not_false, decide_true, decide_false, Bool.not_eq_true', Bool.not_eq_false', Bool.not_eq_false, if_true, if_false, Bool.and_true, Bool.true_and, Bool.and_false, Bool.false_and, r3Eq, r3Ne]
      exact ⟨(ta.mem (List.mem_of_getElem? hd)).ty1, hR⟩
    · intro l hl
      have s1 : MSub M (mupd M l (.lst (es.map fun d => D.bl (isNumB p d)))) := MSub.new .refl hl
      have eb : blsD (es.map fun d => D.bl (isNumB p d)) = some (es.map (isNumB p)) := by
        have := blsD_map (es.map (isNumB p))
        rw [List.map_map] at this
        exact this
      simp -implicitDefEqProofs only [↓ex_bl, ↓ex_int, ↓ex_str, ↓ex_ref, ↓ex_tup, ↓ex_some, ↓ex_eq, ↓ex_eq', ↓ex_1, ↓ex_2, ↓ex_3, ↓ex_4, ↓ex_5, ↓ite_tt, ↓ite_ff, ↓v3_0, ↓v3_s, ↓eq_int, ↓ne_int, ↓eq_bl, ↓ne_bl, ↓eq_pair, ↓ne_pair, eqv_bool, eqv_str, ↓pow_lit, ↓ix_t0, ↓ix_t1, ↓ix_tup, ↓ix_it, ↓q_tC3, ↓q_tOp3, ↓q_tUn3, ↓q_tTest3, ↓q_tChain3, ↓q_tTruth3, ↓q_tAnd3, ↓q_tOr3, ↓q_tNot3, ↓q_tAndV3, ↓q_tOrV3, ↓q_tNotV3, ↓q_tIf3, ↓q_tNil3, ↓q_tCons3, ↓q_tTup3, ↓q_tLst3, ↓q_tNoPart3, ↓q_tPart3, ↓q_tSl3, ↓q_tRev3, ↓r3Rev_tup, ↓r3IsNot_bl, ↓r3Is_bl, ↓r3Sl_tup, ↓c3List_tup, ↓c3List_ref, ↓q_tCB3, ↓q_tBM3, ↓q_tBM03, ↓q_tNext3, ↓q_tSeq3, ↓q_tDrop3, ↓q_tRet3, ↓q_tRetN3, ↓q_tIfS3, ↓q_gName3, ↓gnil_eq, ↓gcons_eq, ↓q_gTup3, ↓q_gSub3, ↓q_tAsg3, ↓q_tPar3, ↓q_tYes3, ↓q_tCall3, ↓q_tTryAs3, ↓q_goneE_nx, ↓q_goneE_rt, ↓q_c3IsE, ↓is_bl, ↓c3Str_int, ↓q_tRaise3, ↓q_spA0, ↓q_spA1, ↓q_spA2, ↓q_spA3, ↓q_spA4, ↓q_spA5, ↓q_endF_rt, ↓q_endF_nx, ↓q_endF_xx, r3Lt, r3Le, r3Gt, r3Ge, r3Mod, r3Div, r3Pow, r3Sub, ↓r3I_int, ↓r3I0_int, ↓r3Add_int, ↓r3Add_tup, ↓r3Add_ref, ↓r3Mul_int, ↓r3Mul_ref, datD_non, ↓datD_bl, ↓datD_int, eqv_int, ↓items_tup, ↓items_rol, ↓items_new, ↓len_new, ↓mupd_same, L3.MO.lst.injEq, List.length_cons, List.length_nil, Nat.reduceAdd, Nat.zero_add, sizeLine_eq, Nat.reduceLeDiff, Nat.reducePow, Int.reduceLT, Int.reduceLE, Int.reducePow, Int.reduceToNat, Int.reduceNeg, Int.reduceAdd, Int.cast_ofNat_Int, Int.reduceSub, Int.reduceMul, Nat.reduceMul, Nat.reduceLT, cpow_lit, List.length_append, List.length_map, ↓u3Neg_int, fdiv_pos, ↓q_tDict0, ix_1_0, ix_2_0, ix_2_1, ix_3_0, ix_3_1, ix_3_2, ix_4_0, ix_4_1, ix_4_2, ix_4_3, ix_5_0, ix_5_1, ix_5_2, ix_5_3, ix_5_4, decide_eq_false_iff_not, ↓lc_seq, ↓lc_r1, ↓lc_r2, ↓for_seq, ↓for_r1, ↓for_r2, ↓c3Tuple_it, ↓c3Min2_int, ↓c3Max2_int, ↓m3Pop_ref, ↓lc_zip, ↓for_zip, ↓lc_enum, ↓for_enum, ↓q_tAug3, r3AddI, ↓datD_pair, datD_pair, eqv_pair, ↓m3Index_ref, wipe3, ↓len_tup, ↓len_rol, ↓c3Len_tup, ↓c3Len_rol, ↓c3Len_ref, ↓c3Int_int, ↓c3Int_bl, ↓c3Abs_int, ↓c3All_ref, ↓c3Any_ref, ↓c3Isi_tl, ↓c3Isi_ty, ↓m3Append_ref, ↓s3Lst_ref, ↓r3Is_non, ↓r3IsNot_non, atI_0, atI_1, atI_2, atI_3, atI_4, tyD_tup, tyD_int, tyD_bl, mc_bool, mc_int, mc_str, mc_tuple, mc_list, mc_dict, ib_NoneType_bool, ib_NoneType_int, ib_NoneType_str, ib_NoneType_tuple, ib_NoneType_list, ib_NoneType_dict, ib_bool_bool, ib_bool_int, ib_bool_str, ib_bool_tuple, ib_bool_list, ib_bool_dict, ib_int_bool, ib_int_int, ib_int_str, ib_int_tuple, ib_int_list, ib_int_dict, ib_str_bool, ib_str_int, ib_str_str, ib_str_tuple, ib_str_list, ib_str_dict, ib_tuple_bool, ib_tuple_int, ib_tuple_str, ib_tuple_tuple, ib_tuple_list, ib_tuple_dict, ib_list_bool, ib_list_int, ib_list_str, ib_list_tuple, ib_list_list, ib_list_dict, ib_dict_bool, ib_dict_int, ib_dict_str, ib_dict_tuple, ib_dict_list, ib_dict_dict, tyD_str, tyD_non, tyD_rol, Bool.or_false, Bool.false_or, Bool.or_true, Bool.true_or, ↓truD_bl, ↓truD_int, List.getElem?_cons_zero, List.getElem?_cons_succ, List.set_cons_zero, List.set_cons_succ, Option.some.injEq, L3.D.bl.injEq, L3.D.int.injEq, L3.D.ref.injEq, L3.D.tup.injEq, L3.D.ty.injEq, L3.D.str.injEq, List.cons.injEq, and_true, true_and, exists_eq_left, exists_eq_left', exists_eq, exists_eq', exists_and_left, exists_and_right, exists_const, and_assoc, exists_eq_right_right, exists_eq_right, ↓ite_both, decide_eq_true_eq, reduceCtorEq, false_and, and_false, exists_false, not_false_eq_true, not_true_eq_false, Bool.false_eq_true, implies_true, forall_const, true_implies, false_implies, Bool.not_eq_true, Bool.not_true, Bool.not_false, decide_true, decide_false, Bool.not_eq_true', Bool.not_eq_false', Bool.not_eq_false, if_true, if_false, Bool.and_true, Bool.true_and, Bool.and_false, Bool.false_and, r3Eq, r3Ne]
      refine ⟨_, eb, ?_⟩
      have e2 : (es.map (isNumB p)).all id = es.all (isNumB p) := by
        rw [List.all_map]
        rfl
      rw [e2]
      simp only [isPolyB] at q
      cases h : es.all (isNumB p) with
      | false =>
        rw [h, Bool.false_and] at q
        exact ⟨fun _ => ret_pure s1 q, fun z => (Bool.noConfusion z)⟩
      | true =>
        rw [h, Bool.true_and] at q
        refine ⟨fun z => (Bool.noConfusion z), fun _ => ⟨fun h0 => ret_pure s1 ?_, fun h0 => ?_⟩⟩
        · have : es = [] := List.length_eq_zero_iff.mp (by omega)
          subst this
          exact q
        · cases e : es.getLast? with
          | none =>
            rw [List.getLast?_eq_none_iff] at e
            subst e
            exact absurd rfl h0
          | some d =>
            obtain ⟨x, rfl, hx⟩ := nu_of hg.lt.1 (List.all_eq_true.mp h d (List.mem_of_getLast? e))
            obtain ⟨c, f, ey⟩ := nu_pair x
            have iz := (isZ_pair hx ey).2
            refine ⟨_, atI_last e, ?_⟩
            rw [ey]
            simp -implicitDefEqProofs only [iz, ↓ex_bl, ↓ex_int, ↓ex_str, ↓ex_ref, ↓ex_tup, ↓ex_some, ↓ex_eq, ↓ex_eq', ↓ex_1, ↓ex_2, ↓ex_3, ↓ex_4, ↓ex_5, ↓ite_tt, ↓ite_ff, ↓v3_0, ↓v3_s, ↓eq_int, ↓ne_int, ↓eq_bl, ↓ne_bl, ↓eq_pair, ↓ne_pair, eqv_bool, eqv_str, ↓pow_lit, ↓ix_t0, ↓ix_t1, ↓ix_tup, ↓ix_it, ↓q_tC3, ↓q_tOp3, ↓q_tUn3, ↓q_tTest3, ↓q_tChain3, ↓q_tTruth3, ↓q_tAnd3, ↓q_tOr3, ↓q_tNot3, ↓q_tAndV3, ↓q_tOrV3, ↓q_tNotV3, ↓q_tIf3, ↓q_tNil3, ↓q_tCons3, ↓q_tTup3, ↓q_tLst3, ↓q_tNoPart3, ↓q_tPart3, ↓q_tSl3, ↓q_tRev3, ↓r3Rev_tup, ↓r3IsNot_bl, ↓r3Is_bl, ↓r3Sl_tup, ↓c3List_tup, ↓c3List_ref, ↓q_tCB3, ↓q_tBM3, ↓q_tBM03, ↓q_tNext3, ↓q_tSeq3, ↓q_tDrop3, ↓q_tRet3, ↓q_tRetN3, ↓q_tIfS3, ↓q_gName3, ↓gnil_eq, ↓gcons_eq, ↓q_gTup3, ↓q_gSub3, ↓q_tAsg3, ↓q_tPar3, ↓q_tYes3, ↓q_tCall3, ↓q_tTryAs3, ↓q_goneE_nx, ↓q_goneE_rt, ↓q_c3IsE, ↓is_bl, ↓c3Str_int, ↓q_tRaise3, ↓q_spA0, ↓q_spA1, ↓q_spA2, ↓q_spA3, ↓q_spA4, ↓q_spA5, ↓q_endF_rt, ↓q_endF_nx, ↓q_endF_xx, r3Lt, r3Le, r3Gt, r3Ge, r3Mod, r3Div, r3Pow, r3Sub, ↓r3I_int, ↓r3I0_int, ↓r3Add_int, ↓r3Add_tup, ↓r3Add_ref, ↓r3Mul_int, ↓r3Mul_ref, datD_non, ↓datD_bl, ↓datD_int, eqv_int, ↓items_tup, ↓items_rol, ↓items_new, ↓len_new, ↓mupd_same, L3.MO.lst.injEq, List.length_cons, List.length_nil, Nat.reduceAdd, Nat.zero_add, sizeLine_eq, Nat.reduceLeDiff, Nat.reducePow, Int.reduceLT, Int.reduceLE, Int.reducePow, Int.reduceToNat, Int.reduceNeg, Int.reduceAdd, Int.cast_ofNat_Int, Int.reduceSub, Int.reduceMul, Nat.reduceMul, Nat.reduceLT, cpow_lit, List.length_append, List.length_map, ↓u3Neg_int, fdiv_pos, ↓q_tDict0, ix_1_0, ix_2_0, ix_2_1, ix_3_0, ix_3_1, ix_3_2, ix_4_0, ix_4_1, ix_4_2, ix_4_3, ix_5_0, ix_5_1, ix_5_2, ix_5_3, ix_5_4, decide_eq_false_iff_not, ↓lc_seq, ↓lc_r1, ↓lc_r2, ↓for_seq, ↓for_r1, ↓for_r2, ↓c3Tuple_it, ↓c3Min2_int, ↓c3Max2_int, ↓m3Pop_ref, ↓lc_zip, ↓for_zip, ↓lc_enum, ↓for_enum, ↓q_tAug3, r3AddI, ↓datD_pair, datD_pair, eqv_pair, ↓m3Index_ref, wipe3, ↓len_tup, ↓len_rol, ↓c3Len_tup, ↓c3Len_rol, ↓c3Len_ref, ↓c3Int_int, ↓c3Int_bl, ↓c3Abs_int, ↓c3All_ref, ↓c3Any_ref, ↓c3Isi_tl, ↓c3Isi_ty, ↓m3Append_ref, ↓s3Lst_ref, ↓r3Is_non, ↓r3IsNot_non, atI_0, atI_1, atI_2, atI_3, atI_4, tyD_tup, tyD_int, tyD_bl, mc_bool, mc_int, mc_str, mc_tuple, mc_list, mc_dict, ib_NoneType_bool, ib_NoneType_int, ib_NoneType_str, ib_NoneType_tuple, ib_NoneType_list, ib_NoneType_dict, ib_bool_bool, ib_bool_int, ib_bool_str, ib_bool_tuple, ib_bool_list, ib_bool_dict, ib_int_bool, ib_int_int, ib_int_str, ib_int_tuple, ib_int_list, ib_int_dict, ib_str_bool, ib_str_int, ib_str_str, ib_str_tuple, ib_str_list, ib_str_dict, ib_tuple_bool, ib_tuple_int, ib_tuple_str, ib_tuple_tuple, ib_tuple_list, ib_tuple_dict, ib_list_bool, ib_list_int, ib_list_str, ib_list_tuple, ib_list_list, ib_list_dict, ib_dict_bool, ib_dict_int, ib_dict_str, ib_dict_tuple, ib_dict_list, ib_dict_dict, tyD_str, tyD_non, tyD_rol, Bool.or_false, Bool.false_or, Bool.or_true, Bool.true_or, ↓truD_bl, ↓truD_int, List.getElem?_cons_zero, List.getElem?_cons_succ, List.set_cons_zero, List.set_cons_succ, Option.some.injEq, L3.D.bl.injEq, L3.D.int.injEq, L3.D.ref.injEq, L3.D.tup.injEq, L3.D.ty.injEq, L3.D.str.injEq, List.cons.injEq, and_true, true_and, exists_eq_left, exists_eq_left', exists_eq, exists_eq', exists_and_left, exists_and_right, exists_const, and_assoc, exists_eq_right_right, exists_eq_right, ↓ite_both, decide_eq_true_eq, reduceCtorEq, false_and, and_false, exists_false, not_false_eq_true, not_true_eq_false, Bool.false_eq_true, implies_true, forall_const, true_implies, false_implies, Bool.not_eq_true, Bool.not_true, Bool.not_false, decide_true, decide_false, Bool.not_eq_true', Bool.not_eq_false', Bool.not_eq_false, if_true, if_false, Bool.and_true, Bool.true_and, Bool.and_false, Bool.false_and, r3Eq, r3Ne]
            refine ret_pure s1 ?_
            unfold lastOk at q
            rw [e] at q
            rw [← isNoughtD_nu hx]
            exact q
  | _ => simp -implicitDefEqProofs only [isTupD, ↓ex_bl, ↓ex_int, ↓ex_str, ↓ex_ref, ↓ex_tup, ↓ex_some, ↓ex_eq, ↓ex_eq', ↓ex_1, ↓ex_2, ↓ex_3, ↓ex_4, ↓ex_5, ↓ite_tt, ↓ite_ff, ↓v3_0, ↓v3_s, ↓eq_int, ↓ne_int, ↓eq_bl, ↓ne_bl, ↓eq_pair, ↓ne_pair, eqv_bool, eqv_str, ↓pow_lit, ↓ix_t0, ↓ix_t1, ↓ix_tup, ↓ix_it, ↓q_tC3, ↓q_tOp3, ↓q_tUn3, ↓q_tTest3, ↓q_tChain3, ↓q_tTruth3, ↓q_tAnd3, ↓q_tOr3, ↓q_tNot3, ↓q_tAndV3, ↓q_tOrV3, ↓q_tNotV3, ↓q_tIf3, ↓q_tNil3, ↓q_tCons3, ↓q_tTup3, ↓q_tLst3, ↓q_tNoPart3, ↓q_tPart3, ↓q_tSl3, ↓q_tRev3, ↓r3Rev_tup, ↓r3IsNot_bl, ↓r3Is_bl, ↓r3Sl_tup, ↓c3List_tup, ↓c3List_ref, ↓q_tCB3, ↓q_tBM3, ↓q_tBM03, ↓q_tNext3, ↓q_tSeq3, ↓q_tDrop3, ↓q_tRet3, ↓q_tRetN3, ↓q_tIfS3, ↓q_gName3, ↓gnil_eq, ↓gcons_eq, ↓q_gTup3, ↓q_gSub3, ↓q_tAsg3, ↓q_tPar3, ↓q_tYes3, ↓q_tCall3, ↓q_tTryAs3, ↓q_goneE_nx, ↓q_goneE_rt, ↓q_c3IsE, ↓is_bl, ↓c3Str_int, ↓q_tRaise3, ↓q_spA0, ↓q_spA1, ↓q_spA2, ↓q_spA3, ↓q_spA4, ↓q_spA5, ↓q_endF_rt, ↓q_endF_nx, ↓q_endF_xx, r3Lt, r3Le, r3Gt, r3Ge, r3Mod, r3Div, r3Pow, r3Sub, ↓r3I_int, ↓r3I0_int, ↓r3Add_int, ↓r3Add_tup, ↓r3Add_ref, ↓r3Mul_int, ↓r3Mul_ref, datD_non, ↓datD_bl, ↓datD_int, eqv_int, ↓items_tup, ↓items_rol, ↓items_new, ↓len_new, ↓mupd_same, L3.MO.lst.injEq, List.length_cons, List.length_nil, Nat.reduceAdd, Nat.zero_add, sizeLine_eq, Nat.reduceLeDiff, Nat.reducePow, Int.reduceLT, Int.reduceLE, Int.reducePow, Int.reduceToNat, Int.reduceNeg, Int.reduceAdd, Int.cast_ofNat_Int, Int.reduceSub, Int.reduceMul, Nat.reduceMul, Nat.reduceLT, cpow_lit, List.length_append, List.length_map, ↓u3Neg_int, fdiv_pos, ↓q_tDict0, ix_1_0, ix_2_0, ix_2_1, ix_3_0, ix_3_1, ix_3_2, ix_4_0, ix_4_1, ix_4_2, ix_4_3, ix_5_0, ix_5_1, ix_5_2, ix_5_3, ix_5_4, decide_eq_false_iff_not, ↓lc_seq, ↓lc_r1, ↓lc_r2, ↓for_seq, ↓for_r1, ↓for_r2, ↓c3Tuple_it, ↓c3Min2_int, ↓c3Max2_int, ↓m3Pop_ref, ↓lc_zip, ↓for_zip, ↓lc_enum, ↓for_enum, ↓q_tAug3, r3AddI, ↓datD_pair, datD_pair, eqv_pair, ↓m3Index_ref, wipe3, ↓len_tup, ↓len_rol, ↓c3Len_tup, ↓c3Len_rol, ↓c3Len_ref, ↓c3Int_int, ↓c3Int_bl, ↓c3Abs_int, ↓c3All_ref, ↓c3Any_ref, ↓c3Isi_tl, ↓c3Isi_ty, ↓m3Append_ref, ↓s3Lst_ref, ↓r3Is_non, ↓r3IsNot_non, atI_0, atI_1, atI_2, atI_3, atI_4, tyD_tup, tyD_int, tyD_bl, mc_bool, mc_int, mc_str, mc_tuple, mc_list, mc_dict, ib_NoneType_bool, ib_NoneType_int, ib_NoneType_str, ib_NoneType_tuple, ib_NoneType_list, ib_NoneType_dict, ib_bool_bool, ib_bool_int, ib_bool_str, ib_bool_tuple, ib_bool_list, ib_bool_dict, ib_int_bool, ib_int_int, ib_int_str, ib_int_tuple, ib_int_list, ib_int_dict, ib_str_bool, ib_str_int, ib_str_str, ib_str_tuple, ib_str_list, ib_str_dict, ib_tuple_bool, ib_tuple_int, ib_tuple_str, ib_tuple_tuple, ib_tuple_list, ib_tuple_dict, ib_list_bool, ib_list_int, ib_list_str, ib_list_tuple, ib_list_list, ib_list_dict, ib_dict_bool, ib_dict_int, ib_dict_str, ib_dict_tuple, ib_dict_list, ib_dict_dict, tyD_str, tyD_non, tyD_rol, Bool.or_false, Bool.false_or, Bool.or_true, Bool.true_or, ↓truD_bl, ↓truD_int, List.getElem?_cons_zero, List.getElem?_cons_succ, List.set_cons_zero, List.set_cons_succ, Option.some.injEq, L3.D.bl.injEq, L3.D.int.injEq, L3.D.ref.injEq, L3.D.tup.injEq, L3.D.ty.injEq, L3.D.str.injEq, List.cons.injEq, and_true, true_and, exists_eq_left, exists_eq_left', exists_eq, exists_eq', exists_and_left, exists_and_right, exists_const, and_assoc, exists_eq_right_right, exists_eq_right, ↓ite_both, decide_eq_true_eq, reduceCtorEq, false_and, and_false, exists_false, not_false_eq_true, not_true_eq_false, Bool.false_eq_true, implies_true, forall_const, true_implies, false_implies, Bool.not_eq_true, Bool.not_true, Bool.not_false, decide_true, decide_false, Bool.not_eq_true', Bool.not_eq_false', Bool.not_eq_false, if_true, if_false, Bool.and_true, Bool.true_and, Bool.and_false, Bool.false_and, r3Eq, r3Ne]; exact ret_same q

def sp_law (K : PySem.W.Frag) : Sp3 := spA1 fun a M Q X => ∃ ns : List Int, a = .rol (ns.map D.int) ∧ ∀ M', Q (.bl true) M'
abbrev N_law : List Str := ["script", "hand", "turn", "ground", "one", "other", "told", "due", "point", "worth", "again", "thing", "flag"]
def tr_law (K : PySem.W.Frag) : TS3 := (tSeq3 (tAsg3 (tCall3 (sp__law_hand K) (tCons3 (tVar3 0) tNil3)) (gName3 1)) (tSeq3 (tFor3 (iRng13 (tCons3 (tC3 (.int 10)) tNil3)) (gName3 2) (tSeq3 (tAsg3 (tCall3 (sp__law_ground K) (tCons3 (tVar3 1) tNil3)) (gName3 3)) (tSeq3 (tPar3 4 5 (tCons3 (tCall3 (sp__law_poly K) (tCons3 (tVar3 1) (tCons3 (tVar3 3) tNil3))) (tCons3 (tCall3 (sp__law_poly K) (tCons3 (tVar3 1) (tCons3 (tVar3 3) tNil3))) tNil3))) (tSeq3 (tPar3 6 7 (tCons3 (tCall3 (sp_multiplied K) (tCons3 (tVar3 3) (tCons3 (tVar3 4) (tCons3 (tVar3 5) tNil3)))) (tCons3 (tCall3 (sp__law_product K) (tCons3 (tVar3 3) (tCons3 (tVar3 4) (tCons3 (tVar3 5) tNil3)))) tNil3))) (tSeq3 (tIfS3 (tOr3 (tNot3 (tTruth3 (tCall3 (sp__law_same K) (tCons3 (tVar3 6) (tCons3 (tVar3 7) tNil3))))) (tNot3 (tTruth3 (tCall3 (sp__law_same K) (tCons3 (tCall3 (sp_multiplied K) (tCons3 (tVar3 3) (tCons3 (tVar3 5) (tCons3 (tVar3 4) tNil3)))) (tCons3 (tVar3 7) tNil3)))))) (tRet3 (tC3 (.bl false))) tNext3) (tSeq3 (tAsg3 (tCall3 (sp__law_number K) (tCons3 (tVar3 1) (tCons3 (tVar3 3) tNil3))) (gName3 8)) (tSeq3 (tAsg3 (tCall3 (sp__law_mul K) (tCons3 (tVar3 3) (tCons3 (tCall3 (sp__law_worth K) (tCons3 (tVar3 3) (tCons3 (tVar3 4) (tCons3 (tVar3 8) tNil3)))) (tCons3 (tCall3 (sp__law_worth K) (tCons3 (tVar3 3) (tCons3 (tVar3 5) (tCons3 (tVar3 8) tNil3)))) tNil3)))) (gName3 9)) (tSeq3 (tIfS3 (tTest3 (tOp3 r3Ne (tCall3 (sp__law_worth K) (tCons3 (tVar3 3) (tCons3 (tVar3 6) (tCons3 (tVar3 8) tNil3)))) (tVar3 9))) (tRet3 (tC3 (.bl false))) tNext3) (tSeq3 (tFor3 (iRng13 (tCons3 (tC3 (.int 4)) tNil3)) (gName3 10) (tSeq3 (tAsg3 (tCall3 (sp__law_bent K) (tCons3 (tVar3 1) (tCons3 (tVar3 3) (tCons3 (tVar3 4) tNil3)))) (gName3 11)) (tSeq3 (tAsg3 (tCall3 (sp_is_polynomial K) (tCons3 (tVar3 3) (tCons3 (tVar3 11) tNil3))) (gName3 12)) (tIfS3 (tOr3 (tNot3 (tTruth3 (tCB3 c3Isi (tCons3 (tVar3 12) (tCons3 (tC3 (.ty "bool")) tNil3))))) (tTest3 (tOp3 r3Ne (tVar3 12) (tCall3 (sp__law_is_poly K) (tCons3 (tVar3 3) (tCons3 (tVar3 11) tNil3)))))) (tRet3 (tC3 (.bl false))) tNext3)))) (tIfS3 (tOr3 (tTest3 (tOp3 r3IsNot (tCall3 (sp_is_polynomial K) (tCons3 (tVar3 3) (tCons3 (tVar3 4) tNil3))) (tC3 (.bl true)))) (tTest3 (tOp3 r3IsNot (tCall3 (sp_is_polynomial K) (tCons3 (tVar3 3) (tCons3 (tVar3 6) tNil3))) (tC3 (.bl true))))) (tRet3 (tC3 (.bl false))) tNext3)))))))))) (tRet3 (tC3 (.bl true)))))
theorem same_poly {M : Mm} {n : Nat} {xs : List Nu} (h : xs.length ≤ sizeLine) : SameV M (n + 3) (polyD xs) (polyD xs) := .inr (.inl ⟨_, _, rfl, rfl, rfl, by rw [List.length_map]; exact h, fun k x y h1 h2 => by
  rw [h1] at h2
  cases h2
  obtain ⟨z, _, rfl⟩ := List.mem_map.mp (List.mem_of_getElem? h1)
  obtain ⟨i, j, e⟩ := nu_pair z
  rw [e]
  exact .pair⟩)
theorem polyD_inj {p : Int} {xs ys : List Nu} (hx : ∀ x ∈ xs, NuOk p x) (hy : ∀ x ∈ ys, NuOk p x) (h : polyD xs = polyD ys) : xs = ys := by
  have h' : xs.map nuD = ys.map nuD := D.tup.inj h
  clear h
  induction xs generalizing ys with
  | nil =>
    cases ys with
    | nil => rfl
    | cons y ys => cases h'
  | cons x xs ih =>
    cases ys with
    | nil => cases h'
    | cons y ys =>
      rw [List.map_cons, List.map_cons] at h'
      injection h' with e1 e2
      rw [nuD_inj (hx x List.mem_cons_self) (hy y List.mem_cons_self) e1, ih (fun z hz => hx z (List.mem_cons_of_mem _ hz)) (fun z hz => hy z (List.mem_cons_of_mem _ hz)) e2]
theorem mul_use {K : PySem.W.Frag} {p : Int} {xs ys : List Nu} {M : Mm} {Q : VK3} {X : XK3} (hg : Gd p) (hx : PolyOk p xs) (hy : PolyOk p ys) (lx : xs.length ≤ 11) (ly : ys.length ≤ 11) (zx : ∀ x ∈ xs, Sz 5 x) (zy : ∀ x ∈ ys, Sz 5 x) (q : Q (polyD (mulL p xs ys)) M) : sp_multiplied K [.int p, polyD xs, polyD ys] M Q X := by
  refine ⟨_, _, _, rfl, hasTy_int, tyA_poly (by omega), tyA_poly (by omega), fun h => ?_, fun p' e g' h => ?_, fun p' xs' ys' e g' e1 e2 hx' hy' => ?_⟩
  · rw [hg.gr] at h
    cases h
  · cases e
    rw [isPoly_poly hx, isPoly_poly hy] at h
    cases h
  · cases e
    have := polyD_inj hx.all hx'.all e1
    subst this
    have := polyD_inj hy.all hy'.all e2
    subst this
    refine ⟨⟨4, 4, zx, zy, ?_, by omega⟩, ?_⟩
    · have : (xs.length + 2) * (4 + 4 + 3) ≤ 13 * 11 := Nat.mul_le_mul (by omega) (by decide)
      omega
    · rw [trimL_of (mul_poly hg hx hy)]
      exact q
theorem pr_use {K : PySem.W.Frag} {p : Int} {xs ys : List Nu} {M : Mm} {Q : VK3} {X : XK3} (hg : Gd p) (hx : PolyOk p xs) (hy : PolyOk p ys) (lx : xs.length ≤ 11) (ly : ys.length ≤ 11) (zx : ∀ x ∈ xs, Sz 5 x) (zy : ∀ x ∈ ys, Sz 5 x) (q : Q (polyD (mulL p xs ys)) M) : sp__law_product K [.int p, polyD xs, polyD ys] M Q X := by
  refine ⟨_, _, _, rfl, p, rfl, xs, rfl, ys, rfl, hg, hx.all, hy.all, ⟨4, 4, zx, zy, ?_, by omega⟩, q⟩
  have : (xs.length + 2) * (4 + 4 + 3) ≤ 13 * 11 := Nat.mul_le_mul (by omega) (by decide)
  omega
theorem worth_use {K : PySem.W.Frag} {p : Int} {xs : List Nu} {y : Nu} {M : Mm} {Q : VK3} {X : XK3} (hg : Gd p) (hx : ∀ x ∈ xs, NuOk p x) (hy : NuOk p y) (lx : xs.length ≤ 22) (zx : ∀ x ∈ xs, Sz 122 x) (zy : Sz 5 y) (q : Q (nuD (worthN p y xs)) M) : sp__law_worth K [.int p, polyD xs, nuD y] M Q X := by
  refine ⟨_, _, _, rfl, p, rfl, xs, rfl, y, rfl, hg, hx, hy, ⟨122, 5, zx, zy, ?_⟩, q⟩
  have : (xs.length + 2) * (122 + 5 + 1) ≤ 24 * 128 := Nat.mul_le_mul (by omega) (by decide)
  omega
theorem isp_use {K : PySem.W.Frag} {p : Int} {d : D} {M : Mm} {Q : VK3} {X : XK3} (hg : Gd p) (t : tyA M d) (q : Q (.bl (isPolyB p d)) M) : sp_is_polynomial K [.int p, d] M Q X := by
  refine ⟨_, _, rfl, hasTy_int, t, fun p' e g' => ?_, fun h => ?_⟩
  · cases e
    exact q
  · rw [hg.gr] at h
    cases h
theorem worth_sz {p : Int} {xs : List Nu} {y : Nu} {s t : Nat} (hx : ∀ x ∈ xs, Sz s x) (hy : Sz t y) : Sz (xs.length * (s + t + 1) + 1) (worthN p y xs) := by
  unfold worthN
  rw [List.foldl_reverse]
  induction xs with
  | nil => exact zero_sz (n := 0) |>.mono (by omega)
  | cons x xs ih =>
    rw [List.foldr_cons, List.length_cons]
    have := sz_add (p := p) (sz_mul (p := p) (ih fun z hz => hx z (List.mem_cons_of_mem _ hz)) hy) (hx x List.mem_cons_self)
    refine this.mono ?_
    rw [Nat.succ_mul]
    omega
theorem rd_law (K : PySem.W.Frag) : ∀ ds M Q E, sp_law K ds M Q E → tr_law K (endF M Q E) (start3 N_law ds) M := by
  rintro ds M Q E ⟨a, rfl, ns, rfl, q⟩
  unfold tr_law
  simp only [start3, List.map_cons, List.map_nil, List.length_cons, List.length_nil, List.cons_append, List.nil_append, List.replicate_succ, List.replicate_zero, Nat.reduceAdd, Nat.reduceSub, Nat.zero_add]
  simp -implicitDefEqProofs only [sp__law_hand, ↓ex_bl, ↓ex_int, ↓ex_str, ↓ex_ref, ↓ex_tup, ↓ex_some, ↓ex_eq, ↓ex_eq', ↓ex_1, ↓ex_2, ↓ex_3, ↓ex_4, ↓ex_5, ↓ite_tt, ↓ite_ff, ↓v3_0, ↓v3_s, ↓eq_int, ↓ne_int, ↓eq_bl, ↓ne_bl, ↓eq_pair, ↓ne_pair, eqv_bool, eqv_str, ↓pow_lit, ↓ix_t0, ↓ix_t1, ↓ix_tup, ↓ix_it, ↓q_tC3, ↓q_tOp3, ↓q_tUn3, ↓q_tTest3, ↓q_tChain3, ↓q_tTruth3, ↓q_tAnd3, ↓q_tOr3, ↓q_tNot3, ↓q_tAndV3, ↓q_tOrV3, ↓q_tNotV3, ↓q_tIf3, ↓q_tNil3, ↓q_tCons3, ↓q_tTup3, ↓q_tLst3, ↓q_tNoPart3, ↓q_tPart3, ↓q_tSl3, ↓q_tRev3, ↓r3Rev_tup, ↓r3IsNot_bl, ↓r3Is_bl, ↓r3Sl_tup, ↓c3List_tup, ↓c3List_ref, ↓q_tCB3, ↓q_tBM3, ↓q_tBM03, ↓q_tNext3, ↓q_tSeq3, ↓q_tDrop3, ↓q_tRet3, ↓q_tRetN3, ↓q_tIfS3, ↓q_gName3, ↓gnil_eq, ↓gcons_eq, ↓q_gTup3, ↓q_gSub3, ↓q_tAsg3, ↓q_tPar3, ↓q_tYes3, ↓q_tCall3, ↓q_tTryAs3, ↓q_goneE_nx, ↓q_goneE_rt, ↓q_c3IsE, ↓is_bl, ↓c3Str_int, ↓q_tRaise3, ↓q_spA0, ↓q_spA1, ↓q_spA2, ↓q_spA3, ↓q_spA4, ↓q_spA5, ↓q_endF_rt, ↓q_endF_nx, ↓q_endF_xx, r3Lt, r3Le, r3Gt, r3Ge, r3Mod, r3Div, r3Pow, r3Sub, ↓r3I_int, ↓r3I0_int, ↓r3Add_int, ↓r3Add_tup, ↓r3Add_ref, ↓r3Mul_int, ↓r3Mul_ref, datD_non, ↓datD_bl, ↓datD_int, eqv_int, ↓items_tup, ↓items_rol, ↓items_new, ↓len_new, ↓mupd_same, L3.MO.lst.injEq, List.length_cons, List.length_nil, Nat.reduceAdd, Nat.zero_add, sizeLine_eq, Nat.reduceLeDiff, Nat.reducePow, Int.reduceLT, Int.reduceLE, Int.reducePow, Int.reduceToNat, Int.reduceNeg, Int.reduceAdd, Int.cast_ofNat_Int, Int.reduceSub, Int.reduceMul, Nat.reduceMul, Nat.reduceLT, cpow_lit, List.length_append, List.length_map, ↓u3Neg_int, fdiv_pos, ↓q_tDict0, ix_1_0, ix_2_0, ix_2_1, ix_3_0, ix_3_1, ix_3_2, ix_4_0, ix_4_1, ix_4_2, ix_4_3, ix_5_0, ix_5_1, ix_5_2, ix_5_3, ix_5_4, decide_eq_false_iff_not, ↓lc_seq, ↓lc_r1, ↓lc_r2, ↓for_seq, ↓for_r1, ↓for_r2, ↓c3Tuple_it, ↓c3Min2_int, ↓c3Max2_int, ↓m3Pop_ref, ↓lc_zip, ↓for_zip, ↓lc_enum, ↓for_enum, ↓q_tAug3, r3AddI, ↓datD_pair, datD_pair, eqv_pair, ↓m3Index_ref, wipe3, ↓len_tup, ↓len_rol, ↓c3Len_tup, ↓c3Len_rol, ↓c3Len_ref, ↓c3Int_int, ↓c3Int_bl, ↓c3Abs_int, ↓c3All_ref, ↓c3Any_ref, ↓c3Isi_tl, ↓c3Isi_ty, ↓m3Append_ref, ↓s3Lst_ref, ↓r3Is_non, ↓r3IsNot_non, atI_0, atI_1, atI_2, atI_3, atI_4, tyD_tup, tyD_int, tyD_bl, mc_bool, mc_int, mc_str, mc_tuple, mc_list, mc_dict, ib_NoneType_bool, ib_NoneType_int, ib_NoneType_str, ib_NoneType_tuple, ib_NoneType_list, ib_NoneType_dict, ib_bool_bool, ib_bool_int, ib_bool_str, ib_bool_tuple, ib_bool_list, ib_bool_dict, ib_int_bool, ib_int_int, ib_int_str, ib_int_tuple, ib_int_list, ib_int_dict, ib_str_bool, ib_str_int, ib_str_str, ib_str_tuple, ib_str_list, ib_str_dict, ib_tuple_bool, ib_tuple_int, ib_tuple_str, ib_tuple_tuple, ib_tuple_list, ib_tuple_dict, ib_list_bool, ib_list_int, ib_list_str, ib_list_tuple, ib_list_list, ib_list_dict, ib_dict_bool, ib_dict_int, ib_dict_str, ib_dict_tuple, ib_dict_list, ib_dict_dict, tyD_str, tyD_non, tyD_rol, Bool.or_false, Bool.false_or, Bool.or_true, Bool.true_or, ↓truD_bl, ↓truD_int, List.getElem?_cons_zero, List.getElem?_cons_succ, List.set_cons_zero, List.set_cons_succ, Option.some.injEq, L3.D.bl.injEq, L3.D.int.injEq, L3.D.ref.injEq, L3.D.tup.injEq, L3.D.ty.injEq, L3.D.str.injEq, List.cons.injEq, and_true, true_and, exists_eq_left, exists_eq_left', exists_eq, exists_eq', exists_and_left, exists_and_right, exists_const, and_assoc, exists_eq_right_right, exists_eq_right, ↓ite_both, decide_eq_true_eq, reduceCtorEq, false_and, and_false, exists_false, not_false_eq_true, not_true_eq_false, Bool.false_eq_true, implies_true, forall_const, true_implies, false_implies, Bool.not_eq_true, Bool.not_true, Bool.not_false, decide_true, decide_false, Bool.not_eq_true', Bool.not_eq_false', Bool.not_eq_false, if_true, if_false, Bool.and_true, Bool.true_and, Bool.and_false, Bool.false_and, r3Eq, r3Ne]
  refine ⟨⟨ns, rfl⟩, fun h M1 h0 s0 hk => ?_⟩
  refine forB_h hk (fun i σ M' => ∃ v2 v3 v4 v5 v6 v7 v8 v9 v10 v11 v12, σ = [some (.rol (ns.map D.int)), some (.ref h), v2, v3, v4, v5, v6, v7, v8, v9, v10, v11, v12]) ⟨_, _, _, _, _, _, _, _, _, _, _, rfl⟩ (fun _ _ _ _ _ => trivial) ?_ ?_
  · rintro i d σ' M2 N hd - s2 ⟨v2, v3, v4, v5, v6, v7, v8, v9, v10, v11, v12, rfl⟩ n
    simp -implicitDefEqProofs only [sp__law_ground, ↓ex_bl, ↓ex_int, ↓ex_str, ↓ex_ref, ↓ex_tup, ↓ex_some, ↓ex_eq, ↓ex_eq', ↓ex_1, ↓ex_2, ↓ex_3, ↓ex_4, ↓ex_5, ↓ite_tt, ↓ite_ff, ↓v3_0, ↓v3_s, ↓eq_int, ↓ne_int, ↓eq_bl, ↓ne_bl, ↓eq_pair, ↓ne_pair, eqv_bool, eqv_str, ↓pow_lit, ↓ix_t0, ↓ix_t1, ↓ix_tup, ↓ix_it, ↓q_tC3, ↓q_tOp3, ↓q_tUn3, ↓q_tTest3, ↓q_tChain3, ↓q_tTruth3, ↓q_tAnd3, ↓q_tOr3, ↓q_tNot3, ↓q_tAndV3, ↓q_tOrV3, ↓q_tNotV3, ↓q_tIf3, ↓q_tNil3, ↓q_tCons3, ↓q_tTup3, ↓q_tLst3, ↓q_tNoPart3, ↓q_tPart3, ↓q_tSl3, ↓q_tRev3, ↓r3Rev_tup, ↓r3IsNot_bl, ↓r3Is_bl, ↓r3Sl_tup, ↓c3List_tup, ↓c3List_ref, ↓q_tCB3, ↓q_tBM3, ↓q_tBM03, ↓q_tNext3, ↓q_tSeq3, ↓q_tDrop3, ↓q_tRet3, ↓q_tRetN3, ↓q_tIfS3, ↓q_gName3, ↓gnil_eq, ↓gcons_eq, ↓q_gTup3, ↓q_gSub3, ↓q_tAsg3, ↓q_tPar3, ↓q_tYes3, ↓q_tCall3, ↓q_tTryAs3, ↓q_goneE_nx, ↓q_goneE_rt, ↓q_c3IsE, ↓is_bl, ↓c3Str_int, ↓q_tRaise3, ↓q_spA0, ↓q_spA1, ↓q_spA2, ↓q_spA3, ↓q_spA4, ↓q_spA5, ↓q_endF_rt, ↓q_endF_nx, ↓q_endF_xx, r3Lt, r3Le, r3Gt, r3Ge, r3Mod, r3Div, r3Pow, r3Sub, ↓r3I_int, ↓r3I0_int, ↓r3Add_int, ↓r3Add_tup, ↓r3Add_ref, ↓r3Mul_int, ↓r3Mul_ref, datD_non, ↓datD_bl, ↓datD_int, eqv_int, ↓items_tup, ↓items_rol, ↓items_new, ↓len_new, ↓mupd_same, L3.MO.lst.injEq, List.length_cons, List.length_nil, Nat.reduceAdd, Nat.zero_add, sizeLine_eq, Nat.reduceLeDiff, Nat.reducePow, Int.reduceLT, Int.reduceLE, Int.reducePow, Int.reduceToNat, Int.reduceNeg, Int.reduceAdd, Int.cast_ofNat_Int, Int.reduceSub, Int.reduceMul, Nat.reduceMul, Nat.reduceLT, cpow_lit, List.length_append, List.length_map, ↓u3Neg_int, fdiv_pos, ↓q_tDict0, ix_1_0, ix_2_0, ix_2_1, ix_3_0, ix_3_1, ix_3_2, ix_4_0, ix_4_1, ix_4_2, ix_4_3, ix_5_0, ix_5_1, ix_5_2, ix_5_3, ix_5_4, decide_eq_false_iff_not, ↓lc_seq, ↓lc_r1, ↓lc_r2, ↓for_seq, ↓for_r1, ↓for_r2, ↓c3Tuple_it, ↓c3Min2_int, ↓c3Max2_int, ↓m3Pop_ref, ↓lc_zip, ↓for_zip, ↓lc_enum, ↓for_enum, ↓q_tAug3, r3AddI, ↓datD_pair, datD_pair, eqv_pair, ↓m3Index_ref, wipe3, ↓len_tup, ↓len_rol, ↓c3Len_tup, ↓c3Len_rol, ↓c3Len_ref, ↓c3Int_int, ↓c3Int_bl, ↓c3Abs_int, ↓c3All_ref, ↓c3Any_ref, ↓c3Isi_tl, ↓c3Isi_ty, ↓m3Append_ref, ↓s3Lst_ref, ↓r3Is_non, ↓r3IsNot_non, atI_0, atI_1, atI_2, atI_3, atI_4, tyD_tup, tyD_int, tyD_bl, mc_bool, mc_int, mc_str, mc_tuple, mc_list, mc_dict, ib_NoneType_bool, ib_NoneType_int, ib_NoneType_str, ib_NoneType_tuple, ib_NoneType_list, ib_NoneType_dict, ib_bool_bool, ib_bool_int, ib_bool_str, ib_bool_tuple, ib_bool_list, ib_bool_dict, ib_int_bool, ib_int_int, ib_int_str, ib_int_tuple, ib_int_list, ib_int_dict, ib_str_bool, ib_str_int, ib_str_str, ib_str_tuple, ib_str_list, ib_str_dict, ib_tuple_bool, ib_tuple_int, ib_tuple_str, ib_tuple_tuple, ib_tuple_list, ib_tuple_dict, ib_list_bool, ib_list_int, ib_list_str, ib_list_tuple, ib_list_list, ib_list_dict, ib_dict_bool, ib_dict_int, ib_dict_str, ib_dict_tuple, ib_dict_list, ib_dict_dict, tyD_str, tyD_non, tyD_rol, Bool.or_false, Bool.false_or, Bool.or_true, Bool.true_or, ↓truD_bl, ↓truD_int, List.getElem?_cons_zero, List.getElem?_cons_succ, List.set_cons_zero, List.set_cons_succ, Option.some.injEq, L3.D.bl.injEq, L3.D.int.injEq, L3.D.ref.injEq, L3.D.tup.injEq, L3.D.ty.injEq, L3.D.str.injEq, List.cons.injEq, and_true, true_and, exists_eq_left, exists_eq_left', exists_eq, exists_eq', exists_and_left, exists_and_right, exists_const, and_assoc, exists_eq_right_right, exists_eq_right, ↓ite_both, decide_eq_true_eq, reduceCtorEq, false_and, and_false, exists_false, not_false_eq_true, not_true_eq_false, Bool.false_eq_true, implies_true, forall_const, true_implies, false_implies, Bool.not_eq_true, Bool.not_true, Bool.not_false, decide_true, decide_false, Bool.not_eq_true', Bool.not_eq_false', Bool.not_eq_false, if_true, if_false, Bool.and_true, Bool.true_and, Bool.and_false, Bool.false_and, r3Eq, r3Ne]
    refine ⟨s2.ok, fun p M3 hp s3 => ?_⟩
    have hg : Gd p := hp
    simp -implicitDefEqProofs only [sp__law_poly, ↓ex_bl, ↓ex_int, ↓ex_str, ↓ex_ref, ↓ex_tup, ↓ex_some, ↓ex_eq, ↓ex_eq', ↓ex_1, ↓ex_2, ↓ex_3, ↓ex_4, ↓ex_5, ↓ite_tt, ↓ite_ff, ↓v3_0, ↓v3_s, ↓eq_int, ↓ne_int, ↓eq_bl, ↓ne_bl, ↓eq_pair, ↓ne_pair, eqv_bool, eqv_str, ↓pow_lit, ↓ix_t0, ↓ix_t1, ↓ix_tup, ↓ix_it, ↓q_tC3, ↓q_tOp3, ↓q_tUn3, ↓q_tTest3, ↓q_tChain3, ↓q_tTruth3, ↓q_tAnd3, ↓q_tOr3, ↓q_tNot3, ↓q_tAndV3, ↓q_tOrV3, ↓q_tNotV3, ↓q_tIf3, ↓q_tNil3, ↓q_tCons3, ↓q_tTup3, ↓q_tLst3, ↓q_tNoPart3, ↓q_tPart3, ↓q_tSl3, ↓q_tRev3, ↓r3Rev_tup, ↓r3IsNot_bl, ↓r3Is_bl, ↓r3Sl_tup, ↓c3List_tup, ↓c3List_ref, ↓q_tCB3, ↓q_tBM3, ↓q_tBM03, ↓q_tNext3, ↓q_tSeq3, ↓q_tDrop3, ↓q_tRet3, ↓q_tRetN3, ↓q_tIfS3, ↓q_gName3, ↓gnil_eq, ↓gcons_eq, ↓q_gTup3, ↓q_gSub3, ↓q_tAsg3, ↓q_tPar3, ↓q_tYes3, ↓q_tCall3, ↓q_tTryAs3, ↓q_goneE_nx, ↓q_goneE_rt, ↓q_c3IsE, ↓is_bl, ↓c3Str_int, ↓q_tRaise3, ↓q_spA0, ↓q_spA1, ↓q_spA2, ↓q_spA3, ↓q_spA4, ↓q_spA5, ↓q_endF_rt, ↓q_endF_nx, ↓q_endF_xx, r3Lt, r3Le, r3Gt, r3Ge, r3Mod, r3Div, r3Pow, r3Sub, ↓r3I_int, ↓r3I0_int, ↓r3Add_int, ↓r3Add_tup, ↓r3Add_ref, ↓r3Mul_int, ↓r3Mul_ref, datD_non, ↓datD_bl, ↓datD_int, eqv_int, ↓items_tup, ↓items_rol, ↓items_new, ↓len_new, ↓mupd_same, L3.MO.lst.injEq, List.length_cons, List.length_nil, Nat.reduceAdd, Nat.zero_add, sizeLine_eq, Nat.reduceLeDiff, Nat.reducePow, Int.reduceLT, Int.reduceLE, Int.reducePow, Int.reduceToNat, Int.reduceNeg, Int.reduceAdd, Int.cast_ofNat_Int, Int.reduceSub, Int.reduceMul, Nat.reduceMul, Nat.reduceLT, cpow_lit, List.length_append, List.length_map, ↓u3Neg_int, fdiv_pos, ↓q_tDict0, ix_1_0, ix_2_0, ix_2_1, ix_3_0, ix_3_1, ix_3_2, ix_4_0, ix_4_1, ix_4_2, ix_4_3, ix_5_0, ix_5_1, ix_5_2, ix_5_3, ix_5_4, decide_eq_false_iff_not, ↓lc_seq, ↓lc_r1, ↓lc_r2, ↓for_seq, ↓for_r1, ↓for_r2, ↓c3Tuple_it, ↓c3Min2_int, ↓c3Max2_int, ↓m3Pop_ref, ↓lc_zip, ↓for_zip, ↓lc_enum, ↓for_enum, ↓q_tAug3, r3AddI, ↓datD_pair, datD_pair, eqv_pair, ↓m3Index_ref, wipe3, ↓len_tup, ↓len_rol, ↓c3Len_tup, ↓c3Len_rol, ↓c3Len_ref, ↓c3Int_int, ↓c3Int_bl, ↓c3Abs_int, ↓c3All_ref, ↓c3Any_ref, ↓c3Isi_tl, ↓c3Isi_ty, ↓m3Append_ref, ↓s3Lst_ref, ↓r3Is_non, ↓r3IsNot_non, atI_0, atI_1, atI_2, atI_3, atI_4, tyD_tup, tyD_int, tyD_bl, mc_bool, mc_int, mc_str, mc_tuple, mc_list, mc_dict, ib_NoneType_bool, ib_NoneType_int, ib_NoneType_str, ib_NoneType_tuple, ib_NoneType_list, ib_NoneType_dict, ib_bool_bool, ib_bool_int, ib_bool_str, ib_bool_tuple, ib_bool_list, ib_bool_dict, ib_int_bool, ib_int_int, ib_int_str, ib_int_tuple, ib_int_list, ib_int_dict, ib_str_bool, ib_str_int, ib_str_str, ib_str_tuple, ib_str_list, ib_str_dict, ib_tuple_bool, ib_tuple_int, ib_tuple_str, ib_tuple_tuple, ib_tuple_list, ib_tuple_dict, ib_list_bool, ib_list_int, ib_list_str, ib_list_tuple, ib_list_list, ib_list_dict, ib_dict_bool, ib_dict_int, ib_dict_str, ib_dict_tuple, ib_dict_list, ib_dict_dict, tyD_str, tyD_non, tyD_rol, Bool.or_false, Bool.false_or, Bool.or_true, Bool.true_or, ↓truD_bl, ↓truD_int, List.getElem?_cons_zero, List.getElem?_cons_succ, List.set_cons_zero, List.set_cons_succ, Option.some.injEq, L3.D.bl.injEq, L3.D.int.injEq, L3.D.ref.injEq, L3.D.tup.injEq, L3.D.ty.injEq, L3.D.str.injEq, List.cons.injEq, and_true, true_and, exists_eq_left, exists_eq_left', exists_eq, exists_eq', exists_and_left, exists_and_right, exists_const, and_assoc, exists_eq_right_right, exists_eq_right, ↓ite_both, decide_eq_true_eq, reduceCtorEq, false_and, and_false, exists_false, not_false_eq_true, not_true_eq_false, Bool.false_eq_true, implies_true, forall_const, true_implies, false_implies, Bool.not_eq_true, Bool.not_true, Bool.not_false, decide_true, decide_false, Bool.not_eq_true', Bool.not_eq_false', Bool.not_eq_false, if_true, if_false, Bool.and_true, Bool.true_and, Bool.and_false, Bool.false_and, r3Eq, r3Ne]
    refine ⟨hg, s3.ok, fun xs M4 hx lx zx s4 => ⟨hg, s4.ok, fun ys M5 hy ly zy s5 => ?_⟩⟩
    have hm := mul_poly hg hx hy
    have lm : (mulL p xs ys).length ≤ 22 := by
      unfold mulL
      split
      · exact Nat.zero_le _
      · rw [List.length_map, List.length_range]; omega
    have zm : ∀ x ∈ mulL p xs ys, Sz 122 x := fun x hx' => by
      unfold mulL at hx'
      split at hx'
      · cases hx'
      · obtain ⟨t, _, rfl⟩ := List.mem_map.mp hx'
        have := coef_sz (p := p) (s := 4) (t := 4) zx zy xs.length t
        refine this.mono ?_
        have : xs.length * (4 + 4 + 3) ≤ 11 * 11 := Nat.mul_le_mul lx (by decide)
        omega
    refine mul_use hg hx hy lx ly zx zy ?_
    refine pr_use hg hx hy lx ly zx zy ?_
    have same : SameV M5 40 (polyD (mulL p xs ys)) (polyD (mulL p xs ys)) := same_poly (n := 37) (Nat.le_trans (show _ ≤ 22 from lm) (by decide))
    refine ⟨_, _, rfl, same, ?_⟩
    simp -implicitDefEqProofs only [↓ex_bl, ↓ex_int, ↓ex_str, ↓ex_ref, ↓ex_tup, ↓ex_some, ↓ex_eq, ↓ex_eq', ↓ex_1, ↓ex_2, ↓ex_3, ↓ex_4, ↓ex_5, ↓ite_tt, ↓ite_ff, ↓v3_0, ↓v3_s, ↓eq_int, ↓ne_int, ↓eq_bl, ↓ne_bl, ↓eq_pair, ↓ne_pair, eqv_bool, eqv_str, ↓pow_lit, ↓ix_t0, ↓ix_t1, ↓ix_tup, ↓ix_it, ↓q_tC3, ↓q_tOp3, ↓q_tUn3, ↓q_tTest3, ↓q_tChain3, ↓q_tTruth3, ↓q_tAnd3, ↓q_tOr3, ↓q_tNot3, ↓q_tAndV3, ↓q_tOrV3, ↓q_tNotV3, ↓q_tIf3, ↓q_tNil3, ↓q_tCons3, ↓q_tTup3, ↓q_tLst3, ↓q_tNoPart3, ↓q_tPart3, ↓q_tSl3, ↓q_tRev3, ↓r3Rev_tup, ↓r3IsNot_bl, ↓r3Is_bl, ↓r3Sl_tup, ↓c3List_tup, ↓c3List_ref, ↓q_tCB3, ↓q_tBM3, ↓q_tBM03, ↓q_tNext3, ↓q_tSeq3, ↓q_tDrop3, ↓q_tRet3, ↓q_tRetN3, ↓q_tIfS3, ↓q_gName3, ↓gnil_eq, ↓gcons_eq, ↓q_gTup3, ↓q_gSub3, ↓q_tAsg3, ↓q_tPar3, ↓q_tYes3, ↓q_tCall3, ↓q_tTryAs3, ↓q_goneE_nx, ↓q_goneE_rt, ↓q_c3IsE, ↓is_bl, ↓c3Str_int, ↓q_tRaise3, ↓q_spA0, ↓q_spA1, ↓q_spA2, ↓q_spA3, ↓q_spA4, ↓q_spA5, ↓q_endF_rt, ↓q_endF_nx, ↓q_endF_xx, r3Lt, r3Le, r3Gt, r3Ge, r3Mod, r3Div, r3Pow, r3Sub, ↓r3I_int, ↓r3I0_int, ↓r3Add_int, ↓r3Add_tup, ↓r3Add_ref, ↓r3Mul_int, ↓r3Mul_ref, datD_non, ↓datD_bl, ↓datD_int, eqv_int, ↓items_tup, ↓items_rol, ↓items_new, ↓len_new, ↓mupd_same, L3.MO.lst.injEq, List.length_cons, List.length_nil, Nat.reduceAdd, Nat.zero_add, sizeLine_eq, Nat.reduceLeDiff, Nat.reducePow, Int.reduceLT, Int.reduceLE, Int.reducePow, Int.reduceToNat, Int.reduceNeg, Int.reduceAdd, Int.cast_ofNat_Int, Int.reduceSub, Int.reduceMul, Nat.reduceMul, Nat.reduceLT, cpow_lit, List.length_append, List.length_map, ↓u3Neg_int, fdiv_pos, ↓q_tDict0, ix_1_0, ix_2_0, ix_2_1, ix_3_0, ix_3_1, ix_3_2, ix_4_0, ix_4_1, ix_4_2, ix_4_3, ix_5_0, ix_5_1, ix_5_2, ix_5_3, ix_5_4, decide_eq_false_iff_not, ↓lc_seq, ↓lc_r1, ↓lc_r2, ↓for_seq, ↓for_r1, ↓for_r2, ↓c3Tuple_it, ↓c3Min2_int, ↓c3Max2_int, ↓m3Pop_ref, ↓lc_zip, ↓for_zip, ↓lc_enum, ↓for_enum, ↓q_tAug3, r3AddI, ↓datD_pair, datD_pair, eqv_pair, ↓m3Index_ref, wipe3, ↓len_tup, ↓len_rol, ↓c3Len_tup, ↓c3Len_rol, ↓c3Len_ref, ↓c3Int_int, ↓c3Int_bl, ↓c3Abs_int, ↓c3All_ref, ↓c3Any_ref, ↓c3Isi_tl, ↓c3Isi_ty, ↓m3Append_ref, ↓s3Lst_ref, ↓r3Is_non, ↓r3IsNot_non, atI_0, atI_1, atI_2, atI_3, atI_4, tyD_tup, tyD_int, tyD_bl, mc_bool, mc_int, mc_str, mc_tuple, mc_list, mc_dict, ib_NoneType_bool, ib_NoneType_int, ib_NoneType_str, ib_NoneType_tuple, ib_NoneType_list, ib_NoneType_dict, ib_bool_bool, ib_bool_int, ib_bool_str, ib_bool_tuple, ib_bool_list, ib_bool_dict, ib_int_bool, ib_int_int, ib_int_str, ib_int_tuple, ib_int_list, ib_int_dict, ib_str_bool, ib_str_int, ib_str_str, ib_str_tuple, ib_str_list, ib_str_dict, ib_tuple_bool, ib_tuple_int, ib_tuple_str, ib_tuple_tuple, ib_tuple_list, ib_tuple_dict, ib_list_bool, ib_list_int, ib_list_str, ib_list_tuple, ib_list_list, ib_list_dict, ib_dict_bool, ib_dict_int, ib_dict_str, ib_dict_tuple, ib_dict_list, ib_dict_dict, tyD_str, tyD_non, tyD_rol, Bool.or_false, Bool.false_or, Bool.or_true, Bool.true_or, ↓truD_bl, ↓truD_int, List.getElem?_cons_zero, List.getElem?_cons_succ, List.set_cons_zero, List.set_cons_succ, Option.some.injEq, L3.D.bl.injEq, L3.D.int.injEq, L3.D.ref.injEq, L3.D.tup.injEq, L3.D.ty.injEq, L3.D.str.injEq, List.cons.injEq, and_true, true_and, exists_eq_left, exists_eq_left', exists_eq, exists_eq', exists_and_left, exists_and_right, exists_const, and_assoc, exists_eq_right_right, exists_eq_right, ↓ite_both, decide_eq_true_eq, reduceCtorEq, false_and, and_false, exists_false, not_false_eq_true, not_true_eq_false, Bool.false_eq_true, implies_true, forall_const, true_implies, false_implies, Bool.not_eq_true, Bool.not_true, Bool.not_false, decide_true, decide_false, Bool.not_eq_true', Bool.not_eq_false', Bool.not_eq_false, if_true, if_false, Bool.and_true, Bool.true_and, Bool.and_false, Bool.false_and, r3Eq, r3Ne]
    refine mul_use hg hy hx ly lx zy zx ?_
    rw [mulL_comm hg hy.all hx.all]
    refine ⟨_, _, rfl, same, ?_⟩
    simp -implicitDefEqProofs only [sp__law_number, ↓ex_bl, ↓ex_int, ↓ex_str, ↓ex_ref, ↓ex_tup, ↓ex_some, ↓ex_eq, ↓ex_eq', ↓ex_1, ↓ex_2, ↓ex_3, ↓ex_4, ↓ex_5, ↓ite_tt, ↓ite_ff, ↓v3_0, ↓v3_s, ↓eq_int, ↓ne_int, ↓eq_bl, ↓ne_bl, ↓eq_pair, ↓ne_pair, eqv_bool, eqv_str, ↓pow_lit, ↓ix_t0, ↓ix_t1, ↓ix_tup, ↓ix_it, ↓q_tC3, ↓q_tOp3, ↓q_tUn3, ↓q_tTest3, ↓q_tChain3, ↓q_tTruth3, ↓q_tAnd3, ↓q_tOr3, ↓q_tNot3, ↓q_tAndV3, ↓q_tOrV3, ↓q_tNotV3, ↓q_tIf3, ↓q_tNil3, ↓q_tCons3, ↓q_tTup3, ↓q_tLst3, ↓q_tNoPart3, ↓q_tPart3, ↓q_tSl3, ↓q_tRev3, ↓r3Rev_tup, ↓r3IsNot_bl, ↓r3Is_bl, ↓r3Sl_tup, ↓c3List_tup, ↓c3List_ref, ↓q_tCB3, ↓q_tBM3, ↓q_tBM03, ↓q_tNext3, ↓q_tSeq3, ↓q_tDrop3, ↓q_tRet3, ↓q_tRetN3, ↓q_tIfS3, ↓q_gName3, ↓gnil_eq, ↓gcons_eq, ↓q_gTup3, ↓q_gSub3, ↓q_tAsg3, ↓q_tPar3, ↓q_tYes3, ↓q_tCall3, ↓q_tTryAs3, ↓q_goneE_nx, ↓q_goneE_rt, ↓q_c3IsE, ↓is_bl, ↓c3Str_int, ↓q_tRaise3, ↓q_spA0, ↓q_spA1, ↓q_spA2, ↓q_spA3, ↓q_spA4, ↓q_spA5, ↓q_endF_rt, ↓q_endF_nx, ↓q_endF_xx, r3Lt, r3Le, r3Gt, r3Ge, r3Mod, r3Div, r3Pow, r3Sub, ↓r3I_int, ↓r3I0_int, ↓r3Add_int, ↓r3Add_tup, ↓r3Add_ref, ↓r3Mul_int, ↓r3Mul_ref, datD_non, ↓datD_bl, ↓datD_int, eqv_int, ↓items_tup, ↓items_rol, ↓items_new, ↓len_new, ↓mupd_same, L3.MO.lst.injEq, List.length_cons, List.length_nil, Nat.reduceAdd, Nat.zero_add, sizeLine_eq, Nat.reduceLeDiff, Nat.reducePow, Int.reduceLT, Int.reduceLE, Int.reducePow, Int.reduceToNat, Int.reduceNeg, Int.reduceAdd, Int.cast_ofNat_Int, Int.reduceSub, Int.reduceMul, Nat.reduceMul, Nat.reduceLT, cpow_lit, List.length_append, List.length_map, ↓u3Neg_int, fdiv_pos, ↓q_tDict0, ix_1_0, ix_2_0, ix_2_1, ix_3_0, ix_3_1, ix_3_2, ix_4_0, ix_4_1, ix_4_2, ix_4_3, ix_5_0, ix_5_1, ix_5_2, ix_5_3, ix_5_4, decide_eq_false_iff_not, ↓lc_seq, ↓lc_r1, ↓lc_r2, ↓for_seq, ↓for_r1, ↓for_r2, ↓c3Tuple_it, ↓c3Min2_int, ↓c3Max2_int, ↓m3Pop_ref, ↓lc_zip, ↓for_zip, ↓lc_enum, ↓for_enum, ↓q_tAug3, r3AddI, ↓datD_pair, datD_pair, eqv_pair, ↓m3Index_ref, wipe3, ↓len_tup, ↓len_rol, ↓c3Len_tup, ↓c3Len_rol, ↓c3Len_ref, ↓c3Int_int, ↓c3Int_bl, ↓c3Abs_int, ↓c3All_ref, ↓c3Any_ref, ↓c3Isi_tl, ↓c3Isi_ty, ↓m3Append_ref, ↓s3Lst_ref, ↓r3Is_non, ↓r3IsNot_non, atI_0, atI_1, atI_2, atI_3, atI_4, tyD_tup, tyD_int, tyD_bl, mc_bool, mc_int, mc_str, mc_tuple, mc_list, mc_dict, ib_NoneType_bool, ib_NoneType_int, ib_NoneType_str, ib_NoneType_tuple, ib_NoneType_list, ib_NoneType_dict, ib_bool_bool, ib_bool_int, ib_bool_str, ib_bool_tuple, ib_bool_list, ib_bool_dict, ib_int_bool, ib_int_int, ib_int_str, ib_int_tuple, ib_int_list, ib_int_dict, ib_str_bool, ib_str_int, ib_str_str, ib_str_tuple, ib_str_list, ib_str_dict, ib_tuple_bool, ib_tuple_int, ib_tuple_str, ib_tuple_tuple, ib_tuple_list, ib_tuple_dict, ib_list_bool, ib_list_int, ib_list_str, ib_list_tuple, ib_list_list, ib_list_dict, ib_dict_bool, ib_dict_int, ib_dict_str, ib_dict_tuple, ib_dict_list, ib_dict_dict, tyD_str, tyD_non, tyD_rol, Bool.or_false, Bool.false_or, Bool.or_true, Bool.true_or, ↓truD_bl, ↓truD_int, List.getElem?_cons_zero, List.getElem?_cons_succ, List.set_cons_zero, List.set_cons_succ, Option.some.injEq, L3.D.bl.injEq, L3.D.int.injEq, L3.D.ref.injEq, L3.D.tup.injEq, L3.D.ty.injEq, L3.D.str.injEq, List.cons.injEq, and_true, true_and, exists_eq_left, exists_eq_left', exists_eq, exists_eq', exists_and_left, exists_and_right, exists_const, and_assoc, exists_eq_right_right, exists_eq_right, ↓ite_both, decide_eq_true_eq, reduceCtorEq, false_and, and_false, exists_false, not_false_eq_true, not_true_eq_false, Bool.false_eq_true, implies_true, forall_const, true_implies, false_implies, Bool.not_eq_true, Bool.not_true, Bool.not_false, decide_true, decide_false, Bool.not_eq_true', Bool.not_eq_false', Bool.not_eq_false, if_true, if_false, Bool.and_true, Bool.true_and, Bool.and_false, Bool.false_and, r3Eq, r3Ne]
    refine ⟨hg, s5.ok, fun y M6 hyo zy6 s6 => ?_⟩
    refine worth_use hg hx.all hyo (by omega) (fun x hx' => (zx x hx').mono (by decide)) zy6 ?_
    refine worth_use hg hy.all hyo (by omega) (fun x hx' => (zy x hx').mono (by decide)) zy6 ?_
    have w1 := worth_ok hg.lt.1 hyo hx.all
    have w2 := worth_ok hg.lt.1 hyo hy.all
    have z1 := worth_sz (p := p) zx zy6
    have z2 := worth_sz (p := p) zy zy6
    refine ⟨_, _, _, rfl, p, rfl, _, rfl, _, rfl, hg, w1, w2, ⟨_, _, z1, z2, ?_⟩, ?_⟩
    · have b1 : xs.length * (5 + 5 + 1) ≤ 11 * 11 := Nat.mul_le_mul lx (by decide)
      have b2 : ys.length * (5 + 5 + 1) ≤ 11 * 11 := Nat.mul_le_mul ly (by decide)
      omega
    simp -implicitDefEqProofs only [↓ex_bl, ↓ex_int, ↓ex_str, ↓ex_ref, ↓ex_tup, ↓ex_some, ↓ex_eq, ↓ex_eq', ↓ex_1, ↓ex_2, ↓ex_3, ↓ex_4, ↓ex_5, ↓ite_tt, ↓ite_ff, ↓v3_0, ↓v3_s, ↓eq_int, ↓ne_int, ↓eq_bl, ↓ne_bl, ↓eq_pair, ↓ne_pair, eqv_bool, eqv_str, ↓pow_lit, ↓ix_t0, ↓ix_t1, ↓ix_tup, ↓ix_it, ↓q_tC3, ↓q_tOp3, ↓q_tUn3, ↓q_tTest3, ↓q_tChain3, ↓q_tTruth3, ↓q_tAnd3, ↓q_tOr3, ↓q_tNot3, ↓q_tAndV3, ↓q_tOrV3, ↓q_tNotV3, ↓q_tIf3, ↓q_tNil3, ↓q_tCons3, ↓q_tTup3, ↓q_tLst3, ↓q_tNoPart3, ↓q_tPart3, ↓q_tSl3, ↓q_tRev3, ↓r3Rev_tup, ↓r3IsNot_bl, ↓r3Is_bl, ↓r3Sl_tup, ↓c3List_tup, ↓c3List_ref, ↓q_tCB3, ↓q_tBM3, ↓q_tBM03, ↓q_tNext3, ↓q_tSeq3, ↓q_tDrop3, ↓q_tRet3, ↓q_tRetN3, ↓q_tIfS3, ↓q_gName3, ↓gnil_eq, ↓gcons_eq, ↓q_gTup3, ↓q_gSub3, ↓q_tAsg3, ↓q_tPar3, ↓q_tYes3, ↓q_tCall3, ↓q_tTryAs3, ↓q_goneE_nx, ↓q_goneE_rt, ↓q_c3IsE, ↓is_bl, ↓c3Str_int, ↓q_tRaise3, ↓q_spA0, ↓q_spA1, ↓q_spA2, ↓q_spA3, ↓q_spA4, ↓q_spA5, ↓q_endF_rt, ↓q_endF_nx, ↓q_endF_xx, r3Lt, r3Le, r3Gt, r3Ge, r3Mod, r3Div, r3Pow, r3Sub, ↓r3I_int, ↓r3I0_int, ↓r3Add_int, ↓r3Add_tup, ↓r3Add_ref, ↓r3Mul_int, ↓r3Mul_ref, datD_non, ↓datD_bl, ↓datD_int, eqv_int, ↓items_tup, ↓items_rol, ↓items_new, ↓len_new, ↓mupd_same, L3.MO.lst.injEq, List.length_cons, List.length_nil, Nat.reduceAdd, Nat.zero_add, sizeLine_eq, Nat.reduceLeDiff, Nat.reducePow, Int.reduceLT, Int.reduceLE, Int.reducePow, Int.reduceToNat, Int.reduceNeg, Int.reduceAdd, Int.cast_ofNat_Int, Int.reduceSub, Int.reduceMul, Nat.reduceMul, Nat.reduceLT, cpow_lit, List.length_append, List.length_map, ↓u3Neg_int, fdiv_pos, ↓q_tDict0, ix_1_0, ix_2_0, ix_2_1, ix_3_0, ix_3_1, ix_3_2, ix_4_0, ix_4_1, ix_4_2, ix_4_3, ix_5_0, ix_5_1, ix_5_2, ix_5_3, ix_5_4, decide_eq_false_iff_not, ↓lc_seq, ↓lc_r1, ↓lc_r2, ↓for_seq, ↓for_r1, ↓for_r2, ↓c3Tuple_it, ↓c3Min2_int, ↓c3Max2_int, ↓m3Pop_ref, ↓lc_zip, ↓for_zip, ↓lc_enum, ↓for_enum, ↓q_tAug3, r3AddI, ↓datD_pair, datD_pair, eqv_pair, ↓m3Index_ref, wipe3, ↓len_tup, ↓len_rol, ↓c3Len_tup, ↓c3Len_rol, ↓c3Len_ref, ↓c3Int_int, ↓c3Int_bl, ↓c3Abs_int, ↓c3All_ref, ↓c3Any_ref, ↓c3Isi_tl, ↓c3Isi_ty, ↓m3Append_ref, ↓s3Lst_ref, ↓r3Is_non, ↓r3IsNot_non, atI_0, atI_1, atI_2, atI_3, atI_4, tyD_tup, tyD_int, tyD_bl, mc_bool, mc_int, mc_str, mc_tuple, mc_list, mc_dict, ib_NoneType_bool, ib_NoneType_int, ib_NoneType_str, ib_NoneType_tuple, ib_NoneType_list, ib_NoneType_dict, ib_bool_bool, ib_bool_int, ib_bool_str, ib_bool_tuple, ib_bool_list, ib_bool_dict, ib_int_bool, ib_int_int, ib_int_str, ib_int_tuple, ib_int_list, ib_int_dict, ib_str_bool, ib_str_int, ib_str_str, ib_str_tuple, ib_str_list, ib_str_dict, ib_tuple_bool, ib_tuple_int, ib_tuple_str, ib_tuple_tuple, ib_tuple_list, ib_tuple_dict, ib_list_bool, ib_list_int, ib_list_str, ib_list_tuple, ib_list_list, ib_list_dict, ib_dict_bool, ib_dict_int, ib_dict_str, ib_dict_tuple, ib_dict_list, ib_dict_dict, tyD_str, tyD_non, tyD_rol, Bool.or_false, Bool.false_or, Bool.or_true, Bool.true_or, ↓truD_bl, ↓truD_int, List.getElem?_cons_zero, List.getElem?_cons_succ, List.set_cons_zero, List.set_cons_succ, Option.some.injEq, L3.D.bl.injEq, L3.D.int.injEq, L3.D.ref.injEq, L3.D.tup.injEq, L3.D.ty.injEq, L3.D.str.injEq, List.cons.injEq, and_true, true_and, exists_eq_left, exists_eq_left', exists_eq, exists_eq', exists_and_left, exists_and_right, exists_const, and_assoc, exists_eq_right_right, exists_eq_right, ↓ite_both, decide_eq_true_eq, reduceCtorEq, false_and, and_false, exists_false, not_false_eq_true, not_true_eq_false, Bool.false_eq_true, implies_true, forall_const, true_implies, false_implies, Bool.not_eq_true, Bool.not_true, Bool.not_false, decide_true, decide_false, Bool.not_eq_true', Bool.not_eq_false', Bool.not_eq_false, if_true, if_false, Bool.and_true, Bool.true_and, Bool.and_false, Bool.false_and, r3Eq, r3Ne]
    refine worth_use hg hm.all hyo lm zm zy6 ?_
    rw [worth_mul hg hx.all hy.all hyo]
    have ok := ok_mul w1 w2
    refine ⟨_, datD_nu, _, datD_nu, fun e => ?_, fun _ => ?_⟩
    · rw [eqv_nu ok ok, decide_eq_true rfl] at e
      cases e
    have e6 := s3.trans (s4.trans (s5.trans s6))
    refine forB_h s6.ok (fun i σ M' => ∃ v10 v11 v12, σ = [some (.rol (ns.map D.int)), some (.ref h), some d, some (.int p), some (polyD xs), some (polyD ys), some (polyD (mulL p xs ys)), some (polyD (mulL p xs ys)), some (nuD y), some (nuD (mulN p (worthN p y xs) (worthN p y ys))), v10, v11, v12]) ⟨_, _, _, rfl⟩ (fun _ _ _ _ _ => trivial) ?_ ?_
    · rintro i2 d2 σ2 M7 N2 hd2 - s7 ⟨v10, v11, v12, rfl⟩ n2
      simp -implicitDefEqProofs only [sp__law_bent, ↓ex_bl, ↓ex_int, ↓ex_str, ↓ex_ref, ↓ex_tup, ↓ex_some, ↓ex_eq, ↓ex_eq', ↓ex_1, ↓ex_2, ↓ex_3, ↓ex_4, ↓ex_5, ↓ite_tt, ↓ite_ff, ↓v3_0, ↓v3_s, ↓eq_int, ↓ne_int, ↓eq_bl, ↓ne_bl, ↓eq_pair, ↓ne_pair, eqv_bool, eqv_str, ↓pow_lit, ↓ix_t0, ↓ix_t1, ↓ix_tup, ↓ix_it, ↓q_tC3, ↓q_tOp3, ↓q_tUn3, ↓q_tTest3, ↓q_tChain3, ↓q_tTruth3, ↓q_tAnd3, ↓q_tOr3, ↓q_tNot3, ↓q_tAndV3, ↓q_tOrV3, ↓q_tNotV3, ↓q_tIf3, ↓q_tNil3, ↓q_tCons3, ↓q_tTup3, ↓q_tLst3, ↓q_tNoPart3, ↓q_tPart3, ↓q_tSl3, ↓q_tRev3, ↓r3Rev_tup, ↓r3IsNot_bl, ↓r3Is_bl, ↓r3Sl_tup, ↓c3List_tup, ↓c3List_ref, ↓q_tCB3, ↓q_tBM3, ↓q_tBM03, ↓q_tNext3, ↓q_tSeq3, ↓q_tDrop3, ↓q_tRet3, ↓q_tRetN3, ↓q_tIfS3, ↓q_gName3, ↓gnil_eq, ↓gcons_eq, ↓q_gTup3, ↓q_gSub3, ↓q_tAsg3, ↓q_tPar3, ↓q_tYes3, ↓q_tCall3, ↓q_tTryAs3, ↓q_goneE_nx, ↓q_goneE_rt, ↓q_c3IsE, ↓is_bl, ↓c3Str_int, ↓q_tRaise3, ↓q_spA0, ↓q_spA1, ↓q_spA2, ↓q_spA3, ↓q_spA4, ↓q_spA5, ↓q_endF_rt, ↓q_endF_nx, ↓q_endF_xx, r3Lt, r3Le, r3Gt, r3Ge, r3Mod, r3Div, r3Pow, r3Sub, ↓r3I_int, ↓r3I0_int, ↓r3Add_int, ↓r3Add_tup, ↓r3Add_ref, ↓r3Mul_int, ↓r3Mul_ref, datD_non, ↓datD_bl, ↓datD_int, eqv_int, ↓items_tup, ↓items_rol, ↓items_new, ↓len_new, ↓mupd_same, L3.MO.lst.injEq, List.length_cons, List.length_nil, Nat.reduceAdd, Nat.zero_add, sizeLine_eq, Nat.reduceLeDiff, Nat.reducePow, Int.reduceLT, Int.reduceLE, Int.reducePow, Int.reduceToNat, Int.reduceNeg, Int.reduceAdd, Int.cast_ofNat_Int, Int.reduceSub, Int.reduceMul, Nat.reduceMul, Nat.reduceLT, cpow_lit, List.length_append, List.length_map, ↓u3Neg_int, fdiv_pos, ↓q_tDict0, ix_1_0, ix_2_0, ix_2_1, ix_3_0, ix_3_1, ix_3_2, ix_4_0, ix_4_1, ix_4_2, ix_4_3, ix_5_0, ix_5_1, ix_5_2, ix_5_3, ix_5_4, decide_eq_false_iff_not, ↓lc_seq, ↓lc_r1, ↓lc_r2, ↓for_seq, ↓for_r1, ↓for_r2, ↓c3Tuple_it, ↓c3Min2_int, ↓c3Max2_int, ↓m3Pop_ref, ↓lc_zip, ↓for_zip, ↓lc_enum, ↓for_enum, ↓q_tAug3, r3AddI, ↓datD_pair, datD_pair, eqv_pair, ↓m3Index_ref, wipe3, ↓len_tup, ↓len_rol, ↓c3Len_tup, ↓c3Len_rol, ↓c3Len_ref, ↓c3Int_int, ↓c3Int_bl, ↓c3Abs_int, ↓c3All_ref, ↓c3Any_ref, ↓c3Isi_tl, ↓c3Isi_ty, ↓m3Append_ref, ↓s3Lst_ref, ↓r3Is_non, ↓r3IsNot_non, atI_0, atI_1, atI_2, atI_3, atI_4, tyD_tup, tyD_int, tyD_bl, mc_bool, mc_int, mc_str, mc_tuple, mc_list, mc_dict, ib_NoneType_bool, ib_NoneType_int, ib_NoneType_str, ib_NoneType_tuple, ib_NoneType_list, ib_NoneType_dict, ib_bool_bool, ib_bool_int, ib_bool_str, ib_bool_tuple, ib_bool_list, ib_bool_dict, ib_int_bool, ib_int_int, ib_int_str, ib_int_tuple, ib_int_list, ib_int_dict, ib_str_bool, ib_str_int, ib_str_str, ib_str_tuple, ib_str_list, ib_str_dict, ib_tuple_bool, ib_tuple_int, ib_tuple_str, ib_tuple_tuple, ib_tuple_list, ib_tuple_dict, ib_list_bool, ib_list_int, ib_list_str, ib_list_tuple, ib_list_list, ib_list_dict, ib_dict_bool, ib_dict_int, ib_dict_str, ib_dict_tuple, ib_dict_list, ib_dict_dict, tyD_str, tyD_non, tyD_rol, Bool.or_false, Bool.false_or, Bool.or_true, Bool.true_or, ↓truD_bl, ↓truD_int, List.getElem?_cons_zero, List.getElem?_cons_succ, List.set_cons_zero, List.set_cons_succ, Option.some.injEq, L3.D.bl.injEq, L3.D.int.injEq, L3.D.ref.injEq, L3.D.tup.injEq, L3.D.ty.injEq, L3.D.str.injEq, List.cons.injEq, and_true, true_and, exists_eq_left, exists_eq_left', exists_eq, exists_eq', exists_and_left, exists_and_right, exists_const, and_assoc, exists_eq_right_right, exists_eq_right, ↓ite_both, decide_eq_true_eq, reduceCtorEq, false_and, and_false, exists_false, not_false_eq_true, not_true_eq_false, Bool.false_eq_true, implies_true, forall_const, true_implies, false_implies, Bool.not_eq_true, Bool.not_true, Bool.not_false, decide_true, decide_false, Bool.not_eq_true', Bool.not_eq_false', Bool.not_eq_false, if_true, if_false, Bool.and_true, Bool.true_and, Bool.and_false, Bool.false_and, r3Eq, r3Ne]
      refine ⟨xs, rfl, s7.ok, by omega, fun e M8 t8 s8 => ?_⟩
      refine isp_use hg t8 ?_
      simp -implicitDefEqProofs only [sp__law_is_poly, ↓ex_bl, ↓ex_int, ↓ex_str, ↓ex_ref, ↓ex_tup, ↓ex_some, ↓ex_eq, ↓ex_eq', ↓ex_1, ↓ex_2, ↓ex_3, ↓ex_4, ↓ex_5, ↓ite_tt, ↓ite_ff, ↓v3_0, ↓v3_s, ↓eq_int, ↓ne_int, ↓eq_bl, ↓ne_bl, ↓eq_pair, ↓ne_pair, eqv_bool, eqv_str, ↓pow_lit, ↓ix_t0, ↓ix_t1, ↓ix_tup, ↓ix_it, ↓q_tC3, ↓q_tOp3, ↓q_tUn3, ↓q_tTest3, ↓q_tChain3, ↓q_tTruth3, ↓q_tAnd3, ↓q_tOr3, ↓q_tNot3, ↓q_tAndV3, ↓q_tOrV3, ↓q_tNotV3, ↓q_tIf3, ↓q_tNil3, ↓q_tCons3, ↓q_tTup3, ↓q_tLst3, ↓q_tNoPart3, ↓q_tPart3, ↓q_tSl3, ↓q_tRev3, ↓r3Rev_tup, ↓r3IsNot_bl, ↓r3Is_bl, ↓r3Sl_tup, ↓c3List_tup, ↓c3List_ref, ↓q_tCB3, ↓q_tBM3, ↓q_tBM03, ↓q_tNext3, ↓q_tSeq3, ↓q_tDrop3, ↓q_tRet3, ↓q_tRetN3, ↓q_tIfS3, ↓q_gName3, ↓gnil_eq, ↓gcons_eq, ↓q_gTup3, ↓q_gSub3, ↓q_tAsg3, ↓q_tPar3, ↓q_tYes3, ↓q_tCall3, ↓q_tTryAs3, ↓q_goneE_nx, ↓q_goneE_rt, ↓q_c3IsE, ↓is_bl, ↓c3Str_int, ↓q_tRaise3, ↓q_spA0, ↓q_spA1, ↓q_spA2, ↓q_spA3, ↓q_spA4, ↓q_spA5, ↓q_endF_rt, ↓q_endF_nx, ↓q_endF_xx, r3Lt, r3Le, r3Gt, r3Ge, r3Mod, r3Div, r3Pow, r3Sub, ↓r3I_int, ↓r3I0_int, ↓r3Add_int, ↓r3Add_tup, ↓r3Add_ref, ↓r3Mul_int, ↓r3Mul_ref, datD_non, ↓datD_bl, ↓datD_int, eqv_int, ↓items_tup, ↓items_rol, ↓items_new, ↓len_new, ↓mupd_same, L3.MO.lst.injEq, List.length_cons, List.length_nil, Nat.reduceAdd, Nat.zero_add, sizeLine_eq, Nat.reduceLeDiff, Nat.reducePow, Int.reduceLT, Int.reduceLE, Int.reducePow, Int.reduceToNat, Int.reduceNeg, Int.reduceAdd, Int.cast_ofNat_Int, Int.reduceSub, Int.reduceMul, Nat.reduceMul, Nat.reduceLT, cpow_lit, List.length_append, List.length_map, ↓u3Neg_int, fdiv_pos, ↓q_tDict0, ix_1_0, ix_2_0, ix_2_1, ix_3_0, ix_3_1, ix_3_2, ix_4_0, ix_4_1, ix_4_2, ix_4_3, ix_5_0, ix_5_1, ix_5_2, ix_5_3, ix_5_4, decide_eq_false_iff_not, ↓lc_seq, ↓lc_r1, ↓lc_r2, ↓for_seq, ↓for_r1, ↓for_r2, ↓c3Tuple_it, ↓c3Min2_int, ↓c3Max2_int, ↓m3Pop_ref, ↓lc_zip, ↓for_zip, ↓lc_enum, ↓for_enum, ↓q_tAug3, r3AddI, ↓datD_pair, datD_pair, eqv_pair, ↓m3Index_ref, wipe3, ↓len_tup, ↓len_rol, ↓c3Len_tup, ↓c3Len_rol, ↓c3Len_ref, ↓c3Int_int, ↓c3Int_bl, ↓c3Abs_int, ↓c3All_ref, ↓c3Any_ref, ↓c3Isi_tl, ↓c3Isi_ty, ↓m3Append_ref, ↓s3Lst_ref, ↓r3Is_non, ↓r3IsNot_non, atI_0, atI_1, atI_2, atI_3, atI_4, tyD_tup, tyD_int, tyD_bl, mc_bool, mc_int, mc_str, mc_tuple, mc_list, mc_dict, ib_NoneType_bool, ib_NoneType_int, ib_NoneType_str, ib_NoneType_tuple, ib_NoneType_list, ib_NoneType_dict, ib_bool_bool, ib_bool_int, ib_bool_str, ib_bool_tuple, ib_bool_list, ib_bool_dict, ib_int_bool, ib_int_int, ib_int_str, ib_int_tuple, ib_int_list, ib_int_dict, ib_str_bool, ib_str_int, ib_str_str, ib_str_tuple, ib_str_list, ib_str_dict, ib_tuple_bool, ib_tuple_int, ib_tuple_str, ib_tuple_tuple, ib_tuple_list, ib_tuple_dict, ib_list_bool, ib_list_int, ib_list_str, ib_list_tuple, ib_list_list, ib_list_dict, ib_dict_bool, ib_dict_int, ib_dict_str, ib_dict_tuple, ib_dict_list, ib_dict_dict, tyD_str, tyD_non, tyD_rol, Bool.or_false, Bool.false_or, Bool.or_true, Bool.true_or, ↓truD_bl, ↓truD_int, List.getElem?_cons_zero, List.getElem?_cons_succ, List.set_cons_zero, List.set_cons_succ, Option.some.injEq, L3.D.bl.injEq, L3.D.int.injEq, L3.D.ref.injEq, L3.D.tup.injEq, L3.D.ty.injEq, L3.D.str.injEq, List.cons.injEq, and_true, true_and, exists_eq_left, exists_eq_left', exists_eq, exists_eq', exists_and_left, exists_and_right, exists_const, and_assoc, exists_eq_right_right, exists_eq_right, ↓ite_both, decide_eq_true_eq, reduceCtorEq, false_and, and_false, exists_false, not_false_eq_true, not_true_eq_false, Bool.false_eq_true, implies_true, forall_const, true_implies, false_implies, Bool.not_eq_true, Bool.not_true, Bool.not_false, decide_true, decide_false, Bool.not_eq_true', Bool.not_eq_false', Bool.not_eq_false, if_true, if_false, Bool.and_true, Bool.true_and, Bool.and_false, Bool.false_and, r3Eq, r3Ne]
      refine ⟨hg, t8, ?_⟩
      exact n2 _ _ (s7.trans s8) ⟨_, _, _, rfl⟩
    · rintro σ2 M7 s7 ⟨v10, v11, v12, rfl⟩
      have tx : tyA M7 (polyD xs) := tyA_poly (by omega)
      have tm : tyA M7 (polyD (mulL p xs ys)) := tyA_poly (by omega)
      simp -implicitDefEqProofs only [↓ex_bl, ↓ex_int, ↓ex_str, ↓ex_ref, ↓ex_tup, ↓ex_some, ↓ex_eq, ↓ex_eq', ↓ex_1, ↓ex_2, ↓ex_3, ↓ex_4, ↓ex_5, ↓ite_tt, ↓ite_ff, ↓v3_0, ↓v3_s, ↓eq_int, ↓ne_int, ↓eq_bl, ↓ne_bl, ↓eq_pair, ↓ne_pair, eqv_bool, eqv_str, ↓pow_lit, ↓ix_t0, ↓ix_t1, ↓ix_tup, ↓ix_it, ↓q_tC3, ↓q_tOp3, ↓q_tUn3, ↓q_tTest3, ↓q_tChain3, ↓q_tTruth3, ↓q_tAnd3, ↓q_tOr3, ↓q_tNot3, ↓q_tAndV3, ↓q_tOrV3, ↓q_tNotV3, ↓q_tIf3, ↓q_tNil3, ↓q_tCons3, ↓q_tTup3, ↓q_tLst3, ↓q_tNoPart3, ↓q_tPart3, ↓q_tSl3, ↓q_tRev3, ↓r3Rev_tup, ↓r3IsNot_bl, ↓r3Is_bl, ↓r3Sl_tup, ↓c3List_tup, ↓c3List_ref, ↓q_tCB3, ↓q_tBM3, ↓q_tBM03, ↓q_tNext3, ↓q_tSeq3, ↓q_tDrop3, ↓q_tRet3, ↓q_tRetN3, ↓q_tIfS3, ↓q_gName3, ↓gnil_eq, ↓gcons_eq, ↓q_gTup3, ↓q_gSub3, ↓q_tAsg3, ↓q_tPar3, ↓q_tYes3, ↓q_tCall3, ↓q_tTryAs3, ↓q_goneE_nx, ↓q_goneE_rt, ↓q_c3IsE, ↓is_bl, ↓c3Str_int, ↓q_tRaise3, ↓q_spA0, ↓q_spA1, ↓q_spA2, ↓q_spA3, ↓q_spA4, ↓q_spA5, ↓q_endF_rt, ↓q_endF_nx, ↓q_endF_xx, r3Lt, r3Le, r3Gt, r3Ge, r3Mod, r3Div, r3Pow, r3Sub, ↓r3I_int, ↓r3I0_int, ↓r3Add_int, ↓r3Add_tup, ↓r3Add_ref, ↓r3Mul_int, ↓r3Mul_ref, datD_non, ↓datD_bl, ↓datD_int, eqv_int, ↓items_tup, ↓items_rol, ↓items_new, ↓len_new, ↓mupd_same, L3.MO.lst.injEq, List.length_cons, List.length_nil, Nat.reduceAdd, Nat.zero_add, sizeLine_eq, Nat.reduceLeDiff, Nat.reducePow, Int.reduceLT, Int.reduceLE, Int.reducePow, Int.reduceToNat, Int.reduceNeg, Int.reduceAdd, Int.cast_ofNat_Int, Int.reduceSub, Int.reduceMul, Nat.reduceMul, Nat.reduceLT, cpow_lit, List.length_append, List.length_map, ↓u3Neg_int, fdiv_pos, ↓q_tDict0, ix_1_0, ix_2_0, ix_2_1, ix_3_0, ix_3_1, ix_3_2, ix_4_0, ix_4_1, ix_4_2, ix_4_3, ix_5_0, ix_5_1, ix_5_2, ix_5_3, ix_5_4, decide_eq_false_iff_not, ↓lc_seq, ↓lc_r1, ↓lc_r2, ↓for_seq, ↓for_r1, ↓for_r2, ↓c3Tuple_it, ↓c3Min2_int, ↓c3Max2_int, ↓m3Pop_ref, ↓lc_zip, ↓for_zip, ↓lc_enum, ↓for_enum, ↓q_tAug3, r3AddI, ↓datD_pair, datD_pair, eqv_pair, ↓m3Index_ref, wipe3, ↓len_tup, ↓len_rol, ↓c3Len_tup, ↓c3Len_rol, ↓c3Len_ref, ↓c3Int_int, ↓c3Int_bl, ↓c3Abs_int, ↓c3All_ref, ↓c3Any_ref, ↓c3Isi_tl, ↓c3Isi_ty, ↓m3Append_ref, ↓s3Lst_ref, ↓r3Is_non, ↓r3IsNot_non, atI_0, atI_1, atI_2, atI_3, atI_4, tyD_tup, tyD_int, tyD_bl, mc_bool, mc_int, mc_str, mc_tuple, mc_list, mc_dict, ib_NoneType_bool, ib_NoneType_int, ib_NoneType_str, ib_NoneType_tuple, ib_NoneType_list, ib_NoneType_dict, ib_bool_bool, ib_bool_int, ib_bool_str, ib_bool_tuple, ib_bool_list, ib_bool_dict, ib_int_bool, ib_int_int, ib_int_str, ib_int_tuple, ib_int_list, ib_int_dict, ib_str_bool, ib_str_int, ib_str_str, ib_str_tuple, ib_str_list, ib_str_dict, ib_tuple_bool, ib_tuple_int, ib_tuple_str, ib_tuple_tuple, ib_tuple_list, ib_tuple_dict, ib_list_bool, ib_list_int, ib_list_str, ib_list_tuple, ib_list_list, ib_list_dict, ib_dict_bool, ib_dict_int, ib_dict_str, ib_dict_tuple, ib_dict_list, ib_dict_dict, tyD_str, tyD_non, tyD_rol, Bool.or_false, Bool.false_or, Bool.or_true, Bool.true_or, ↓truD_bl, ↓truD_int, List.getElem?_cons_zero, List.getElem?_cons_succ, List.set_cons_zero, List.set_cons_succ, Option.some.injEq, L3.D.bl.injEq, L3.D.int.injEq, L3.D.ref.injEq, L3.D.tup.injEq, L3.D.ty.injEq, L3.D.str.injEq, List.cons.injEq, and_true, true_and, exists_eq_left, exists_eq_left', exists_eq, exists_eq', exists_and_left, exists_and_right, exists_const, and_assoc, exists_eq_right_right, exists_eq_right, ↓ite_both, decide_eq_true_eq, reduceCtorEq, false_and, and_false, exists_false, not_false_eq_true, not_true_eq_false, Bool.false_eq_true, implies_true, forall_const, true_implies, false_implies, Bool.not_eq_true, Bool.not_true, Bool.not_false, decide_true, decide_false, Bool.not_eq_true', Bool.not_eq_false', Bool.not_eq_false, if_true, if_false, Bool.and_true, Bool.true_and, Bool.and_false, Bool.false_and, r3Eq, r3Ne]
      refine isp_use hg tx ?_
      rw [isPoly_poly hx]
      simp -implicitDefEqProofs only [↓ex_bl, ↓ex_int, ↓ex_str, ↓ex_ref, ↓ex_tup, ↓ex_some, ↓ex_eq, ↓ex_eq', ↓ex_1, ↓ex_2, ↓ex_3, ↓ex_4, ↓ex_5, ↓ite_tt, ↓ite_ff, ↓v3_0, ↓v3_s, ↓eq_int, ↓ne_int, ↓eq_bl, ↓ne_bl, ↓eq_pair, ↓ne_pair, eqv_bool, eqv_str, ↓pow_lit, ↓ix_t0, ↓ix_t1, ↓ix_tup, ↓ix_it, ↓q_tC3, ↓q_tOp3, ↓q_tUn3, ↓q_tTest3, ↓q_tChain3, ↓q_tTruth3, ↓q_tAnd3, ↓q_tOr3, ↓q_tNot3, ↓q_tAndV3, ↓q_tOrV3, ↓q_tNotV3, ↓q_tIf3, ↓q_tNil3, ↓q_tCons3, ↓q_tTup3, ↓q_tLst3, ↓q_tNoPart3, ↓q_tPart3, ↓q_tSl3, ↓q_tRev3, ↓r3Rev_tup, ↓r3IsNot_bl, ↓r3Is_bl, ↓r3Sl_tup, ↓c3List_tup, ↓c3List_ref, ↓q_tCB3, ↓q_tBM3, ↓q_tBM03, ↓q_tNext3, ↓q_tSeq3, ↓q_tDrop3, ↓q_tRet3, ↓q_tRetN3, ↓q_tIfS3, ↓q_gName3, ↓gnil_eq, ↓gcons_eq, ↓q_gTup3, ↓q_gSub3, ↓q_tAsg3, ↓q_tPar3, ↓q_tYes3, ↓q_tCall3, ↓q_tTryAs3, ↓q_goneE_nx, ↓q_goneE_rt, ↓q_c3IsE, ↓is_bl, ↓c3Str_int, ↓q_tRaise3, ↓q_spA0, ↓q_spA1, ↓q_spA2, ↓q_spA3, ↓q_spA4, ↓q_spA5, ↓q_endF_rt, ↓q_endF_nx, ↓q_endF_xx, r3Lt, r3Le, r3Gt, r3Ge, r3Mod, r3Div, r3Pow, r3Sub, ↓r3I_int, ↓r3I0_int, ↓r3Add_int, ↓r3Add_tup, ↓r3Add_ref, ↓r3Mul_int, ↓r3Mul_ref, datD_non, ↓datD_bl, ↓datD_int, eqv_int, ↓items_tup, ↓items_rol, ↓items_new, ↓len_new, ↓mupd_same, L3.MO.lst.injEq, List.length_cons, List.length_nil, Nat.reduceAdd, Nat.zero_add, sizeLine_eq, Nat.reduceLeDiff, Nat.reducePow, Int.reduceLT, Int.reduceLE, Int.reducePow, Int.reduceToNat, Int.reduceNeg, Int.reduceAdd, Int.cast_ofNat_Int, Int.reduceSub, Int.reduceMul, Nat.reduceMul, Nat.reduceLT, cpow_lit, List.length_append, List.length_map, ↓u3Neg_int, fdiv_pos, ↓q_tDict0, ix_1_0, ix_2_0, ix_2_1, ix_3_0, ix_3_1, ix_3_2, ix_4_0, ix_4_1, ix_4_2, ix_4_3, ix_5_0, ix_5_1, ix_5_2, ix_5_3, ix_5_4, decide_eq_false_iff_not, ↓lc_seq, ↓lc_r1, ↓lc_r2, ↓for_seq, ↓for_r1, ↓for_r2, ↓c3Tuple_it, ↓c3Min2_int, ↓c3Max2_int, ↓m3Pop_ref, ↓lc_zip, ↓for_zip, ↓lc_enum, ↓for_enum, ↓q_tAug3, r3AddI, ↓datD_pair, datD_pair, eqv_pair, ↓m3Index_ref, wipe3, ↓len_tup, ↓len_rol, ↓c3Len_tup, ↓c3Len_rol, ↓c3Len_ref, ↓c3Int_int, ↓c3Int_bl, ↓c3Abs_int, ↓c3All_ref, ↓c3Any_ref, ↓c3Isi_tl, ↓c3Isi_ty, ↓m3Append_ref, ↓s3Lst_ref, ↓r3Is_non, ↓r3IsNot_non, atI_0, atI_1, atI_2, atI_3, atI_4, tyD_tup, tyD_int, tyD_bl, mc_bool, mc_int, mc_str, mc_tuple, mc_list, mc_dict, ib_NoneType_bool, ib_NoneType_int, ib_NoneType_str, ib_NoneType_tuple, ib_NoneType_list, ib_NoneType_dict, ib_bool_bool, ib_bool_int, ib_bool_str, ib_bool_tuple, ib_bool_list, ib_bool_dict, ib_int_bool, ib_int_int, ib_int_str, ib_int_tuple, ib_int_list, ib_int_dict, ib_str_bool, ib_str_int, ib_str_str, ib_str_tuple, ib_str_list, ib_str_dict, ib_tuple_bool, ib_tuple_int, ib_tuple_str, ib_tuple_tuple, ib_tuple_list, ib_tuple_dict, ib_list_bool, ib_list_int, ib_list_str, ib_list_tuple, ib_list_list, ib_list_dict, ib_dict_bool, ib_dict_int, ib_dict_str, ib_dict_tuple, ib_dict_list, ib_dict_dict, tyD_str, tyD_non, tyD_rol, Bool.or_false, Bool.false_or, Bool.or_true, Bool.true_or, ↓truD_bl, ↓truD_int, List.getElem?_cons_zero, List.getElem?_cons_succ, List.set_cons_zero, List.set_cons_succ, Option.some.injEq, L3.D.bl.injEq, L3.D.int.injEq, L3.D.ref.injEq, L3.D.tup.injEq, L3.D.ty.injEq, L3.D.str.injEq, List.cons.injEq, and_true, true_and, exists_eq_left, exists_eq_left', exists_eq, exists_eq', exists_and_left, exists_and_right, exists_const, and_assoc, exists_eq_right_right, exists_eq_right, ↓ite_both, decide_eq_true_eq, reduceCtorEq, false_and, and_false, exists_false, not_false_eq_true, not_true_eq_false, Bool.false_eq_true, implies_true, forall_const, true_implies, false_implies, Bool.not_eq_true, Bool.not_true, Bool.not_false, decide_true, decide_false, Bool.not_eq_true', Bool.not_eq_false', Bool.not_eq_false, if_true, if_false, Bool.and_true, Bool.true_and, Bool.and_false, Bool.false_and, r3Eq, r3Ne]
      refine isp_use hg tm ?_
      rw [isPoly_poly hm]
      simp -implicitDefEqProofs only [↓ex_bl, ↓ex_int, ↓ex_str, ↓ex_ref, ↓ex_tup, ↓ex_some, ↓ex_eq, ↓ex_eq', ↓ex_1, ↓ex_2, ↓ex_3, ↓ex_4, ↓ex_5, ↓ite_tt, ↓ite_ff, ↓v3_0, ↓v3_s, ↓eq_int, ↓ne_int, ↓eq_bl, ↓ne_bl, ↓eq_pair, ↓ne_pair, eqv_bool, eqv_str, ↓pow_lit, ↓ix_t0, ↓ix_t1, ↓ix_tup, ↓ix_it, ↓q_tC3, ↓q_tOp3, ↓q_tUn3, ↓q_tTest3, ↓q_tChain3, ↓q_tTruth3, ↓q_tAnd3, ↓q_tOr3, ↓q_tNot3, ↓q_tAndV3, ↓q_tOrV3, ↓q_tNotV3, ↓q_tIf3, ↓q_tNil3, ↓q_tCons3, ↓q_tTup3, ↓q_tLst3, ↓q_tNoPart3, ↓q_tPart3, ↓q_tSl3, ↓q_tRev3, ↓r3Rev_tup, ↓r3IsNot_bl, ↓r3Is_bl, ↓r3Sl_tup, ↓c3List_tup, ↓c3List_ref, ↓q_tCB3, ↓q_tBM3, ↓q_tBM03, ↓q_tNext3, ↓q_tSeq3, ↓q_tDrop3, ↓q_tRet3, ↓q_tRetN3, ↓q_tIfS3, ↓q_gName3, ↓gnil_eq, ↓gcons_eq, ↓q_gTup3, ↓q_gSub3, ↓q_tAsg3, ↓q_tPar3, ↓q_tYes3, ↓q_tCall3, ↓q_tTryAs3, ↓q_goneE_nx, ↓q_goneE_rt, ↓q_c3IsE, ↓is_bl, ↓c3Str_int, ↓q_tRaise3, ↓q_spA0, ↓q_spA1, ↓q_spA2, ↓q_spA3, ↓q_spA4, ↓q_spA5, ↓q_endF_rt, ↓q_endF_nx, ↓q_endF_xx, r3Lt, r3Le, r3Gt, r3Ge, r3Mod, r3Div, r3Pow, r3Sub, ↓r3I_int, ↓r3I0_int, ↓r3Add_int, ↓r3Add_tup, ↓r3Add_ref, ↓r3Mul_int, ↓r3Mul_ref, datD_non, ↓datD_bl, ↓datD_int, eqv_int, ↓items_tup, ↓items_rol, ↓items_new, ↓len_new, ↓mupd_same, L3.MO.lst.injEq, List.length_cons, List.length_nil, Nat.reduceAdd, Nat.zero_add, sizeLine_eq, Nat.reduceLeDiff, Nat.reducePow, Int.reduceLT, Int.reduceLE, Int.reducePow, Int.reduceToNat, Int.reduceNeg, Int.reduceAdd, Int.cast_ofNat_Int, Int.reduceSub, Int.reduceMul, Nat.reduceMul, Nat.reduceLT, cpow_lit, List.length_append, List.length_map, ↓u3Neg_int, fdiv_pos, ↓q_tDict0, ix_1_0, ix_2_0, ix_2_1, ix_3_0, ix_3_1, ix_3_2, ix_4_0, ix_4_1, ix_4_2, ix_4_3, ix_5_0, ix_5_1, ix_5_2, ix_5_3, ix_5_4, decide_eq_false_iff_not, ↓lc_seq, ↓lc_r1, ↓lc_r2, ↓for_seq, ↓for_r1, ↓for_r2, ↓c3Tuple_it, ↓c3Min2_int, ↓c3Max2_int, ↓m3Pop_ref, ↓lc_zip, ↓for_zip, ↓lc_enum, ↓for_enum, ↓q_tAug3, r3AddI, ↓datD_pair, datD_pair, eqv_pair, ↓m3Index_ref, wipe3, ↓len_tup, ↓len_rol, ↓c3Len_tup, ↓c3Len_rol, ↓c3Len_ref, ↓c3Int_int, ↓c3Int_bl, ↓c3Abs_int, ↓c3All_ref, ↓c3Any_ref, ↓c3Isi_tl, ↓c3Isi_ty, ↓m3Append_ref, ↓s3Lst_ref, ↓r3Is_non, ↓r3IsNot_non, atI_0, atI_1, atI_2, atI_3, atI_4, tyD_tup, tyD_int, tyD_bl, mc_bool, mc_int, mc_str, mc_tuple, mc_list, mc_dict, ib_NoneType_bool, ib_NoneType_int, ib_NoneType_str, ib_NoneType_tuple, ib_NoneType_list, ib_NoneType_dict, ib_bool_bool, ib_bool_int, ib_bool_str, ib_bool_tuple, ib_bool_list, ib_bool_dict, ib_int_bool, ib_int_int, ib_int_str, ib_int_tuple, ib_int_list, ib_int_dict, ib_str_bool, ib_str_int, ib_str_str, ib_str_tuple, ib_str_list, ib_str_dict, ib_tuple_bool, ib_tuple_int, ib_tuple_str, ib_tuple_tuple, ib_tuple_list, ib_tuple_dict, ib_list_bool, ib_list_int, ib_list_str, ib_list_tuple, ib_list_list, ib_list_dict, ib_dict_bool, ib_dict_int, ib_dict_str, ib_dict_tuple, ib_dict_list, ib_dict_dict, tyD_str, tyD_non, tyD_rol, Bool.or_false, Bool.false_or, Bool.or_true, Bool.true_or, ↓truD_bl, ↓truD_int, List.getElem?_cons_zero, List.getElem?_cons_succ, List.set_cons_zero, List.set_cons_succ, Option.some.injEq, L3.D.bl.injEq, L3.D.int.injEq, L3.D.ref.injEq, L3.D.tup.injEq, L3.D.ty.injEq, L3.D.str.injEq, List.cons.injEq, and_true, true_and, exists_eq_left, exists_eq_left', exists_eq, exists_eq', exists_and_left, exists_and_right, exists_const, and_assoc, exists_eq_right_right, exists_eq_right, ↓ite_both, decide_eq_true_eq, reduceCtorEq, false_and, and_false, exists_false, not_false_eq_true, not_true_eq_false, Bool.false_eq_true, implies_true, forall_const, true_implies, false_implies, Bool.not_eq_true, Bool.not_true, Bool.not_false, decide_true, decide_false, Bool.not_eq_true', Bool.not_eq_false', Bool.not_eq_false, if_true, if_false, Bool.and_true, Bool.true_and, Bool.and_false, Bool.false_and, r3Eq, r3Ne]
      exact n _ _ (s2.trans (e6.trans s7)) ⟨_, _, _, _, _, _, _, _, _, _, _, rfl⟩
  · rintro σ2 M4 s4 ⟨v2, v3, v4, v5, v6, v7, v8, v9, v10, v11, v12, rfl⟩
    simp -implicitDefEqProofs only [↓ex_bl, ↓ex_int, ↓ex_str, ↓ex_ref, ↓ex_tup, ↓ex_some, ↓ex_eq, ↓ex_eq', ↓ex_1, ↓ex_2, ↓ex_3, ↓ex_4, ↓ex_5, ↓ite_tt, ↓ite_ff, ↓v3_0, ↓v3_s, ↓eq_int, ↓ne_int, ↓eq_bl, ↓ne_bl, ↓eq_pair, ↓ne_pair, eqv_bool, eqv_str, ↓pow_lit, ↓ix_t0, ↓ix_t1, ↓ix_tup, ↓ix_it, ↓q_tC3, ↓q_tOp3, ↓q_tUn3, ↓q_tTest3, ↓q_tChain3, ↓q_tTruth3, ↓q_tAnd3, ↓q_tOr3, ↓q_tNot3, ↓q_tAndV3, ↓q_tOrV3, ↓q_tNotV3, ↓q_tIf3, ↓q_tNil3, ↓q_tCons3, ↓q_tTup3, ↓q_tLst3, ↓q_tNoPart3, ↓q_tPart3, ↓q_tSl3, ↓q_tRev3, ↓r3Rev_tup, ↓r3IsNot_bl, ↓r3Is_bl, ↓r3Sl_tup, ↓c3List_tup, ↓c3List_ref, ↓q_tCB3, ↓q_tBM3, ↓q_tBM03, ↓q_tNext3, ↓q_tSeq3, ↓q_tDrop3, ↓q_tRet3, ↓q_tRetN3, ↓q_tIfS3, ↓q_gName3, ↓gnil_eq, ↓gcons_eq, ↓q_gTup3, ↓q_gSub3, ↓q_tAsg3, ↓q_tPar3, ↓q_tYes3, ↓q_tCall3, ↓q_tTryAs3, ↓q_goneE_nx, ↓q_goneE_rt, ↓q_c3IsE, ↓is_bl, ↓c3Str_int, ↓q_tRaise3, ↓q_spA0, ↓q_spA1, ↓q_spA2, ↓q_spA3, ↓q_spA4, ↓q_spA5, ↓q_endF_rt, ↓q_endF_nx, ↓q_endF_xx, r3Lt, r3Le, r3Gt, r3Ge, r3Mod, r3Div, r3Pow, r3Sub, ↓r3I_int, ↓r3I0_int, ↓r3Add_int, ↓r3Add_tup, ↓r3Add_ref, ↓r3Mul_int, ↓r3Mul_ref, datD_non, ↓datD_bl, ↓datD_int, eqv_int, ↓items_tup, ↓items_rol, ↓items_new, ↓len_new, ↓mupd_same, L3.MO.lst.injEq, List.length_cons, List.length_nil, Nat.reduceAdd, Nat.zero_add, sizeLine_eq, Nat.reduceLeDiff, Nat.reducePow, Int.reduceLT, Int.reduceLE, Int.reducePow, Int.reduceToNat, Int.reduceNeg, Int.reduceAdd, Int.cast_ofNat_Int, Int.reduceSub, Int.reduceMul, Nat.reduceMul, Nat.reduceLT, cpow_lit, List.length_append, List.length_map, ↓u3Neg_int, fdiv_pos, ↓q_tDict0, ix_1_0, ix_2_0, ix_2_1, ix_3_0, ix_3_1, ix_3_2, ix_4_0, ix_4_1, ix_4_2, ix_4_3, ix_5_0, ix_5_1, ix_5_2, ix_5_3, ix_5_4, decide_eq_false_iff_not, ↓lc_seq, ↓lc_r1, ↓lc_r2, ↓for_seq, ↓for_r1, ↓for_r2, ↓c3Tuple_it, ↓c3Min2_int, ↓c3Max2_int, ↓m3Pop_ref, ↓lc_zip, ↓for_zip, ↓lc_enum, ↓for_enum, ↓q_tAug3, r3AddI, ↓datD_pair, datD_pair, eqv_pair, ↓m3Index_ref, wipe3, ↓len_tup, ↓len_rol, ↓c3Len_tup, ↓c3Len_rol, ↓c3Len_ref, ↓c3Int_int, ↓c3Int_bl, ↓c3Abs_int, ↓c3All_ref, ↓c3Any_ref, ↓c3Isi_tl, ↓c3Isi_ty, ↓m3Append_ref, ↓s3Lst_ref, ↓r3Is_non, ↓r3IsNot_non, atI_0, atI_1, atI_2, atI_3, atI_4, tyD_tup, tyD_int, tyD_bl, mc_bool, mc_int, mc_str, mc_tuple, mc_list, mc_dict, ib_NoneType_bool, ib_NoneType_int, ib_NoneType_str, ib_NoneType_tuple, ib_NoneType_list, ib_NoneType_dict, ib_bool_bool, ib_bool_int, ib_bool_str, ib_bool_tuple, ib_bool_list, ib_bool_dict, ib_int_bool, ib_int_int, ib_int_str, ib_int_tuple, ib_int_list, ib_int_dict, ib_str_bool, ib_str_int, ib_str_str, ib_str_tuple, ib_str_list, ib_str_dict, ib_tuple_bool, ib_tuple_int, ib_tuple_str, ib_tuple_tuple, ib_tuple_list, ib_tuple_dict, ib_list_bool, ib_list_int, ib_list_str, ib_list_tuple, ib_list_list, ib_list_dict, ib_dict_bool, ib_dict_int, ib_dict_str, ib_dict_tuple, ib_dict_list, ib_dict_dict, tyD_str, tyD_non, tyD_rol, Bool.or_false, Bool.false_or, Bool.or_true, Bool.true_or, ↓truD_bl, ↓truD_int, List.getElem?_cons_zero, List.getElem?_cons_succ, List.set_cons_zero, List.set_cons_succ, Option.some.injEq, L3.D.bl.injEq, L3.D.int.injEq, L3.D.ref.injEq, L3.D.tup.injEq, L3.D.ty.injEq, L3.D.str.injEq, List.cons.injEq, and_true, true_and, exists_eq_left, exists_eq_left', exists_eq, exists_eq', exists_and_left, exists_and_right, exists_const, and_assoc, exists_eq_right_right, exists_eq_right, ↓ite_both, decide_eq_true_eq, reduceCtorEq, false_and, and_false, exists_false, not_false_eq_true, not_true_eq_false, Bool.false_eq_true, implies_true, forall_const, true_implies, false_implies, Bool.not_eq_true, Bool.not_true, Bool.not_false, decide_true, decide_false, Bool.not_eq_true', Bool.not_eq_false', Bool.not_eq_false, if_true, if_false, Bool.and_true, Bool.true_and, Bool.and_false, Bool.false_and, r3Eq, r3Ne]
    exact ⟨_, .refl fun a ha => s4.dom _ (s0.dom a ha), q _⟩

/-! ### the text: the defs of the row's top -/
def atTop (i : Nat) : Stmt := PySem.Challenge.pw_whicheverend_k03_whole_polynomials_judge.main.body.getD i (.Pass ⟨0, 0, 0, 0⟩)
abbrev s__law_hand : Stmt := atTop 26
abbrev s__law_draw : Stmt := atTop 27
abbrev s__law_any : Stmt := atTop 28
abbrev s__law_primes : Stmt := atTop 32
abbrev s__law_ground : Stmt := atTop 33
abbrev s__law_divisor : Stmt := atTop 34
abbrev s__law_num : Stmt := atTop 35
abbrev s__law_number : Stmt := atTop 40
abbrev s__law_poly : Stmt := atTop 41
abbrev s__law_add : Stmt := atTop 36
abbrev s__law_mul : Stmt := atTop 38
abbrev s__law_product : Stmt := atTop 44
abbrev s_is_integer : Stmt := atTop 1
abbrev s_is_ground : Stmt := atTop 11
abbrev s_check_ground : Stmt := atTop 12
abbrev s_is_pair : Stmt := atTop 3
abbrev s_is_within : Stmt := atTop 2
abbrev s_divisor : Stmt := atTop 13
abbrev s_is_num : Stmt := atTop 14
abbrev s_is_poly : Stmt := atTop 19
abbrev s_check_polys : Stmt := atTop 21
abbrev s_made : Stmt := atTop 15
abbrev s_plus : Stmt := atTop 16
abbrev s_mul : Stmt := atTop 17
abbrev s_trimmed : Stmt := atTop 22
abbrev s_poly_mul : Stmt := atTop 23
abbrev s_multiplied : Stmt := atTop 24
abbrev s__law_same : Stmt := atTop 31
abbrev s__law_worth : Stmt := atTop 45
abbrev s__law_deep : Stmt := atTop 29
abbrev s__law_odd : Stmt := atTop 30
abbrev s__law_bent : Stmt := atTop 46
abbrev s_is_polynomial : Stmt := atTop 20
abbrev s__law_is_num : Stmt := atTop 42
abbrev s__law_is_poly : Stmt := atTop 43
abbrev s_law : Stmt := atTop 47
theorem sc__law_hand : FnScope N__law_hand ["script"] (defScope s__law_hand) := ⟨rfl, rfl, rfl,
  by decide +kernel, rfl,
  by decide +kernel, by decide +kernel⟩
theorem sc__law_draw : FnScope N__law_draw ["hand", "many"] (defScope s__law_draw) := ⟨rfl, rfl, rfl,
  by decide +kernel, rfl,
  by decide +kernel, by decide +kernel⟩
theorem sc__law_any : FnScope N__law_any ["hand", "some"] (defScope s__law_any) := ⟨rfl, rfl, rfl,
  by decide +kernel, rfl,
  by decide +kernel, by decide +kernel⟩
theorem sc__law_primes : FnScope N__law_primes [] (defScope s__law_primes) := ⟨rfl, rfl, rfl,
  by decide +kernel, rfl,
  by decide +kernel, by decide +kernel⟩
theorem sc__law_ground : FnScope N__law_ground ["hand"] (defScope s__law_ground) := ⟨rfl, rfl, rfl,
  by decide +kernel, rfl,
  by decide +kernel, by decide +kernel⟩
theorem sc__law_divisor : FnScope N__law_divisor ["one", "other"] (defScope s__law_divisor) := ⟨rfl, rfl, rfl,
  by decide +kernel, rfl,
  by decide +kernel, by decide +kernel⟩
theorem sc__law_num : FnScope N__law_num ["ground", "top", "bottom"] (defScope s__law_num) := ⟨rfl, rfl, rfl,
  by decide +kernel, rfl,
  by decide +kernel, by decide +kernel⟩
theorem sc__law_number : FnScope N__law_number ["hand", "ground"] (defScope s__law_number) := ⟨rfl, rfl, rfl,
  by decide +kernel, rfl,
  by decide +kernel, by decide +kernel⟩
theorem sc__law_poly : FnScope N__law_poly ["hand", "ground"] (defScope s__law_poly) := ⟨rfl, rfl, rfl,
  by decide +kernel, rfl,
  by decide +kernel, by decide +kernel⟩
theorem sc__law_add : FnScope N__law_add ["ground", "one", "other"] (defScope s__law_add) := ⟨rfl, rfl, rfl,
  by decide +kernel, rfl,
  by decide +kernel, by decide +kernel⟩
theorem sc__law_mul : FnScope N__law_mul ["ground", "one", "other"] (defScope s__law_mul) := ⟨rfl, rfl, rfl,
  by decide +kernel, rfl,
  by decide +kernel, by decide +kernel⟩
theorem sc__law_product : FnScope N__law_product ["ground", "one", "other"] (defScope s__law_product) := ⟨rfl, rfl, rfl,
  by decide +kernel, rfl,
  by decide +kernel, by decide +kernel⟩
theorem sc_is_integer : FnScope N_is_integer ["thing"] (defScope s_is_integer) := ⟨rfl, rfl, rfl,
  by decide +kernel, rfl,
  by decide +kernel, by decide +kernel⟩
theorem sc_is_ground : FnScope N_is_ground ["thing"] (defScope s_is_ground) := ⟨rfl, rfl, rfl,
  by decide +kernel, rfl,
  by decide +kernel, by decide +kernel⟩
theorem sc_check_ground : FnScope N_check_ground ["thing"] (defScope s_check_ground) := ⟨rfl, rfl, rfl,
  by decide +kernel, rfl,
  by decide +kernel, by decide +kernel⟩
theorem sc_is_pair : FnScope N_is_pair ["thing"] (defScope s_is_pair) := ⟨rfl, rfl, rfl,
  by decide +kernel, rfl,
  by decide +kernel, by decide +kernel⟩
theorem sc_is_within : FnScope N_is_within ["thing", "least", "most"] (defScope s_is_within) := ⟨rfl, rfl, rfl,
  by decide +kernel, rfl,
  by decide +kernel, by decide +kernel⟩
theorem sc_divisor : FnScope N_divisor ["one", "other"] (defScope s_divisor) := ⟨rfl, rfl, rfl,
  by decide +kernel, rfl,
  by decide +kernel, by decide +kernel⟩
theorem sc_is_num : FnScope N_is_num ["ground", "thing"] (defScope s_is_num) := ⟨rfl, rfl, rfl,
  by decide +kernel, rfl,
  by decide +kernel, by decide +kernel⟩
theorem sc_is_poly : FnScope N_is_poly ["ground", "thing"] (defScope s_is_poly) := ⟨rfl, rfl, rfl,
  by decide +kernel, rfl,
  by decide +kernel, by decide +kernel⟩
theorem sc_check_polys : FnScope N_check_polys ["ground", "some"] (defScope s_check_polys) := ⟨rfl, rfl, rfl,
  by decide +kernel, rfl,
  by decide +kernel, by decide +kernel⟩
theorem sc_made : FnScope N_made ["ground", "top", "bottom"] (defScope s_made) := ⟨rfl, rfl, rfl,
  by decide +kernel, rfl,
  by decide +kernel, by decide +kernel⟩
theorem sc_plus : FnScope N_plus ["ground", "one", "other"] (defScope s_plus) := ⟨rfl, rfl, rfl,
  by decide +kernel, rfl,
  by decide +kernel, by decide +kernel⟩
theorem sc_mul : FnScope N_mul ["ground", "one", "other"] (defScope s_mul) := ⟨rfl, rfl, rfl,
  by decide +kernel, rfl,
  by decide +kernel, by decide +kernel⟩
theorem sc_trimmed : FnScope N_trimmed ["numbers"] (defScope s_trimmed) := ⟨rfl, rfl, rfl,
  by decide +kernel, rfl,
  by decide +kernel, by decide +kernel⟩
theorem sc_poly_mul : FnScope N_poly_mul ["ground", "one", "other"] (defScope s_poly_mul) := ⟨rfl, rfl, rfl,
  by decide +kernel, rfl,
  by decide +kernel, by decide +kernel⟩
theorem sc_multiplied : FnScope N_multiplied ["ground", "one", "other"] (defScope s_multiplied) := ⟨rfl, rfl, rfl,
  by decide +kernel, rfl,
  by decide +kernel, by decide +kernel⟩
theorem sc__law_same : FnScope N__law_same ["told", "due"] (defScope s__law_same) := ⟨rfl, rfl, rfl,
  by decide +kernel, rfl,
  by decide +kernel, by decide +kernel⟩
theorem sc__law_worth : FnScope N__law_worth ["ground", "polynomial", "point"] (defScope s__law_worth) := ⟨rfl, rfl, rfl,
  by decide +kernel, rfl,
  by decide +kernel, by decide +kernel⟩
theorem sc__law_deep : FnScope N__law_deep ["hand"] (defScope s__law_deep) := ⟨rfl, rfl, rfl,
  by decide +kernel, rfl,
  by decide +kernel, by decide +kernel⟩
theorem sc__law_odd : FnScope N__law_odd ["hand", "thing"] (defScope s__law_odd) := ⟨rfl, rfl, rfl,
  by decide +kernel, rfl,
  by decide +kernel, by decide +kernel⟩
theorem sc__law_bent : FnScope N__law_bent ["hand", "ground", "polynomial"] (defScope s__law_bent) := ⟨rfl, rfl, rfl,
  by decide +kernel, rfl,
  by decide +kernel, by decide +kernel⟩
theorem sc_is_polynomial : FnScope N_is_polynomial ["ground", "thing"] (defScope s_is_polynomial) := ⟨rfl, rfl, rfl,
  by decide +kernel, rfl,
  by decide +kernel, by decide +kernel⟩
theorem sc__law_is_num : FnScope N__law_is_num ["ground", "thing"] (defScope s__law_is_num) := ⟨rfl, rfl, rfl,
  by decide +kernel, rfl,
  by decide +kernel, by decide +kernel⟩
theorem sc__law_is_poly : FnScope N__law_is_poly ["ground", "thing"] (defScope s__law_is_poly) := ⟨rfl, rfl, rfl,
  by decide +kernel, rfl,
  by decide +kernel, by decide +kernel⟩
theorem sc_law : FnScope N_law ["script"] (defScope s_law) := ⟨rfl, rfl, rfl,
  by decide +kernel, rfl,
  by decide +kernel, by decide +kernel⟩
/-- what the written part says -/
structure Told (K : PySem.W.Frag) (mg : Str → Option Value) : Prop where
  f_abs : mg "abs" = none
  f_all : mg "all" = none
  f_bool : mg "bool" = none
  f_enumerate : mg "enumerate" = none
  f_int : mg "int" = none
  f_isinstance : mg "isinstance" = none
  f_len : mg "len" = none
  f_list : mg "list" = none
  f_min : mg "min" = none
  f_range : mg "range" = none
  f_tuple : mg "tuple" = none
  f_zip : mg "zip" = none
  g_NoGround : mg "NoGround" = some (.ref (He.ga K "NoGround"))
  g_NoPolynomial : mg "NoPolynomial" = some (.ref (He.ga K "NoPolynomial"))
  x_NoGround : ExcT K (He.ga K "NoGround")
  x_NoPolynomial : ExcT K (He.ga K "NoPolynomial")
  c_NOUGHT : GC K mg "NOUGHT" c_NOUGHT
  c_PRIMES : GC K mg "PRIMES" c_PRIMES
section
variable {P : Program} {w : World} {K : PySem.W.Frag} {mg : Str → Option Value} {base : Heap}
theorem okf__law_hand {fd : FuncData} (Z : Told K mg) (F : DefS K "_law_hand" s__law_hand fd) (gm : mg "_law_hand" = some (.ref (He.ga K "_law_hand"))) :
    Fn3 P w K mg base 1 "_law_hand" ["script"] (sp__law_hand K) :=
  fn3_mk F gm sc__law_hand (fun _ _ _ _ h => len1 h)
    (fun _ _ _ _ _ _ us hl => match us, hl with
      | [_], _ => rfl)
    (fun f cdv A outer s H E hr => (pss3_cons (ps3_setLc (i := 1) (own := [("cell", 2)]) rfl sc__law_hand.nd rfl rfl (sw_true rfl rfl rfl (by decide +kernel)) (pi3_seq (pe3_slice (pv3 0) po3_none (po3_some pe3_int))) (blkOk_by (N := N__law_hand) (sc := defScope s__law_hand) (by decide +kernel)) (fun _ _ _ _ _ => (pg3_name (i := 2) sc__law_hand.nd rfl (Or.inl rfl))) (fun _ _ _ _ _ => pts3_nil) (fun _ _ _ _ _ => (pe3_callB call_abs cl_abs (by rfl) Z.f_abs bt_abs (pa3_cons (pe3_callTy call_int1 cl_int (by rfl) Z.f_int bt_int (pa3_cons (pv3 2) pa3_nil)) pa3_nil)))) (pss3_one (ps3_ret (pe3_lst (pa3_cons (pv3 1) (pa3_cons pe3_int (pa3_cons pe3_int (pa3_cons (pe3_op or_add opl_add pe3_int (pe3_callB cr_len3 cl_len (by rfl) Z.f_len bt_len (pa3_cons (pv3 1) pa3_nil))) (pa3_cons pe3_int pa3_nil))))))))))
    (rd__law_hand K)
theorem okf__law_draw {fd : FuncData} (Z : Told K mg) (F : DefS K "_law_draw" s__law_draw fd) (gm : mg "_law_draw" = some (.ref (He.ga K "_law_draw"))) :
    Fn3 P w K mg base 1 "_law_draw" ["hand", "many"] (sp__law_draw K) :=
  fn3_mk F gm sc__law_draw (fun _ _ _ _ h => len2 h)
    (fun _ _ _ _ _ _ us hl => match us, hl with
      | [_, _], _ => rfl)
    (fun f cdv A outer s H E hr => (pss3_cut (ps3_if (pt3_pw (pw3_and (pt3_cmp (op_eqD hr.units) opl_eq (pe3_ix (pv3 0) pe3_int (fun _ _ => rfl)) pe3_int (nomark _)) (pw3_and1 (pt3_cmp op_lt opl_lt (pe3_ix (pv3 0) pe3_int (fun _ _ => rfl)) (pe3_callB cr_len3 cl_len (by rfl) Z.f_len bt_len (pa3_cons (pe3_ix (pv3 0) pe3_int (fun _ _ => rfl)) pa3_nil)) (nomark _))))) (pss3_cons (ps3_set (i := 2) sc__law_draw.nd rfl (Or.inl rfl) (pe3_ix (pe3_ix (pv3 0) pe3_int (fun _ _ => rfl)) (pe3_ix (pv3 0) pe3_int (fun _ _ => rfl)) (fun _ _ => rfl))) (pss3_cons (ps3_asg (pe3_op or_add opl_add (pe3_ix (pv3 0) pe3_int (fun _ _ => rfl)) pe3_int) (pg3_sub (pv3 0) pe3_int)) (pss3_cons (ps3_asg (pe3_op op_mod opl_mod (pe3_callTy call_int1 cl_int (by rfl) Z.f_int bt_int (pa3_cons (pe3_op or_add opl_add (pe3_op or_add opl_add (pe3_op or_mul opl_mul (pe3_ix (pv3 0) pe3_int (fun _ _ => rfl)) pe3_int) (pv3 2)) pe3_int) pa3_nil)) pe3_int) (pg3_sub (pv3 0) pe3_int)) (pss3_one (ps3_if (pt3_cmp op_ge opl_ge (pv3 2) (pe3_op op_pow opl_pow pe3_int pe3_int) (nomark _)) (pss3_one (ps3_asg (pv3 2) (pg3_sub (pv3 0) pe3_int))) pss3_nil))))) pss3_nil) (pss3_cons (ps3_if (pt3_cmp op_gt opl_gt (pe3_ix (pv3 0) pe3_int (fun _ _ => rfl)) pe3_int (nomark _)) (pss3_cons (ps3_set (i := 3) sc__law_draw.nd rfl (Or.inl rfl) (pe3_op op_mod opl_mod (pe3_callTy call_int1 cl_int (by rfl) Z.f_int bt_int (pa3_cons (pe3_ix (pv3 0) pe3_int (fun _ _ => rfl)) pa3_nil)) (pv3 1))) (pss3_cons (ps3_asg (pe3_op op_fdivF opl_div (pe3_ix (pv3 0) pe3_int (fun _ _ => rfl)) (pv3 1)) (pg3_sub (pv3 0) pe3_int)) (pss3_one (ps3_ret (pv3 3))))) pss3_nil) (pss3_cons (ps3_asg (pe3_op or_add opl_add (pe3_ix (pv3 0) pe3_int (fun _ _ => rfl)) pe3_int) (pg3_sub (pv3 0) pe3_int)) (pss3_cons (ps3_set (i := 4) sc__law_draw.nd rfl (Or.inl rfl) (pe3_op op_mod opl_mod (pe3_callTy call_int1 cl_int (by rfl) Z.f_int bt_int (pa3_cons (pe3_op or_mul opl_mul (pe3_callTy call_int1 cl_int (by rfl) Z.f_int bt_int (pa3_cons (pe3_op or_add opl_add (pe3_ix (pv3 0) pe3_int (fun _ _ => rfl)) (pe3_op or_mul opl_mul pe3_int (pe3_ix (pv3 0) pe3_int (fun _ _ => rfl)))) pa3_nil)) pe3_int) pa3_nil)) pe3_int)) (pss3_cons (ps3_set (i := 4) sc__law_draw.nd rfl (Or.inl rfl) (pe3_op op_mod opl_mod (pe3_callTy call_int1 cl_int (by rfl) Z.f_int bt_int (pa3_cons (pe3_op or_mul opl_mul (pv3 4) (pe3_op or_add opl_add (pe3_op op_fdivF opl_div (pv3 4) pe3_int) pe3_int)) pa3_nil)) pe3_int)) (pss3_cons (ps3_set (i := 4) sc__law_draw.nd rfl (Or.inl rfl) (pe3_op op_mod opl_mod (pe3_callTy call_int1 cl_int (by rfl) Z.f_int bt_int (pa3_cons (pe3_op or_mul opl_mul (pv3 4) (pe3_op or_add opl_add (pe3_op op_fdivF opl_div (pv3 4) pe3_int) pe3_int)) pa3_nil)) pe3_int)) (pss3_one (ps3_ret (pe3_op op_mod opl_mod (pe3_callTy call_int1 cl_int (by rfl) Z.f_int bt_int (pa3_cons (pe3_op op_fdivF opl_div (pv3 4) pe3_int) pa3_nil)) (pv3 1)))))))))))
    (rd__law_draw K)
theorem okf__law_any {fd : FuncData} (Z : Told K mg) (F : DefS K "_law_any" s__law_any fd) (gm : mg "_law_any" = some (.ref (He.ga K "_law_any"))) (F__law_draw : Fn3 P w K mg base 1 "_law_draw" ["hand", "many"] (sp__law_draw K)) :
    Fn3 P w K mg base 2 "_law_any" ["hand", "some"] (sp__law_any K) :=
  fn3_mk F gm sc__law_any (fun _ _ _ _ h => len2 h)
    (fun _ _ _ _ _ _ us hl => match us, hl with
      | [_, _], _ => rfl)
    (fun f cdv A outer s H E hr => (pss3_one (ps3_ret (pe3_ix (pv3 1) (pe3_fn F__law_draw (hr.mono (by omega)) (by rfl) takes_fn (pa3_cons (pv3 0) (pa3_cons (pe3_callB cr_len3 cl_len (by rfl) Z.f_len bt_len (pa3_cons (pv3 1) pa3_nil)) pa3_nil))) (fun _ _ => rfl)))))
    (rd__law_any K)
theorem okf__law_primes {fd : FuncData} (Z : Told K mg) (F : DefS K "_law_primes" s__law_primes fd) (gm : mg "_law_primes" = some (.ref (He.ga K "_law_primes"))) :
    Fn3 P w K mg base 1 "_law_primes" [] (sp__law_primes K) :=
  fn3_mk F gm sc__law_primes (fun _ _ _ _ h => len0 h)
    (fun _ _ _ _ _ _ us hl => match us, hl with
      | [], _ => rfl)
    (fun f cdv A outer s H E hr => (pss3_one (ps3_ret (pe3_lst (pa3_cons pe3_int (pa3_cons pe3_int (pa3_cons pe3_int (pa3_cons pe3_int (pa3_cons pe3_int (pa3_cons pe3_int (pa3_cons pe3_int (pa3_cons pe3_int (pa3_cons pe3_int (pa3_cons pe3_int (pa3_cons pe3_int (pa3_cons pe3_int (pa3_cons pe3_int (pa3_cons pe3_int (pa3_cons pe3_int (pa3_cons pe3_int (pa3_cons pe3_int (pa3_cons pe3_int (pa3_cons pe3_int (pa3_cons pe3_int (pa3_cons pe3_int (pa3_cons pe3_int (pa3_cons pe3_int (pa3_cons pe3_int (pa3_cons pe3_int pa3_nil)))))))))))))))))))))))))))))
    (rd__law_primes K)
theorem okf__law_ground {fd : FuncData} (Z : Told K mg) (F : DefS K "_law_ground" s__law_ground fd) (gm : mg "_law_ground" = some (.ref (He.ga K "_law_ground"))) (F__law_any : Fn3 P w K mg base 2 "_law_any" ["hand", "some"] (sp__law_any K)) (F__law_primes : Fn3 P w K mg base 1 "_law_primes" [] (sp__law_primes K)) :
    Fn3 P w K mg base 3 "_law_ground" ["hand"] (sp__law_ground K) :=
  fn3_mk F gm sc__law_ground (fun _ _ _ _ h => len1 h)
    (fun _ _ _ _ _ _ us hl => match us, hl with
      | [_], _ => rfl)
    (fun f cdv A outer s H E hr => (pss3_one (ps3_ret (pe3_fn F__law_any (hr.mono (by omega)) (by rfl) takes_fn (pa3_cons (pv3 0) (pa3_cons (pe3_lst (pa3_cons pe3_int (pa3_cons pe3_int (pa3_cons pe3_int (pa3_cons pe3_int (pa3_cons pe3_int (pa3_cons pe3_int (pa3_cons pe3_int (pa3_cons (pe3_fn F__law_any (hr.mono (by omega)) (by rfl) takes_fn (pa3_cons (pv3 0) (pa3_cons (pe3_fn0 F__law_primes (hr.mono (by omega)) (by rfl) takes_fn) pa3_nil))) pa3_nil))))))))) pa3_nil))))))
    (rd__law_ground K)
theorem okf__law_divisor {fd : FuncData} (Z : Told K mg) (F : DefS K "_law_divisor" s__law_divisor fd) (gm : mg "_law_divisor" = some (.ref (He.ga K "_law_divisor"))) :
    Fn3 P w K mg base 1 "_law_divisor" ["one", "other"] (sp__law_divisor K) :=
  fn3_mk F gm sc__law_divisor (fun _ _ _ _ h => len2 h)
    (fun _ _ _ _ _ _ us hl => match us, hl with
      | [_, _], _ => rfl)
    (fun f cdv A outer s H E hr => (pss3_cons (ps3_while passes_fn (pt3_cmp op_gt opl_gt (pv3 1) pe3_int (nomark _)) (pss3_one (ps3_par (i := 0) (j := 1) rfl sc__law_divisor.nd rfl rfl (by decide) rfl rfl (pa3_cons (pv3 1) (pa3_cons (pe3_op op_mod opl_mod (pe3_callTy call_int1 cl_int (by rfl) Z.f_int bt_int (pa3_cons (pv3 0) pa3_nil)) (pv3 1)) pa3_nil)) (by rfl)))) (pss3_one (ps3_ret (pv3 0)))))
    (rd__law_divisor K)
theorem okf__law_num {fd : FuncData} (Z : Told K mg) (F : DefS K "_law_num" s__law_num fd) (gm : mg "_law_num" = some (.ref (He.ga K "_law_num"))) (F__law_divisor : Fn3 P w K mg base 1 "_law_divisor" ["one", "other"] (sp__law_divisor K)) :
    Fn3 P w K mg base 2 "_law_num" ["ground", "top", "bottom"] (sp__law_num K) :=
  fn3_mk F gm sc__law_num (fun _ _ _ _ h => len3 h)
    (fun _ _ _ _ _ _ us hl => match us, hl with
      | [_, _, _], _ => rfl)
    (fun f cdv A outer s H E hr => (pss3_cons (ps3_if (pt3_pw (pw3_and (pt3_cmp op_gt opl_gt (pv3 0) pe3_int (nomark _)) (pw3_and1 (pt3_cmp (op_eqD hr.units) opl_eq (pv3 2) pe3_int (nomark _))))) (pss3_one (ps3_ret (pe3_tup (pa3_cons (pe3_op op_mod opl_mod (pe3_callTy call_int1 cl_int (by rfl) Z.f_int bt_int (pa3_cons (pv3 1) pa3_nil)) (pv3 0)) (pa3_cons pe3_int pa3_nil))))) pss3_nil) (pss3_cons (ps3_if (pt3_cmp op_gt opl_gt (pv3 0) pe3_int (nomark _)) (pss3_cons (ps3_setLc (i := 3) (own := [("one", 4)]) rfl sc__law_num.nd rfl rfl (sw_true rfl rfl rfl (by decide +kernel)) (pi3_range2 (by rfl) Z.f_range (pa3_cons pe3_int (pa3_cons (pv3 0) pa3_nil))) (blkOk_by (N := N__law_num) (sc := defScope s__law_num) (by decide +kernel)) (fun _ _ _ _ _ => (pg3_name (i := 4) sc__law_num.nd rfl (Or.inl rfl))) (fun _ _ _ _ _ => (pts3_one (pt3_cmp (op_eqD hr.units) opl_eq (pe3_op op_mod opl_mod (pe3_callTy call_int1 cl_int (by rfl) Z.f_int bt_int (pa3_cons (pe3_op or_mul opl_mul (pv3 4) (pv3 2)) pa3_nil)) (pv3 0)) pe3_int (nomark _)))) (fun _ _ _ _ _ => (pv3 4))) (pss3_one (ps3_ret (pe3_tup (pa3_cons (pe3_op op_mod opl_mod (pe3_callTy call_int1 cl_int (by rfl) Z.f_int bt_int (pa3_cons (pe3_op or_mul opl_mul (pv3 1) (pe3_ix (pe3_op or_add opl_add (pv3 3) (pe3_lst (pa3_cons pe3_int pa3_nil))) pe3_int (fun _ _ => rfl))) pa3_nil)) (pv3 0)) (pa3_cons pe3_int pa3_nil)))))) pss3_nil) (pss3_cons (ps3_set (i := 5) sc__law_num.nd rfl (Or.inl rfl) (pe3_fn F__law_divisor (hr.mono (by omega)) (by rfl) takes_fn (pa3_cons (pe3_callB call_abs cl_abs (by rfl) Z.f_abs bt_abs (pa3_cons (pv3 1) pa3_nil)) (pa3_cons (pe3_callB call_abs cl_abs (by rfl) Z.f_abs bt_abs (pa3_cons (pv3 2) pa3_nil)) pa3_nil)))) (pss3_cons (ps3_set (i := 5) sc__law_num.nd rfl (Or.inl rfl) (pe3_if (pt3_cmp op_gt opl_gt (pv3 2) pe3_int (nomark _)) (pv3 5) (pe3_un un_neg ul_neg (pv3 5)))) (pss3_one (ps3_ret (pe3_tup (pa3_cons (pe3_op op_fdivF opl_div (pv3 1) (pv3 5)) (pa3_cons (pe3_op op_fdivF opl_div (pv3 2) (pv3 5)) pa3_nil))))))))))
    (rd__law_num K)
theorem okf__law_number {fd : FuncData} (Z : Told K mg) (F : DefS K "_law_number" s__law_number fd) (gm : mg "_law_number" = some (.ref (He.ga K "_law_number"))) (F__law_any : Fn3 P w K mg base 2 "_law_any" ["hand", "some"] (sp__law_any K)) (F__law_draw : Fn3 P w K mg base 1 "_law_draw" ["hand", "many"] (sp__law_draw K)) (F__law_num : Fn3 P w K mg base 2 "_law_num" ["ground", "top", "bottom"] (sp__law_num K)) :
    Fn3 P w K mg base 3 "_law_number" ["hand", "ground"] (sp__law_number K) :=
  fn3_mk F gm sc__law_number (fun _ _ _ _ h => len2 h)
    (fun _ _ _ _ _ _ us hl => match us, hl with
      | [_, _], _ => rfl)
    (fun f cdv A outer s H E hr => (pss3_cons (ps3_if (pt3_cmp op_gt opl_gt (pv3 1) pe3_int (nomark _)) (pss3_one (ps3_ret (pe3_tup (pa3_cons (pe3_fn F__law_any (hr.mono (by omega)) (by rfl) takes_fn (pa3_cons (pv3 0) (pa3_cons (pe3_lst (pa3_cons pe3_int (pa3_cons pe3_int (pa3_cons (pe3_op op_sub opl_sub (pv3 1) pe3_int) (pa3_cons (pe3_fn F__law_draw (hr.mono (by omega)) (by rfl) takes_fn (pa3_cons (pv3 0) (pa3_cons (pv3 1) pa3_nil))) pa3_nil))))) pa3_nil))) (pa3_cons pe3_int pa3_nil))))) pss3_nil) (pss3_cons (ps3_set (i := 2) sc__law_number.nd rfl (Or.inl rfl) (pe3_fn F__law_any (hr.mono (by omega)) (by rfl) takes_fn (pa3_cons (pv3 0) (pa3_cons (pe3_lst (pa3_cons pe3_int (pa3_cons pe3_int (pa3_cons (pe3_un un_neg ul_neg pe3_int) (pa3_cons pe3_int (pa3_cons (pe3_un un_neg ul_neg pe3_int) (pa3_cons (pe3_op op_sub opl_sub (pe3_fn F__law_draw (hr.mono (by omega)) (by rfl) takes_fn (pa3_cons (pv3 0) (pa3_cons pe3_int pa3_nil))) pe3_int) (pa3_cons (pe3_op op_sub opl_sub (pe3_fn F__law_draw (hr.mono (by omega)) (by rfl) takes_fn (pa3_cons (pv3 0) (pa3_cons pe3_int pa3_nil))) pe3_int) pa3_nil)))))))) pa3_nil)))) (pss3_one (ps3_ret (pe3_fn F__law_num (hr.mono (by omega)) (by rfl) takes_fn (pa3_cons pe3_int (pa3_cons (pv3 2) (pa3_cons (pe3_fn F__law_any (hr.mono (by omega)) (by rfl) takes_fn (pa3_cons (pv3 0) (pa3_cons (pe3_lst (pa3_cons pe3_int (pa3_cons pe3_int (pa3_cons pe3_int (pa3_cons pe3_int (pa3_cons pe3_int (pa3_cons pe3_int (pa3_cons (pe3_op or_add opl_add pe3_int (pe3_fn F__law_draw (hr.mono (by omega)) (by rfl) takes_fn (pa3_cons (pv3 0) (pa3_cons pe3_int pa3_nil)))) pa3_nil)))))))) pa3_nil))) pa3_nil)))))))))
    (rd__law_number K)
theorem okf__law_poly {fd : FuncData} (Z : Told K mg) (F : DefS K "_law_poly" s__law_poly fd) (gm : mg "_law_poly" = some (.ref (He.ga K "_law_poly"))) (F__law_any : Fn3 P w K mg base 2 "_law_any" ["hand", "some"] (sp__law_any K)) (F__law_number : Fn3 P w K mg base 3 "_law_number" ["hand", "ground"] (sp__law_number K)) :
    Fn3 P w K mg base 4 "_law_poly" ["hand", "ground"] (sp__law_poly K) :=
  fn3_mk F gm sc__law_poly (fun _ _ _ _ h => len2 h)
    (fun _ _ _ _ _ _ us hl => match us, hl with
      | [_, _], _ => rfl)
    (fun f cdv A outer s H E hr => (pss3_cons (ps3_set (i := 2) sc__law_poly.nd rfl (Or.inl rfl) (pe3_fn F__law_any (hr.mono (by omega)) (by rfl) takes_fn (pa3_cons (pv3 0) (pa3_cons (pe3_lst (pa3_cons pe3_int (pa3_cons pe3_int (pa3_cons pe3_int (pa3_cons pe3_int (pa3_cons pe3_int (pa3_cons pe3_int (pa3_cons pe3_int pa3_nil)))))))) pa3_nil)))) (pss3_cons (ps3_setLc (i := 3) (own := [("turn", 4)]) rfl sc__law_poly.nd rfl rfl (sw_true rfl rfl rfl (by decide +kernel)) (pi3_range1 (by rfl) Z.f_range (pa3_cons (pv3 2) pa3_nil)) (blkOk_by (N := N__law_poly) (sc := defScope s__law_poly) (by decide +kernel)) (fun _ _ _ _ _ => (pg3_name (i := 4) sc__law_poly.nd rfl (Or.inl rfl))) (fun _ _ _ _ _ => pts3_nil) (fun _ _ _ _ _ => (pe3_fn F__law_number (hr.mono (by omega)) (by rfl) takes0 (pa3_cons (pv3 0) (pa3_cons (pv3 1) pa3_nil))))) (pss3_cons (ps3_for passes_fn rfl (pi3_range1 (by rfl) Z.f_range (pa3_cons (pe3_fn F__law_any (hr.mono (by omega)) (by rfl) takes_fn (pa3_cons (pv3 0) (pa3_cons (pe3_lst (pa3_cons pe3_int (pa3_cons pe3_int (pa3_cons pe3_int (pa3_cons (pe3_callB (call_min2 rfl) cl_min2 (by rfl) Z.f_min bt_min (pa3_cons pe3_int (pa3_cons (pv3 2) pa3_nil))) (pa3_cons (pv3 2) pa3_nil)))))) pa3_nil))) pa3_nil)) (pg3_name (i := 4) sc__law_poly.nd rfl (Or.inl rfl)) (pss3_one (ps3_asg (pe3_tup (pa3_cons pe3_int (pa3_cons pe3_int pa3_nil))) (pg3_sub (pv3 3) (pv3 4))))) (pss3_cons (ps3_while passes_fn (pt3_pw (pw3_and (pt3_cmp op_gt opl_gt (pe3_callB cr_len3 cl_len (by rfl) Z.f_len bt_len (pa3_cons (pv3 3) pa3_nil)) pe3_int (nomark _)) (pw3_and1 (pt3_cmp (op_eqD hr.units) opl_eq (pe3_ix (pv3 3) (pe3_un un_neg ul_neg pe3_int) (fun _ _ => rfl)) (pe3_tup (pa3_cons pe3_int (pa3_cons pe3_int pa3_nil))) (nomark _))))) (pss3_one (ps3_expr (pe3_lm0 PySem.F.slot_list_pop PySem.F.type_list_pop mt_pop ml_pop (pv3 3))))) (pss3_one (ps3_ret (pe3_callTy call_tuple_of cl_tuple (by rfl) Z.f_tuple bt_tuple (pa3_cons (pv3 3) pa3_nil)))))))))
    (rd__law_poly K)
theorem okf__law_add {fd : FuncData} (Z : Told K mg) (F : DefS K "_law_add" s__law_add fd) (gm : mg "_law_add" = some (.ref (He.ga K "_law_add"))) (F__law_num : Fn3 P w K mg base 2 "_law_num" ["ground", "top", "bottom"] (sp__law_num K)) :
    Fn3 P w K mg base 3 "_law_add" ["ground", "one", "other"] (sp__law_add K) :=
  fn3_mk F gm sc__law_add (fun _ _ _ _ h => len3 h)
    (fun _ _ _ _ _ _ us hl => match us, hl with
      | [_, _, _], _ => rfl)
    (fun f cdv A outer s H E hr => (pss3_one (ps3_ret (pe3_fn F__law_num (hr.mono (by omega)) (by rfl) takes_fn (pa3_cons (pv3 0) (pa3_cons (pe3_op or_add opl_add (pe3_op or_mul opl_mul (pe3_ix (pv3 1) pe3_int (fun _ _ => rfl)) (pe3_ix (pv3 2) pe3_int (fun _ _ => rfl))) (pe3_op or_mul opl_mul (pe3_ix (pv3 2) pe3_int (fun _ _ => rfl)) (pe3_ix (pv3 1) pe3_int (fun _ _ => rfl)))) (pa3_cons (pe3_op or_mul opl_mul (pe3_ix (pv3 1) pe3_int (fun _ _ => rfl)) (pe3_ix (pv3 2) pe3_int (fun _ _ => rfl))) pa3_nil)))))))
    (rd__law_add K)
theorem okf__law_mul {fd : FuncData} (Z : Told K mg) (F : DefS K "_law_mul" s__law_mul fd) (gm : mg "_law_mul" = some (.ref (He.ga K "_law_mul"))) (F__law_num : Fn3 P w K mg base 2 "_law_num" ["ground", "top", "bottom"] (sp__law_num K)) :
    Fn3 P w K mg base 3 "_law_mul" ["ground", "one", "other"] (sp__law_mul K) :=
  fn3_mk F gm sc__law_mul (fun _ _ _ _ h => len3 h)
    (fun _ _ _ _ _ _ us hl => match us, hl with
      | [_, _, _], _ => rfl)
    (fun f cdv A outer s H E hr => (pss3_one (ps3_ret (pe3_fn F__law_num (hr.mono (by omega)) (by rfl) takes_fn (pa3_cons (pv3 0) (pa3_cons (pe3_op or_mul opl_mul (pe3_ix (pv3 1) pe3_int (fun _ _ => rfl)) (pe3_ix (pv3 2) pe3_int (fun _ _ => rfl))) (pa3_cons (pe3_op or_mul opl_mul (pe3_ix (pv3 1) pe3_int (fun _ _ => rfl)) (pe3_ix (pv3 2) pe3_int (fun _ _ => rfl))) pa3_nil)))))))
    (rd__law_mul K)
theorem okf__law_product {fd : FuncData} (Z : Told K mg) (F : DefS K "_law_product" s__law_product fd) (gm : mg "_law_product" = some (.ref (He.ga K "_law_product"))) (F__law_add : Fn3 P w K mg base 3 "_law_add" ["ground", "one", "other"] (sp__law_add K)) (F__law_mul : Fn3 P w K mg base 3 "_law_mul" ["ground", "one", "other"] (sp__law_mul K)) :
    Fn3 P w K mg base 4 "_law_product" ["ground", "one", "other"] (sp__law_product K) :=
  fn3_mk F gm sc__law_product (fun _ _ _ _ h => len3 h)
    (fun _ _ _ _ _ _ us hl => match us, hl with
      | [_, _, _], _ => rfl)
    (fun f cdv A outer s H E hr => (pss3_cons (ps3_set (i := 3) sc__law_product.nd rfl (Or.inl rfl) (pe3_lst pa3_nil)) (pss3_cons (ps3_for passes_fn rfl (pi3_range1 (by rfl) Z.f_range (pa3_cons (pe3_op op_sub opl_sub (pe3_op or_add opl_add (pe3_callB cr_len3 cl_len (by rfl) Z.f_len bt_len (pa3_cons (pv3 1) pa3_nil)) (pe3_callB cr_len3 cl_len (by rfl) Z.f_len bt_len (pa3_cons (pv3 2) pa3_nil))) pe3_int) pa3_nil)) (pg3_name (i := 4) sc__law_product.nd rfl (Or.inl rfl)) (pss3_cons (ps3_set (i := 5) sc__law_product.nd rfl (Or.inl rfl) (pe3_tup (pa3_cons pe3_int (pa3_cons pe3_int pa3_nil)))) (pss3_cons (ps3_for passes_fn rfl (pi3_range1 (by rfl) Z.f_range (pa3_cons (pe3_callB cr_len3 cl_len (by rfl) Z.f_len bt_len (pa3_cons (pv3 1) pa3_nil)) pa3_nil)) (pg3_name (i := 6) sc__law_product.nd rfl (Or.inl rfl)) (pss3_one (ps3_if (pt3_chain op_le opl_le op_lt opl_lt pe3_int (pe3_op op_sub opl_sub (pv3 4) (pv3 6)) (pe3_callB cr_len3 cl_len (by rfl) Z.f_len bt_len (pa3_cons (pv3 2) pa3_nil))) (pss3_one (ps3_set (i := 5) sc__law_product.nd rfl (Or.inl rfl) (pe3_fn F__law_add (hr.mono (by omega)) (by rfl) takes_fn (pa3_cons (pv3 0) (pa3_cons (pv3 5) (pa3_cons (pe3_fn F__law_mul (hr.mono (by omega)) (by rfl) takes_fn (pa3_cons (pv3 0) (pa3_cons (pe3_ix (pv3 1) (pv3 6) (fun _ _ => rfl)) (pa3_cons (pe3_ix (pv3 2) (pe3_op op_sub opl_sub (pv3 4) (pv3 6)) (fun _ _ => rfl)) pa3_nil)))) pa3_nil)))))) pss3_nil))) (pss3_one (ps3_expr (pe3_lm PySem.F.slot_list_append PySem.F.type_list_append mt_append ml_append (pv3 3) (pa3_cons (pv3 5) pa3_nil))))))) (pss3_one (ps3_ret (pe3_if (pt3_pw (pw3_and (pt3_cmp op_gt opl_gt (pe3_callB cr_len3 cl_len (by rfl) Z.f_len bt_len (pa3_cons (pv3 1) pa3_nil)) pe3_int (nomark _)) (pw3_and1 (pt3_cmp op_gt opl_gt (pe3_callB cr_len3 cl_len (by rfl) Z.f_len bt_len (pa3_cons (pv3 2) pa3_nil)) pe3_int (nomark _))))) (pe3_callTy call_tuple_of cl_tuple (by rfl) Z.f_tuple bt_tuple (pa3_cons (pv3 3) pa3_nil)) (pe3_tup pa3_nil)))))))
    (rd__law_product K)
theorem okf_is_integer {fd : FuncData} (Z : Told K mg) (F : DefS K "is_integer" s_is_integer fd) (gm : mg "is_integer" = some (.ref (He.ga K "is_integer"))) :
    Fn3 P w K mg base 1 "is_integer" ["thing"] (sp_is_integer K) :=
  fn3_mk F gm sc_is_integer (fun _ _ _ _ h => len1 h)
    (fun _ _ _ _ _ _ us hl => match us, hl with
      | [_], _ => rfl)
    (fun f cdv A outer s H E hr => (pss3_one (ps3_ret (pe3_and (pe3_callB cr_isi cl_isi (by rfl) Z.f_isinstance bt_isinstance (pa3_cons (pv3 0) (pa3_cons (pe3_ty (by rfl) Z.f_int bt_int) pa3_nil))) (pe3_one (pe3_not (pe3_callB cr_isi cl_isi (by rfl) Z.f_isinstance bt_isinstance (pa3_cons (pv3 0) (pa3_cons (pe3_ty (by rfl) Z.f_bool bt_bool) pa3_nil)))))))))
    (rd_is_integer K)
theorem okf_is_ground {fd : FuncData} (Z : Told K mg) (F : DefS K "is_ground" s_is_ground fd) (gm : mg "is_ground" = some (.ref (He.ga K "is_ground"))) (F_is_integer : Fn3 P w K mg base 1 "is_integer" ["thing"] (sp_is_integer K)) :
    Fn3 P w K mg base 2 "is_ground" ["thing"] (sp_is_ground K) :=
  fn3_mk F gm sc_is_ground (fun _ _ _ _ h => len1 h)
    (fun _ _ _ _ _ _ us hl => match us, hl with
      | [_], _ => rfl)
    (fun f cdv A outer s H E hr => (pss3_one (ps3_ret (pe3_and (pe3_fn F_is_integer (hr.mono (by omega)) (by rfl) takes_fn (pa3_cons (pv3 0) pa3_nil)) (pe3_one (pe3_or (pe3_cmp (op_eqD hr.units) opl_eq (pv3 0) pe3_int (nomark _)) (pe3_one (pe3_cmp op_in_seq (opl_in false) (pv3 0) (pe3_gc Z.c_PRIMES) (by rfl)))))))))
    (rd_is_ground K)
theorem okf_check_ground {fd : FuncData} (Z : Told K mg) (F : DefS K "check_ground" s_check_ground fd) (gm : mg "check_ground" = some (.ref (He.ga K "check_ground"))) (F_is_ground : Fn3 P w K mg base 2 "is_ground" ["thing"] (sp_is_ground K)) :
    Fn3 P w K mg base 3 "check_ground" ["thing"] (sp_check_ground K) :=
  fn3_mk F gm sc_check_ground (fun _ _ _ _ h => len1 h)
    (fun _ _ _ _ _ _ us hl => match us, hl with
      | [_], _ => rfl)
    (fun f cdv A outer s H E hr => (pss3_one (ps3_if (pt3_not (pt3_truth (pe3_fn F_is_ground (hr.mono (by omega)) (by rfl) takes_fn (pa3_cons (pv3 0) pa3_nil)))) (pss3_one (ps3_raise rfl takes_fn Z.x_NoGround Z.g_NoGround rfl)) pss3_nil)))
    (rd_check_ground K)
theorem okf_is_pair {fd : FuncData} (Z : Told K mg) (F : DefS K "is_pair" s_is_pair fd) (gm : mg "is_pair" = some (.ref (He.ga K "is_pair"))) :
    Fn3 P w K mg base 1 "is_pair" ["thing"] (sp_is_pair K) :=
  fn3_mk F gm sc_is_pair (fun _ _ _ _ h => len1 h)
    (fun _ _ _ _ _ _ us hl => match us, hl with
      | [_], _ => rfl)
    (fun f cdv A outer s H E hr => (pss3_one (ps3_ret (pe3_and (pe3_callB cr_isi cl_isi (by rfl) Z.f_isinstance bt_isinstance (pa3_cons (pv3 0) (pa3_cons (pe3_ty (by rfl) Z.f_tuple bt_tuple) pa3_nil))) (pe3_one (pe3_cmp (op_eqD hr.units) opl_eq (pe3_callB cr_len3 cl_len (by rfl) Z.f_len bt_len (pa3_cons (pv3 0) pa3_nil)) pe3_int (nomark _)))))))
    (rd_is_pair K)
theorem okf_is_within {fd : FuncData} (Z : Told K mg) (F : DefS K "is_within" s_is_within fd) (gm : mg "is_within" = some (.ref (He.ga K "is_within"))) (F_is_integer : Fn3 P w K mg base 1 "is_integer" ["thing"] (sp_is_integer K)) :
    Fn3 P w K mg base 2 "is_within" ["thing", "least", "most"] (sp_is_within K) :=
  fn3_mk F gm sc_is_within (fun _ _ _ _ h => len3 h)
    (fun _ _ _ _ _ _ us hl => match us, hl with
      | [_, _, _], _ => rfl)
    (fun f cdv A outer s H E hr => (pss3_one (ps3_ret (pe3_and (pe3_fn F_is_integer (hr.mono (by omega)) (by rfl) takes_fn (pa3_cons (pv3 0) pa3_nil)) (pe3_one (pe3_chain op_le opl_le op_le opl_le (pv3 1) (pv3 0) (pv3 2)))))))
    (rd_is_within K)
theorem okf_divisor {fd : FuncData} (Z : Told K mg) (F : DefS K "divisor" s_divisor fd) (gm : mg "divisor" = some (.ref (He.ga K "divisor"))) :
    Fn3 P w K mg base 1 "divisor" ["one", "other"] (sp_divisor K) :=
  fn3_mk F gm sc_divisor (fun _ _ _ _ h => len2 h)
    (fun _ _ _ _ _ _ us hl => match us, hl with
      | [_, _], _ => rfl)
    (fun f cdv A outer s H E hr => (pss3_cons (ps3_while passes_fn (pt3_cmp op_gt opl_gt (pv3 1) pe3_int (nomark _)) (pss3_one (ps3_par (i := 0) (j := 1) rfl sc_divisor.nd rfl rfl (by decide) rfl rfl (pa3_cons (pv3 1) (pa3_cons (pe3_op op_mod opl_mod (pv3 0) (pv3 1)) pa3_nil)) (by rfl)))) (pss3_one (ps3_ret (pv3 0)))))
    (rd_divisor K)
theorem okf_is_num {fd : FuncData} (Z : Told K mg) (F : DefS K "is_num" s_is_num fd) (gm : mg "is_num" = some (.ref (He.ga K "is_num"))) (F_is_integer : Fn3 P w K mg base 1 "is_integer" ["thing"] (sp_is_integer K)) (F_is_pair : Fn3 P w K mg base 1 "is_pair" ["thing"] (sp_is_pair K)) (F_is_within : Fn3 P w K mg base 2 "is_within" ["thing", "least", "most"] (sp_is_within K)) (F_divisor : Fn3 P w K mg base 1 "divisor" ["one", "other"] (sp_divisor K)) :
    Fn3 P w K mg base 3 "is_num" ["ground", "thing"] (sp_is_num K) :=
  fn3_mk F gm sc_is_num (fun _ _ _ _ h => len2 h)
    (fun _ _ _ _ _ _ us hl => match us, hl with
      | [_, _], _ => rfl)
    (fun f cdv A outer s H E hr => (pss3_cons (ps3_if (pt3_pw (pw3_or (pt3_not (pt3_truth (pe3_fn F_is_pair (hr.mono (by omega)) (by rfl) takes_fn (pa3_cons (pv3 1) pa3_nil)))) (pw3_or (pt3_not (pt3_truth (pe3_fn F_is_integer (hr.mono (by omega)) (by rfl) takes_fn (pa3_cons (pe3_ix (pv3 1) pe3_int (fun _ _ => rfl)) pa3_nil)))) (pw3_or1 (pt3_not (pt3_truth (pe3_fn F_is_integer (hr.mono (by omega)) (by rfl) takes_fn (pa3_cons (pe3_ix (pv3 1) pe3_int (fun _ _ => rfl)) pa3_nil)))))))) (pss3_one (ps3_ret pe3_bl)) pss3_nil) (pss3_cons (ps3_if (pt3_cmp op_gt opl_gt (pv3 0) pe3_int (nomark _)) (pss3_one (ps3_ret (pe3_and (pe3_fn F_is_within (hr.mono (by omega)) (by rfl) takes_fn (pa3_cons (pe3_ix (pv3 1) pe3_int (fun _ _ => rfl)) (pa3_cons pe3_int (pa3_cons (pe3_op op_sub opl_sub (pv3 0) pe3_int) pa3_nil)))) (pe3_one (pe3_cmp (op_eqD hr.units) opl_eq (pe3_ix (pv3 1) pe3_int (fun _ _ => rfl)) pe3_int (nomark _)))))) pss3_nil) (pss3_one (ps3_ret (pe3_and (pe3_cmp op_gt opl_gt (pe3_ix (pv3 1) pe3_int (fun _ _ => rfl)) pe3_int (nomark _)) (pe3_one (pe3_cmp (op_eqD hr.units) opl_eq (pe3_fn F_divisor (hr.mono (by omega)) (by rfl) takes_fn (pa3_cons (pe3_callB call_abs cl_abs (by rfl) Z.f_abs bt_abs (pa3_cons (pe3_ix (pv3 1) pe3_int (fun _ _ => rfl)) pa3_nil)) (pa3_cons (pe3_ix (pv3 1) pe3_int (fun _ _ => rfl)) pa3_nil))) pe3_int (nomark _)))))))))
    (rd_is_num K)
theorem okf_is_poly {fd : FuncData} (Z : Told K mg) (F : DefS K "is_poly" s_is_poly fd) (gm : mg "is_poly" = some (.ref (He.ga K "is_poly"))) (F_is_num : Fn3 P w K mg base 3 "is_num" ["ground", "thing"] (sp_is_num K)) :
    Fn3 P w K mg base 4 "is_poly" ["ground", "thing"] (sp_is_poly K) :=
  fn3_mk F gm sc_is_poly (fun _ _ _ _ h => len2 h)
    (fun _ _ _ _ _ _ us hl => match us, hl with
      | [_, _], _ => rfl)
    (fun f cdv A outer s H E hr => (pss3_cons (ps3_if (pt3_pw (pw3_or (pt3_not (pt3_truth (pe3_callB cr_isi cl_isi (by rfl) Z.f_isinstance bt_isinstance (pa3_cons (pv3 1) (pa3_cons (pe3_ty (by rfl) Z.f_tuple bt_tuple) pa3_nil))))) (pw3_or1 (pt3_not (pt3_truth (pe3_callB (cr_all rfl) cl_all (by rfl) Z.f_all bt_all (pa3_cons (pe3_lc (own := [("number", 2)]) rfl sc_is_poly.nd (pi3_seq (pv3 1)) (blkOk_by (N := N_is_poly) (sc := defScope s_is_poly) (by decide +kernel)) (fun _ _ _ _ _ => (pg3_name (i := 2) sc_is_poly.nd rfl (Or.inl rfl))) (fun _ _ _ _ _ => pts3_nil) (fun _ _ _ _ _ => (pe3_fn F_is_num (hr.mono (by omega)) (by rfl) takes0 (pa3_cons (pv3 0) (pa3_cons (pv3 2) pa3_nil))))) pa3_nil))))))) (pss3_one (ps3_ret pe3_bl)) pss3_nil) (pss3_one (ps3_ret (pe3_or (pe3_cmp (op_eqD hr.units) opl_eq (pe3_callB cr_len3 cl_len (by rfl) Z.f_len bt_len (pa3_cons (pv3 1) pa3_nil)) pe3_int (nomark _)) (pe3_one (pe3_cmp (op_neD hr.units) opl_ne (pe3_ix (pv3 1) (pe3_un un_neg ul_neg pe3_int) (fun _ _ => rfl)) (pe3_gc Z.c_NOUGHT) (nomark _))))))))
    (rd_is_poly K)
theorem okf_check_polys {fd : FuncData} (Z : Told K mg) (F : DefS K "check_polys" s_check_polys fd) (gm : mg "check_polys" = some (.ref (He.ga K "check_polys"))) (F_is_poly : Fn3 P w K mg base 4 "is_poly" ["ground", "thing"] (sp_is_poly K)) :
    Fn3 P w K mg base 5 "check_polys" ["ground", "some"] (sp_check_polys K) :=
  fn3_mk F gm sc_check_polys (fun _ _ _ _ h => len2 h)
    (fun _ _ _ _ _ _ us hl => match us, hl with
      | [_, _], _ => rfl)
    (fun f cdv A outer s H E hr => (pss3_one (ps3_if (pt3_not (pt3_truth (pe3_callB (cr_all rfl) cl_all (by rfl) Z.f_all bt_all (pa3_cons (pe3_lc (own := [("one", 2)]) rfl sc_check_polys.nd (pi3_seq (pv3 1)) (blkOk_by (N := N_check_polys) (sc := defScope s_check_polys) (by decide +kernel)) (fun _ _ _ _ _ => (pg3_name (i := 2) sc_check_polys.nd rfl (Or.inl rfl))) (fun _ _ _ _ _ => pts3_nil) (fun _ _ _ _ _ => (pe3_fn F_is_poly (hr.mono (by omega)) (by rfl) takes0 (pa3_cons (pv3 0) (pa3_cons (pv3 2) pa3_nil))))) pa3_nil)))) (pss3_one (ps3_raise rfl takes_fn Z.x_NoPolynomial Z.g_NoPolynomial rfl)) pss3_nil)))
    (rd_check_polys K)
theorem okf_made {fd : FuncData} (Z : Told K mg) (F : DefS K "made" s_made fd) (gm : mg "made" = some (.ref (He.ga K "made"))) (F_divisor : Fn3 P w K mg base 1 "divisor" ["one", "other"] (sp_divisor K)) :
    Fn3 P w K mg base 2 "made" ["ground", "top", "bottom"] (sp_made K) :=
  fn3_mk F gm sc_made (fun _ _ _ _ h => len3 h)
    (fun _ _ _ _ _ _ us hl => match us, hl with
      | [_, _, _], _ => rfl)
    (fun f cdv A outer s H E hr => (pss3_cons (ps3_if (pt3_cmp op_gt opl_gt (pv3 0) pe3_int (nomark _)) (pss3_one (ps3_ret (pe3_tup (pa3_cons (pe3_op op_mod opl_mod (pv3 1) (pv3 0)) (pa3_cons pe3_int pa3_nil))))) pss3_nil) (pss3_cons (ps3_set (i := 3) sc_made.nd rfl (Or.inl rfl) (pe3_fn F_divisor (hr.mono (by omega)) (by rfl) takes_fn (pa3_cons (pe3_callB call_abs cl_abs (by rfl) Z.f_abs bt_abs (pa3_cons (pv3 1) pa3_nil)) (pa3_cons (pv3 2) pa3_nil)))) (pss3_one (ps3_ret (pe3_tup (pa3_cons (pe3_op op_fdivF opl_div (pv3 1) (pv3 3)) (pa3_cons (pe3_op op_fdivF opl_div (pv3 2) (pv3 3)) pa3_nil))))))))
    (rd_made K)
theorem okf_plus {fd : FuncData} (Z : Told K mg) (F : DefS K "plus" s_plus fd) (gm : mg "plus" = some (.ref (He.ga K "plus"))) (F_made : Fn3 P w K mg base 2 "made" ["ground", "top", "bottom"] (sp_made K)) :
    Fn3 P w K mg base 3 "plus" ["ground", "one", "other"] (sp_plus K) :=
  fn3_mk F gm sc_plus (fun _ _ _ _ h => len3 h)
    (fun _ _ _ _ _ _ us hl => match us, hl with
      | [_, _, _], _ => rfl)
    (fun f cdv A outer s H E hr => (pss3_one (ps3_ret (pe3_fn F_made (hr.mono (by omega)) (by rfl) takes_fn (pa3_cons (pv3 0) (pa3_cons (pe3_op or_add opl_add (pe3_op or_mul opl_mul (pe3_ix (pv3 1) pe3_int (fun _ _ => rfl)) (pe3_ix (pv3 2) pe3_int (fun _ _ => rfl))) (pe3_op or_mul opl_mul (pe3_ix (pv3 2) pe3_int (fun _ _ => rfl)) (pe3_ix (pv3 1) pe3_int (fun _ _ => rfl)))) (pa3_cons (pe3_op or_mul opl_mul (pe3_ix (pv3 1) pe3_int (fun _ _ => rfl)) (pe3_ix (pv3 2) pe3_int (fun _ _ => rfl))) pa3_nil)))))))
    (rd_plus K)
theorem okf_mul {fd : FuncData} (Z : Told K mg) (F : DefS K "mul" s_mul fd) (gm : mg "mul" = some (.ref (He.ga K "mul"))) (F_made : Fn3 P w K mg base 2 "made" ["ground", "top", "bottom"] (sp_made K)) :
    Fn3 P w K mg base 3 "mul" ["ground", "one", "other"] (sp_mul K) :=
  fn3_mk F gm sc_mul (fun _ _ _ _ h => len3 h)
    (fun _ _ _ _ _ _ us hl => match us, hl with
      | [_, _, _], _ => rfl)
    (fun f cdv A outer s H E hr => (pss3_one (ps3_ret (pe3_fn F_made (hr.mono (by omega)) (by rfl) takes_fn (pa3_cons (pv3 0) (pa3_cons (pe3_op or_mul opl_mul (pe3_ix (pv3 1) pe3_int (fun _ _ => rfl)) (pe3_ix (pv3 2) pe3_int (fun _ _ => rfl))) (pa3_cons (pe3_op or_mul opl_mul (pe3_ix (pv3 1) pe3_int (fun _ _ => rfl)) (pe3_ix (pv3 2) pe3_int (fun _ _ => rfl))) pa3_nil)))))))
    (rd_mul K)
theorem okf_trimmed {fd : FuncData} (Z : Told K mg) (F : DefS K "trimmed" s_trimmed fd) (gm : mg "trimmed" = some (.ref (He.ga K "trimmed"))) :
    Fn3 P w K mg base 1 "trimmed" ["numbers"] (sp_trimmed K) :=
  fn3_mk F gm sc_trimmed (fun _ _ _ _ h => len1 h)
    (fun _ _ _ _ _ _ us hl => match us, hl with
      | [_], _ => rfl)
    (fun f cdv A outer s H E hr => (pss3_cons (ps3_set (i := 1) sc_trimmed.nd rfl (Or.inl rfl) (pe3_callB cr_len3 cl_len (by rfl) Z.f_len bt_len (pa3_cons (pv3 0) pa3_nil))) (pss3_cons (ps3_while passes_fn (pt3_pw (pw3_and (pt3_cmp op_gt opl_gt (pv3 1) pe3_int (nomark _)) (pw3_and1 (pt3_cmp (op_eqD hr.units) opl_eq (pe3_ix (pv3 0) (pe3_op op_sub opl_sub (pv3 1) pe3_int) (fun _ _ => rfl)) (pe3_gc Z.c_NOUGHT) (nomark _))))) (pss3_one (ps3_aug (i := 1) sc_trimmed.nd rfl (Or.inl rfl) pe3_int ip_sub ipl_sub))) (pss3_one (ps3_ret (pe3_callTy call_tuple_of cl_tuple (by rfl) Z.f_tuple bt_tuple (pa3_cons (pe3_slice (pv3 0) po3_none (po3_some (pv3 1))) pa3_nil)))))))
    (rd_trimmed K)
theorem okf_poly_mul {fd : FuncData} (Z : Told K mg) (F : DefS K "poly_mul" s_poly_mul fd) (gm : mg "poly_mul" = some (.ref (He.ga K "poly_mul"))) (F_plus : Fn3 P w K mg base 3 "plus" ["ground", "one", "other"] (sp_plus K)) (F_mul : Fn3 P w K mg base 3 "mul" ["ground", "one", "other"] (sp_mul K)) (F_trimmed : Fn3 P w K mg base 1 "trimmed" ["numbers"] (sp_trimmed K)) :
    Fn3 P w K mg base 4 "poly_mul" ["ground", "one", "other"] (sp_poly_mul K) :=
  fn3_mk F gm sc_poly_mul (fun _ _ _ _ h => len3 h)
    (fun _ _ _ _ _ _ us hl => match us, hl with
      | [_, _, _], _ => rfl)
    (fun f cdv A outer s H E hr => (pss3_cons (ps3_if (pt3_pw (pw3_or (pt3_cmp (op_eqD hr.units) opl_eq (pe3_callB cr_len3 cl_len (by rfl) Z.f_len bt_len (pa3_cons (pv3 1) pa3_nil)) pe3_int (nomark _)) (pw3_or1 (pt3_cmp (op_eqD hr.units) opl_eq (pe3_callB cr_len3 cl_len (by rfl) Z.f_len bt_len (pa3_cons (pv3 2) pa3_nil)) pe3_int (nomark _))))) (pss3_one (ps3_ret (pe3_tup pa3_nil))) pss3_nil) (pss3_cons (ps3_set (i := 3) sc_poly_mul.nd rfl (Or.inl rfl) (pe3_op or_mul opl_mul (pe3_lst (pa3_cons (pe3_gc Z.c_NOUGHT) pa3_nil)) (pe3_op op_sub opl_sub (pe3_op or_add opl_add (pe3_callB cr_len3 cl_len (by rfl) Z.f_len bt_len (pa3_cons (pv3 1) pa3_nil)) (pe3_callB cr_len3 cl_len (by rfl) Z.f_len bt_len (pa3_cons (pv3 2) pa3_nil))) pe3_int))) (pss3_cons (ps3_for passes_fn rfl (pi3_enum (by rfl) Z.f_enumerate (pa3_cons (pv3 1) pa3_nil)) (pg3_wish (pg3_tup rfl (pgs3_cons (pg3_name (i := 4) sc_poly_mul.nd rfl (Or.inl rfl)) (pgs3_cons (pg3_name (i := 5) sc_poly_mul.nd rfl (Or.inl rfl)) pgs3_nil))) (fun _ _ _ _ _ h => h)) (pss3_one (ps3_for passes_fn rfl (pi3_enum (by rfl) Z.f_enumerate (pa3_cons (pv3 2) pa3_nil)) (pg3_wish (pg3_tup rfl (pgs3_cons (pg3_name (i := 6) sc_poly_mul.nd rfl (Or.inl rfl)) (pgs3_cons (pg3_name (i := 7) sc_poly_mul.nd rfl (Or.inl rfl)) pgs3_nil))) (fun _ _ _ _ _ h => h)) (pss3_one (ps3_asg (pe3_fn F_plus (hr.mono (by omega)) (by rfl) takes_fn (pa3_cons (pv3 0) (pa3_cons (pe3_ix (pv3 3) (pe3_op or_add opl_add (pv3 4) (pv3 6)) (fun _ _ => rfl)) (pa3_cons (pe3_fn F_mul (hr.mono (by omega)) (by rfl) takes_fn (pa3_cons (pv3 0) (pa3_cons (pv3 5) (pa3_cons (pv3 7) pa3_nil)))) pa3_nil)))) (pg3_sub (pv3 3) (pe3_op or_add opl_add (pv3 4) (pv3 6)))))))) (pss3_one (ps3_ret (pe3_fn F_trimmed (hr.mono (by omega)) (by rfl) takes_fn (pa3_cons (pv3 3) pa3_nil))))))))
    (rd_poly_mul K)
theorem okf_multiplied {fd : FuncData} (Z : Told K mg) (F : DefS K "multiplied" s_multiplied fd) (gm : mg "multiplied" = some (.ref (He.ga K "multiplied"))) (F_check_ground : Fn3 P w K mg base 3 "check_ground" ["thing"] (sp_check_ground K)) (F_check_polys : Fn3 P w K mg base 5 "check_polys" ["ground", "some"] (sp_check_polys K)) (F_poly_mul : Fn3 P w K mg base 4 "poly_mul" ["ground", "one", "other"] (sp_poly_mul K)) :
    Fn3 P w K mg base 6 "multiplied" ["ground", "one", "other"] (sp_multiplied K) :=
  fn3_mk F gm sc_multiplied (fun _ _ _ _ h => len3 h)
    (fun _ _ _ _ _ _ us hl => match us, hl with
      | [_, _, _], _ => rfl)
    (fun f cdv A outer s H E hr => (pss3_cons (ps3_expr (pe3_fn F_check_ground (hr.mono (by omega)) (by rfl) takes_fn (pa3_cons (pv3 0) pa3_nil))) (pss3_cons (ps3_expr (pe3_fn F_check_polys (hr.mono (by omega)) (by rfl) takes_fn (pa3_cons (pv3 0) (pa3_cons (pe3_tup (pa3_cons (pv3 1) (pa3_cons (pv3 2) pa3_nil))) pa3_nil)))) (pss3_one (ps3_ret (pe3_fn F_poly_mul (hr.mono (by omega)) (by rfl) takes_fn (pa3_cons (pv3 0) (pa3_cons (pv3 1) (pa3_cons (pv3 2) pa3_nil)))))))))
    (rd_multiplied K)
theorem okR__law_same {fd : FuncData} (Z : Told K mg) (F : DefS K "_law_same" s__law_same fd) (gm : mg "_law_same" = some (.ref (He.ga K "_law_same"))) :
    ∀ n, Fn3 P w K mg base (1 + n) "_law_same" ["told", "due"] (sp__law_sameR K n) := by
  intro n
  induction n with
  | zero => exact fn3_none F gm (fun _ _ _ _ _ _ us hl => match us, hl with
      | [_, _], _ => rfl)
  | succ n ih =>
    exact fn3_mk (k := 1 + n) (sp := sp__law_sameR K (n + 1)) F gm sc__law_same (fun _ _ _ _ h => by unfold sp__law_sameR at h; exact len2 h)
        (fun _ _ _ _ _ _ us hl => match us, hl with
          | [_, _], _ => rfl)
        (fun f cdv A outer s H E hr => (pss3_cons (ps3_if (pt3_truth (pe3_callB cr_isi cl_isi (by rfl) Z.f_isinstance bt_isinstance (pa3_cons (pv3 1) (pa3_cons (pe3_tup (pa3_cons (pe3_ty (by rfl) Z.f_tuple bt_tuple) (pa3_cons (pe3_ty (by rfl) Z.f_list bt_list) pa3_nil))) pa3_nil)))) (pss3_cons (ps3_if (pt3_pw (pw3_or (pt3_cmp (op_neD hr.units) opl_ne (pe3_callB cr_isi cl_isi (by rfl) Z.f_isinstance bt_isinstance (pa3_cons (pv3 0) (pa3_cons (pe3_ty (by rfl) Z.f_tuple bt_tuple) pa3_nil))) (pe3_callB cr_isi cl_isi (by rfl) Z.f_isinstance bt_isinstance (pa3_cons (pv3 1) (pa3_cons (pe3_ty (by rfl) Z.f_tuple bt_tuple) pa3_nil))) (nomark _)) (pw3_or1 (pt3_not (pt3_truth (pe3_callB cr_isi cl_isi (by rfl) Z.f_isinstance bt_isinstance (pa3_cons (pv3 0) (pa3_cons (pe3_tup (pa3_cons (pe3_ty (by rfl) Z.f_tuple bt_tuple) (pa3_cons (pe3_ty (by rfl) Z.f_list bt_list) pa3_nil))) pa3_nil)))))))) (pss3_one (ps3_ret pe3_bl)) pss3_nil) (pss3_one (ps3_ret (pe3_and (pe3_cmp (op_eqD hr.units) opl_eq (pe3_callB cr_len3 cl_len (by rfl) Z.f_len bt_len (pa3_cons (pv3 0) pa3_nil)) (pe3_callB cr_len3 cl_len (by rfl) Z.f_len bt_len (pa3_cons (pv3 1) pa3_nil)) (nomark _)) (pe3_one (pe3_callB (cr_all rfl) cl_all (by rfl) Z.f_all bt_all (pa3_cons (pe3_lc (own := [("one", 2), ("two", 3)]) rfl sc__law_same.nd (pi3_zip (by rfl) Z.f_zip (pa3_cons (pv3 0) (pa3_cons (pv3 1) pa3_nil))) (blkOk_by (N := N__law_same) (sc := defScope s__law_same) (by decide +kernel)) (fun _ _ _ _ _ => (pg3_tup rfl (pgs3_cons (pg3_name (i := 2) sc__law_same.nd rfl (Or.inl rfl)) (pgs3_cons (pg3_name (i := 3) sc__law_same.nd rfl (Or.inl rfl)) pgs3_nil)))) (fun _ _ _ _ _ => pts3_nil) (fun _ _ _ _ _ => (pe3_fn ih (hr.mono (by omega)) (by rfl) takes0 (pa3_cons (pv3 2) (pa3_cons (pv3 3) pa3_nil))))) pa3_nil))))))) pss3_nil) (pss3_one (ps3_ret (pe3_and (pe3_cmp (op_eqD hr.units) opl_eq (pe3_callB cr_isi cl_isi (by rfl) Z.f_isinstance bt_isinstance (pa3_cons (pv3 0) (pa3_cons (pe3_ty (by rfl) Z.f_bool bt_bool) pa3_nil))) (pe3_callB cr_isi cl_isi (by rfl) Z.f_isinstance bt_isinstance (pa3_cons (pv3 1) (pa3_cons (pe3_ty (by rfl) Z.f_bool bt_bool) pa3_nil))) (nomark _)) (pe3_one (pe3_cmp (op_eqD hr.units) opl_eq (pv3 0) (pv3 1) (nomark _))))))))
      (rd__law_same K n)
theorem okf__law_same {fd : FuncData} (Z : Told K mg) (F : DefS K "_law_same" s__law_same fd) (gm : mg "_law_same" = some (.ref (He.ga K "_law_same"))) :
    Fn3 P w K mg base 41 "_law_same" ["told", "due"] (sp__law_same K) := okR__law_same Z F gm 40
theorem okf__law_worth {fd : FuncData} (Z : Told K mg) (F : DefS K "_law_worth" s__law_worth fd) (gm : mg "_law_worth" = some (.ref (He.ga K "_law_worth"))) (F__law_add : Fn3 P w K mg base 3 "_law_add" ["ground", "one", "other"] (sp__law_add K)) (F__law_mul : Fn3 P w K mg base 3 "_law_mul" ["ground", "one", "other"] (sp__law_mul K)) :
    Fn3 P w K mg base 4 "_law_worth" ["ground", "polynomial", "point"] (sp__law_worth K) :=
  fn3_mk F gm sc__law_worth (fun _ _ _ _ h => len3 h)
    (fun _ _ _ _ _ _ us hl => match us, hl with
      | [_, _, _], _ => rfl)
    (fun f cdv A outer s H E hr => (pss3_cons (ps3_set (i := 3) sc__law_worth.nd rfl (Or.inl rfl) (pe3_tup (pa3_cons pe3_int (pa3_cons pe3_int pa3_nil)))) (pss3_cons (ps3_for passes_fn rfl (pi3_seq (pe3_rev (pv3 1))) (pg3_name (i := 4) sc__law_worth.nd rfl (Or.inl rfl)) (pss3_one (ps3_set (i := 3) sc__law_worth.nd rfl (Or.inl rfl) (pe3_fn F__law_add (hr.mono (by omega)) (by rfl) takes_fn (pa3_cons (pv3 0) (pa3_cons (pe3_fn F__law_mul (hr.mono (by omega)) (by rfl) takes_fn (pa3_cons (pv3 0) (pa3_cons (pv3 3) (pa3_cons (pv3 2) pa3_nil)))) (pa3_cons (pv3 4) pa3_nil))))))) (pss3_one (ps3_ret (pv3 3))))))
    (rd__law_worth K)
theorem okf__law_deep {fd : FuncData} (Z : Told K mg) (F : DefS K "_law_deep" s__law_deep fd) (gm : mg "_law_deep" = some (.ref (He.ga K "_law_deep"))) (F__law_any : Fn3 P w K mg base 2 "_law_any" ["hand", "some"] (sp__law_any K)) (F__law_draw : Fn3 P w K mg base 1 "_law_draw" ["hand", "many"] (sp__law_draw K)) :
    Fn3 P w K mg base 3 "_law_deep" ["hand"] (sp__law_deep K) :=
  fn3_mk F gm sc__law_deep (fun _ _ _ _ h => len1 h)
    (fun _ _ _ _ _ _ us hl => match us, hl with
      | [_], _ => rfl)
    (fun f cdv A outer s H E hr => (pss3_cons (ps3_set (i := 1) sc__law_deep.nd rfl (Or.inl rfl) (pe3_fn F__law_any (hr.mono (by omega)) (by rfl) takes_fn (pa3_cons (pv3 0) (pa3_cons (pe3_lst (pa3_cons pe3_int (pa3_cons (pe3_tup pa3_nil) (pa3_cons pe3_str (pa3_cons (pe3_tup (pa3_cons pe3_int (pa3_cons pe3_int pa3_nil))) pa3_nil))))) pa3_nil)))) (pss3_cons (ps3_for passes_fn rfl (pi3_range1 (by rfl) Z.f_range (pa3_cons (pe3_op or_add opl_add pe3_int (pe3_fn F__law_draw (hr.mono (by omega)) (by rfl) takes_fn (pa3_cons (pv3 0) (pa3_cons pe3_int pa3_nil)))) pa3_nil)) (pg3_name (i := 2) sc__law_deep.nd rfl (Or.inl rfl)) (pss3_one (ps3_set (i := 1) sc__law_deep.nd rfl (Or.inl rfl) (pe3_if (pt3_cmp op_gt opl_gt (pe3_fn F__law_draw (hr.mono (by omega)) (by rfl) takes_fn (pa3_cons (pv3 0) (pa3_cons pe3_int pa3_nil))) pe3_int (nomark _)) (pe3_tup (pa3_cons (pv3 1) pa3_nil)) (pe3_lst (pa3_cons (pv3 1) pa3_nil)))))) (pss3_one (ps3_ret (pv3 1))))))
    (rd__law_deep K)
theorem okf__law_odd {fd : FuncData} (Z : Told K mg) (F : DefS K "_law_odd" s__law_odd fd) (gm : mg "_law_odd" = some (.ref (He.ga K "_law_odd"))) (F__law_any : Fn3 P w K mg base 2 "_law_any" ["hand", "some"] (sp__law_any K)) (F__law_deep : Fn3 P w K mg base 3 "_law_deep" ["hand"] (sp__law_deep K)) :
    Fn3 P w K mg base 4 "_law_odd" ["hand", "thing"] (sp__law_odd K) :=
  fn3_mk F gm sc__law_odd (fun _ _ _ _ h => len2 h)
    (fun _ _ _ _ _ _ us hl => match us, hl with
      | [_, _], _ => rfl)
    (fun f cdv A outer s H E hr => (pss3_cons (ps3_set (i := 2) sc__law_odd.nd rfl (Or.inl rfl) (pe3_lst (pa3_cons pe3_non (pa3_cons pe3_bl (pa3_cons pe3_bl (pa3_cons pe3_int (pa3_cons (pe3_un un_neg ul_neg pe3_int) (pa3_cons pe3_str (pa3_cons pe3_str (pa3_cons (pe3_tup pa3_nil) (pa3_cons (pe3_lst pa3_nil) (pa3_cons pe3_dict0 (pa3_cons (pe3_tup (pa3_cons pe3_int pa3_nil)) (pa3_cons (pe3_tup (pa3_cons (pe3_tup (pa3_cons pe3_int (pa3_cons pe3_int pa3_nil))) pa3_nil)) (pa3_cons (pe3_tup (pa3_cons pe3_non pa3_nil)) (pa3_cons (pe3_op op_pow opl_pow pe3_int pe3_int) (pa3_cons (pv3 1) pa3_nil))))))))))))))))) (pss3_one (ps3_ret (pe3_fn F__law_any (hr.mono (by omega)) (by rfl) takes_fn (pa3_cons (pv3 0) (pa3_cons (pe3_op or_add opl_add (pv3 2) (pe3_lst (pa3_cons (pe3_fn F__law_deep (hr.mono (by omega)) (by rfl) takes_fn (pa3_cons (pv3 0) pa3_nil)) pa3_nil))) pa3_nil)))))))
    (rd__law_odd K)
theorem okf__law_bent {fd : FuncData} (Z : Told K mg) (F : DefS K "_law_bent" s__law_bent fd) (gm : mg "_law_bent" = some (.ref (He.ga K "_law_bent"))) (F__law_any : Fn3 P w K mg base 2 "_law_any" ["hand", "some"] (sp__law_any K)) (F__law_draw : Fn3 P w K mg base 1 "_law_draw" ["hand", "many"] (sp__law_draw K)) (F__law_odd : Fn3 P w K mg base 4 "_law_odd" ["hand", "thing"] (sp__law_odd K)) :
    Fn3 P w K mg base 5 "_law_bent" ["hand", "ground", "polynomial"] (sp__law_bent K) :=
  fn3_mk F gm sc__law_bent (fun _ _ _ _ h => len3 h)
    (fun _ _ _ _ _ _ us hl => match us, hl with
      | [_, _, _], _ => rfl)
    (fun f cdv A outer s H E hr => (pss3_cons (ps3_set (i := 3) sc__law_bent.nd rfl (Or.inl rfl) (pe3_lst (pa3_cons (pe3_tup (pa3_cons pe3_int (pa3_cons pe3_int pa3_nil))) (pa3_cons (pe3_tup (pa3_cons (pv3 1) (pa3_cons pe3_int pa3_nil))) (pa3_cons (pe3_tup (pa3_cons pe3_int (pa3_cons pe3_int pa3_nil))) (pa3_cons (pe3_tup (pa3_cons pe3_int (pa3_cons pe3_int pa3_nil))) (pa3_cons (pe3_tup (pa3_cons (pe3_un un_neg ul_neg pe3_int) (pa3_cons pe3_int pa3_nil))) (pa3_cons (pe3_tup (pa3_cons pe3_int (pa3_cons pe3_bl pa3_nil))) (pa3_cons (pe3_lst (pa3_cons pe3_int (pa3_cons pe3_int pa3_nil))) (pa3_cons pe3_int (pa3_cons (pe3_tup (pa3_cons pe3_int (pa3_cons pe3_int (pa3_cons pe3_int pa3_nil)))) (pa3_cons (pe3_tup (pa3_cons pe3_bl (pa3_cons pe3_int pa3_nil))) pa3_nil)))))))))))) (pss3_cons (ps3_set (i := 4) sc__law_bent.nd rfl (Or.inl rfl) (pe3_fn F__law_any (hr.mono (by omega)) (by rfl) takes_fn (pa3_cons (pv3 0) (pa3_cons (pv3 3) pa3_nil)))) (pss3_cons (ps3_set (i := 5) sc__law_bent.nd rfl (Or.inl rfl) (pe3_fn F__law_draw (hr.mono (by omega)) (by rfl) takes_fn (pa3_cons (pv3 0) (pa3_cons (pe3_op or_add opl_add (pe3_callB cr_len3 cl_len (by rfl) Z.f_len bt_len (pa3_cons (pv3 2) pa3_nil)) pe3_int) pa3_nil)))) (pss3_cons (ps3_set (i := 6) sc__law_bent.nd rfl (Or.inl rfl) (pe3_lst (pa3_cons (pe3_op or_add opl_add (pv3 2) (pe3_tup (pa3_cons (pe3_tup (pa3_cons pe3_int (pa3_cons pe3_int pa3_nil))) pa3_nil))) (pa3_cons (pe3_op or_add opl_add (pe3_op or_add opl_add (pe3_slice (pv3 2) po3_none (po3_some (pv3 5))) (pe3_tup (pa3_cons (pv3 4) pa3_nil))) (pe3_slice (pv3 2) (po3_some (pv3 5)) po3_none)) (pa3_cons (pe3_callTy call_list_of cl_list (by rfl) Z.f_list bt_list (pa3_cons (pv3 2) pa3_nil)) (pa3_cons (pe3_slice (pv3 2) po3_none (po3_some (pv3 5))) pa3_nil)))))) (pss3_one (ps3_ret (pe3_fn F__law_any (hr.mono (by omega)) (by rfl) takes_fn (pa3_cons (pv3 0) (pa3_cons (pe3_op or_add opl_add (pv3 6) (pe3_lst (pa3_cons (pe3_tup (pa3_cons (pe3_tup (pa3_cons pe3_int (pa3_cons pe3_int pa3_nil))) pa3_nil)) (pa3_cons (pv3 2) (pa3_cons (pe3_op or_add opl_add (pv3 2) (pe3_tup (pa3_cons (pv3 4) pa3_nil))) (pa3_cons (pe3_fn F__law_odd (hr.mono (by omega)) (by rfl) takes_fn (pa3_cons (pv3 0) (pa3_cons (pv3 2) pa3_nil))) pa3_nil)))))) pa3_nil))))))))))
    (rd__law_bent K)
theorem okf_is_polynomial {fd : FuncData} (Z : Told K mg) (F : DefS K "is_polynomial" s_is_polynomial fd) (gm : mg "is_polynomial" = some (.ref (He.ga K "is_polynomial"))) (F_check_ground : Fn3 P w K mg base 3 "check_ground" ["thing"] (sp_check_ground K)) (F_is_poly : Fn3 P w K mg base 4 "is_poly" ["ground", "thing"] (sp_is_poly K)) :
    Fn3 P w K mg base 5 "is_polynomial" ["ground", "thing"] (sp_is_polynomial K) :=
  fn3_mk F gm sc_is_polynomial (fun _ _ _ _ h => len2 h)
    (fun _ _ _ _ _ _ us hl => match us, hl with
      | [_, _], _ => rfl)
    (fun f cdv A outer s H E hr => (pss3_cons (ps3_expr (pe3_fn F_check_ground (hr.mono (by omega)) (by rfl) takes_fn (pa3_cons (pv3 0) pa3_nil))) (pss3_one (ps3_ret (pe3_fn F_is_poly (hr.mono (by omega)) (by rfl) takes_fn (pa3_cons (pv3 0) (pa3_cons (pv3 1) pa3_nil)))))))
    (rd_is_polynomial K)
theorem okf__law_is_num {fd : FuncData} (Z : Told K mg) (F : DefS K "_law_is_num" s__law_is_num fd) (gm : mg "_law_is_num" = some (.ref (He.ga K "_law_is_num"))) (F__law_divisor : Fn3 P w K mg base 1 "_law_divisor" ["one", "other"] (sp__law_divisor K)) :
    Fn3 P w K mg base 2 "_law_is_num" ["ground", "thing"] (sp__law_is_num K) :=
  fn3_mk F gm sc__law_is_num (fun _ _ _ _ h => len2 h)
    (fun _ _ _ _ _ _ us hl => match us, hl with
      | [_, _], _ => rfl)
    (fun f cdv A outer s H E hr => (pss3_cons (ps3_if (pt3_pw (pw3_or (pt3_not (pt3_truth (pe3_callB cr_isi cl_isi (by rfl) Z.f_isinstance bt_isinstance (pa3_cons (pv3 1) (pa3_cons (pe3_ty (by rfl) Z.f_tuple bt_tuple) pa3_nil))))) (pw3_or1 (pt3_cmp (op_neD hr.units) opl_ne (pe3_callB cr_len3 cl_len (by rfl) Z.f_len bt_len (pa3_cons (pv3 1) pa3_nil)) pe3_int (nomark _))))) (pss3_one (ps3_ret pe3_bl)) pss3_nil) (pss3_cons (ps3_if (pt3_not (pt3_truth (pe3_callB (cr_all rfl) cl_all (by rfl) Z.f_all bt_all (pa3_cons (pe3_lc (own := [("one", 2)]) rfl sc__law_is_num.nd (pi3_seq (pv3 1)) (blkOk_by (N := N__law_is_num) (sc := defScope s__law_is_num) (by decide +kernel)) (fun _ _ _ _ _ => (pg3_name (i := 2) sc__law_is_num.nd rfl (Or.inl rfl))) (fun _ _ _ _ _ => pts3_nil) (fun _ _ _ _ _ => (pe3_and (pe3_callB cr_isi cl_isi (by rfl) Z.f_isinstance bt_isinstance (pa3_cons (pv3 2) (pa3_cons (pe3_ty (by rfl) Z.f_int bt_int) pa3_nil))) (pe3_one (pe3_not (pe3_callB cr_isi cl_isi (by rfl) Z.f_isinstance bt_isinstance (pa3_cons (pv3 2) (pa3_cons (pe3_ty (by rfl) Z.f_bool bt_bool) pa3_nil)))))))) pa3_nil)))) (pss3_one (ps3_ret pe3_bl)) pss3_nil) (pss3_cons (ps3_if (pt3_cmp op_gt opl_gt (pv3 0) pe3_int (nomark _)) (pss3_one (ps3_ret (pe3_and (pe3_cmp (op_eqD hr.units) opl_eq (pe3_ix (pv3 1) pe3_int (fun _ _ => rfl)) pe3_int (nomark _)) (pe3_one (pe3_chain op_le opl_le op_lt opl_lt pe3_int (pe3_ix (pv3 1) pe3_int (fun _ _ => rfl)) (pv3 0)))))) pss3_nil) (pss3_one (ps3_ret (pe3_and (pe3_cmp op_gt opl_gt (pe3_ix (pv3 1) pe3_int (fun _ _ => rfl)) pe3_int (nomark _)) (pe3_one (pe3_cmp (op_eqD hr.units) opl_eq (pe3_fn F__law_divisor (hr.mono (by omega)) (by rfl) takes_fn (pa3_cons (pe3_callB call_abs cl_abs (by rfl) Z.f_abs bt_abs (pa3_cons (pe3_ix (pv3 1) pe3_int (fun _ _ => rfl)) pa3_nil)) (pa3_cons (pe3_ix (pv3 1) pe3_int (fun _ _ => rfl)) pa3_nil))) pe3_int (nomark _))))))))))
    (rd__law_is_num K)
theorem okf__law_is_poly {fd : FuncData} (Z : Told K mg) (F : DefS K "_law_is_poly" s__law_is_poly fd) (gm : mg "_law_is_poly" = some (.ref (He.ga K "_law_is_poly"))) (F__law_is_num : Fn3 P w K mg base 2 "_law_is_num" ["ground", "thing"] (sp__law_is_num K)) :
    Fn3 P w K mg base 3 "_law_is_poly" ["ground", "thing"] (sp__law_is_poly K) :=
  fn3_mk F gm sc__law_is_poly (fun _ _ _ _ h => len2 h)
    (fun _ _ _ _ _ _ us hl => match us, hl with
      | [_, _], _ => rfl)
    (fun f cdv A outer s H E hr => (pss3_cons (ps3_if (pt3_pw (pw3_or (pt3_not (pt3_truth (pe3_callB cr_isi cl_isi (by rfl) Z.f_isinstance bt_isinstance (pa3_cons (pv3 1) (pa3_cons (pe3_ty (by rfl) Z.f_tuple bt_tuple) pa3_nil))))) (pw3_or1 (pt3_not (pt3_truth (pe3_callB (cr_all rfl) cl_all (by rfl) Z.f_all bt_all (pa3_cons (pe3_lc (own := [("one", 2)]) rfl sc__law_is_poly.nd (pi3_seq (pv3 1)) (blkOk_by (N := N__law_is_poly) (sc := defScope s__law_is_poly) (by decide +kernel)) (fun _ _ _ _ _ => (pg3_name (i := 2) sc__law_is_poly.nd rfl (Or.inl rfl))) (fun _ _ _ _ _ => pts3_nil) (fun _ _ _ _ _ => (pe3_fn F__law_is_num (hr.mono (by omega)) (by rfl) takes0 (pa3_cons (pv3 0) (pa3_cons (pv3 2) pa3_nil))))) pa3_nil))))))) (pss3_one (ps3_ret pe3_bl)) pss3_nil) (pss3_one (ps3_ret (pe3_or (pe3_cmp (op_eqD hr.units) opl_eq (pe3_callB cr_len3 cl_len (by rfl) Z.f_len bt_len (pa3_cons (pv3 1) pa3_nil)) pe3_int (nomark _)) (pe3_one (pe3_cmp (op_neD hr.units) opl_ne (pe3_ix (pe3_ix (pv3 1) (pe3_un un_neg ul_neg pe3_int) (fun _ _ => rfl)) pe3_int (fun _ _ => rfl)) pe3_int (nomark _))))))))
    (rd__law_is_poly K)
theorem okf_law {fd : FuncData} (Z : Told K mg) (F : DefS K "law" s_law fd) (F__law_hand : Fn3 P w K mg base 1 "_law_hand" ["script"] (sp__law_hand K)) (F__law_ground : Fn3 P w K mg base 3 "_law_ground" ["hand"] (sp__law_ground K)) (F__law_poly : Fn3 P w K mg base 4 "_law_poly" ["hand", "ground"] (sp__law_poly K)) (F__law_product : Fn3 P w K mg base 4 "_law_product" ["ground", "one", "other"] (sp__law_product K)) (F_multiplied : Fn3 P w K mg base 6 "multiplied" ["ground", "one", "other"] (sp_multiplied K)) (F__law_same : Fn3 P w K mg base 41 "_law_same" ["told", "due"] (sp__law_same K)) (F__law_number : Fn3 P w K mg base 3 "_law_number" ["hand", "ground"] (sp__law_number K)) (F__law_mul : Fn3 P w K mg base 3 "_law_mul" ["ground", "one", "other"] (sp__law_mul K)) (F__law_worth : Fn3 P w K mg base 4 "_law_worth" ["ground", "polynomial", "point"] (sp__law_worth K)) (F__law_bent : Fn3 P w K mg base 5 "_law_bent" ["hand", "ground", "polynomial"] (sp__law_bent K)) (F_is_polynomial : Fn3 P w K mg base 5 "is_polynomial" ["ground", "thing"] (sp_is_polynomial K)) (F__law_is_poly : Fn3 P w K mg base 3 "_law_is_poly" ["ground", "thing"] (sp__law_is_poly K)) :
    FnOk3 P w K mg base 42 (He.ga K "law") fd ["script"] (sp_law K) :=
  fnok_mk F sc_law (fun _ _ _ _ h => len1 h)
    (fun f cdv A outer s H E hr => (pss3_cons (ps3_set (i := 1) sc_law.nd rfl (Or.inl rfl) (pe3_fn F__law_hand (hr.mono (by omega)) (by rfl) takes_fn (pa3_cons (pv3 0) pa3_nil))) (pss3_cons (ps3_for passes_fn rfl (pi3_range1 (by rfl) Z.f_range (pa3_cons pe3_int pa3_nil)) (pg3_name (i := 2) sc_law.nd rfl (Or.inl rfl)) (pss3_cons (ps3_set (i := 3) sc_law.nd rfl (Or.inl rfl) (pe3_fn F__law_ground (hr.mono (by omega)) (by rfl) takes_fn (pa3_cons (pv3 1) pa3_nil))) (pss3_cons (ps3_par (i := 4) (j := 5) rfl sc_law.nd rfl rfl (by decide) rfl rfl (pa3_cons (pe3_fn F__law_poly (hr.mono (by omega)) (by rfl) takes_fn (pa3_cons (pv3 1) (pa3_cons (pv3 3) pa3_nil))) (pa3_cons (pe3_fn F__law_poly (hr.mono (by omega)) (by rfl) takes_fn (pa3_cons (pv3 1) (pa3_cons (pv3 3) pa3_nil))) pa3_nil)) (by rfl)) (pss3_cons (ps3_par (i := 6) (j := 7) rfl sc_law.nd rfl rfl (by decide) rfl rfl (pa3_cons (pe3_fn F_multiplied (hr.mono (by omega)) (by rfl) takes_fn (pa3_cons (pv3 3) (pa3_cons (pv3 4) (pa3_cons (pv3 5) pa3_nil)))) (pa3_cons (pe3_fn F__law_product (hr.mono (by omega)) (by rfl) takes_fn (pa3_cons (pv3 3) (pa3_cons (pv3 4) (pa3_cons (pv3 5) pa3_nil)))) pa3_nil)) (by rfl)) (pss3_cons (ps3_if (pt3_pw (pw3_or (pt3_not (pt3_truth (pe3_fn F__law_same (hr.mono (by omega)) (by rfl) takes_fn (pa3_cons (pv3 6) (pa3_cons (pv3 7) pa3_nil))))) (pw3_or1 (pt3_not (pt3_truth (pe3_fn F__law_same (hr.mono (by omega)) (by rfl) takes_fn (pa3_cons (pe3_fn F_multiplied (hr.mono (by omega)) (by rfl) takes_fn (pa3_cons (pv3 3) (pa3_cons (pv3 5) (pa3_cons (pv3 4) pa3_nil)))) (pa3_cons (pv3 7) pa3_nil)))))))) (pss3_one (ps3_ret pe3_bl)) pss3_nil) (pss3_cons (ps3_set (i := 8) sc_law.nd rfl (Or.inl rfl) (pe3_fn F__law_number (hr.mono (by omega)) (by rfl) takes_fn (pa3_cons (pv3 1) (pa3_cons (pv3 3) pa3_nil)))) (pss3_cons (ps3_set (i := 9) sc_law.nd rfl (Or.inl rfl) (pe3_fn F__law_mul (hr.mono (by omega)) (by rfl) takes_fn (pa3_cons (pv3 3) (pa3_cons (pe3_fn F__law_worth (hr.mono (by omega)) (by rfl) takes_fn (pa3_cons (pv3 3) (pa3_cons (pv3 4) (pa3_cons (pv3 8) pa3_nil)))) (pa3_cons (pe3_fn F__law_worth (hr.mono (by omega)) (by rfl) takes_fn (pa3_cons (pv3 3) (pa3_cons (pv3 5) (pa3_cons (pv3 8) pa3_nil)))) pa3_nil))))) (pss3_cons (ps3_if (pt3_cmp (op_neD hr.units) opl_ne (pe3_fn F__law_worth (hr.mono (by omega)) (by rfl) takes_fn (pa3_cons (pv3 3) (pa3_cons (pv3 6) (pa3_cons (pv3 8) pa3_nil)))) (pv3 9) (nomark _)) (pss3_one (ps3_ret pe3_bl)) pss3_nil) (pss3_cons (ps3_for passes_fn rfl (pi3_range1 (by rfl) Z.f_range (pa3_cons pe3_int pa3_nil)) (pg3_name (i := 10) sc_law.nd rfl (Or.inl rfl)) (pss3_cons (ps3_set (i := 11) sc_law.nd rfl (Or.inl rfl) (pe3_fn F__law_bent (hr.mono (by omega)) (by rfl) takes_fn (pa3_cons (pv3 1) (pa3_cons (pv3 3) (pa3_cons (pv3 4) pa3_nil))))) (pss3_cons (ps3_set (i := 12) sc_law.nd rfl (Or.inl rfl) (pe3_fn F_is_polynomial (hr.mono (by omega)) (by rfl) takes_fn (pa3_cons (pv3 3) (pa3_cons (pv3 11) pa3_nil)))) (pss3_one (ps3_if (pt3_pw (pw3_or (pt3_not (pt3_truth (pe3_callB cr_isi cl_isi (by rfl) Z.f_isinstance bt_isinstance (pa3_cons (pv3 12) (pa3_cons (pe3_ty (by rfl) Z.f_bool bt_bool) pa3_nil))))) (pw3_or1 (pt3_cmp (op_neD hr.units) opl_ne (pv3 12) (pe3_fn F__law_is_poly (hr.mono (by omega)) (by rfl) takes_fn (pa3_cons (pv3 3) (pa3_cons (pv3 11) pa3_nil))) (nomark _))))) (pss3_one (ps3_ret pe3_bl)) pss3_nil))))) (pss3_one (ps3_if (pt3_pw (pw3_or (pt3_cmp or_isnot opl_isnot (pe3_fn F_is_polynomial (hr.mono (by omega)) (by rfl) takes_fn (pa3_cons (pv3 3) (pa3_cons (pv3 4) pa3_nil))) pe3_bl (nomark _)) (pw3_or1 (pt3_cmp or_isnot opl_isnot (pe3_fn F_is_polynomial (hr.mono (by omega)) (by rfl) takes_fn (pa3_cons (pv3 3) (pa3_cons (pv3 6) pa3_nil))) pe3_bl (nomark _))))) (pss3_one (ps3_ret pe3_bl)) pss3_nil))))))))))) (pss3_one (ps3_ret pe3_bl)))))
    (rd_law K)
end
/-! ### the head -/
def df__law_hand : He.DefD := ⟨("_law_hand", none), "_law_hand", "_law_hand", defArgs s__law_hand, defBody s__law_hand, defScope s__law_hand, [], []⟩
def df__law_draw : He.DefD := ⟨("_law_draw", none), "_law_draw", "_law_draw", defArgs s__law_draw, defBody s__law_draw, defScope s__law_draw, [], []⟩
def df__law_any : He.DefD := ⟨("_law_any", none), "_law_any", "_law_any", defArgs s__law_any, defBody s__law_any, defScope s__law_any, [], []⟩
def df__law_primes : He.DefD := ⟨("_law_primes", none), "_law_primes", "_law_primes", defArgs s__law_primes, defBody s__law_primes, defScope s__law_primes, [], []⟩
def df__law_ground : He.DefD := ⟨("_law_ground", none), "_law_ground", "_law_ground", defArgs s__law_ground, defBody s__law_ground, defScope s__law_ground, [], []⟩
def df__law_divisor : He.DefD := ⟨("_law_divisor", none), "_law_divisor", "_law_divisor", defArgs s__law_divisor, defBody s__law_divisor, defScope s__law_divisor, [], []⟩
def df__law_num : He.DefD := ⟨("_law_num", none), "_law_num", "_law_num", defArgs s__law_num, defBody s__law_num, defScope s__law_num, [], []⟩
def df__law_number : He.DefD := ⟨("_law_number", none), "_law_number", "_law_number", defArgs s__law_number, defBody s__law_number, defScope s__law_number, [], []⟩
def df__law_poly : He.DefD := ⟨("_law_poly", none), "_law_poly", "_law_poly", defArgs s__law_poly, defBody s__law_poly, defScope s__law_poly, [], []⟩
def df__law_add : He.DefD := ⟨("_law_add", none), "_law_add", "_law_add", defArgs s__law_add, defBody s__law_add, defScope s__law_add, [], []⟩
def df__law_mul : He.DefD := ⟨("_law_mul", none), "_law_mul", "_law_mul", defArgs s__law_mul, defBody s__law_mul, defScope s__law_mul, [], []⟩
def df__law_product : He.DefD := ⟨("_law_product", none), "_law_product", "_law_product", defArgs s__law_product, defBody s__law_product, defScope s__law_product, [], []⟩
def df_is_integer : He.DefD := ⟨("is_integer", none), "is_integer", "is_integer", defArgs s_is_integer, defBody s_is_integer, defScope s_is_integer, [], []⟩
def df_is_ground : He.DefD := ⟨("is_ground", none), "is_ground", "is_ground", defArgs s_is_ground, defBody s_is_ground, defScope s_is_ground, [], []⟩
def df_check_ground : He.DefD := ⟨("check_ground", none), "check_ground", "check_ground", defArgs s_check_ground, defBody s_check_ground, defScope s_check_ground, [], []⟩
def df_is_pair : He.DefD := ⟨("is_pair", none), "is_pair", "is_pair", defArgs s_is_pair, defBody s_is_pair, defScope s_is_pair, [], []⟩
def df_is_within : He.DefD := ⟨("is_within", none), "is_within", "is_within", defArgs s_is_within, defBody s_is_within, defScope s_is_within, [], []⟩
def df_divisor : He.DefD := ⟨("divisor", none), "divisor", "divisor", defArgs s_divisor, defBody s_divisor, defScope s_divisor, [], []⟩
def df_is_num : He.DefD := ⟨("is_num", none), "is_num", "is_num", defArgs s_is_num, defBody s_is_num, defScope s_is_num, [], []⟩
def df_is_poly : He.DefD := ⟨("is_poly", none), "is_poly", "is_poly", defArgs s_is_poly, defBody s_is_poly, defScope s_is_poly, [], []⟩
def df_check_polys : He.DefD := ⟨("check_polys", none), "check_polys", "check_polys", defArgs s_check_polys, defBody s_check_polys, defScope s_check_polys, [], []⟩
def df_made : He.DefD := ⟨("made", none), "made", "made", defArgs s_made, defBody s_made, defScope s_made, [], []⟩
def df_plus : He.DefD := ⟨("plus", none), "plus", "plus", defArgs s_plus, defBody s_plus, defScope s_plus, [], []⟩
def df_mul : He.DefD := ⟨("mul", none), "mul", "mul", defArgs s_mul, defBody s_mul, defScope s_mul, [], []⟩
def df_trimmed : He.DefD := ⟨("trimmed", none), "trimmed", "trimmed", defArgs s_trimmed, defBody s_trimmed, defScope s_trimmed, [], []⟩
def df_poly_mul : He.DefD := ⟨("poly_mul", none), "poly_mul", "poly_mul", defArgs s_poly_mul, defBody s_poly_mul, defScope s_poly_mul, [], []⟩
def df_multiplied : He.DefD := ⟨("multiplied", none), "multiplied", "multiplied", defArgs s_multiplied, defBody s_multiplied, defScope s_multiplied, [], []⟩
def df__law_same : He.DefD := ⟨("_law_same", none), "_law_same", "_law_same", defArgs s__law_same, defBody s__law_same, defScope s__law_same, [], []⟩
def df__law_worth : He.DefD := ⟨("_law_worth", none), "_law_worth", "_law_worth", defArgs s__law_worth, defBody s__law_worth, defScope s__law_worth, [], []⟩
def df__law_deep : He.DefD := ⟨("_law_deep", none), "_law_deep", "_law_deep", defArgs s__law_deep, defBody s__law_deep, defScope s__law_deep, [], []⟩
def df__law_odd : He.DefD := ⟨("_law_odd", none), "_law_odd", "_law_odd", defArgs s__law_odd, defBody s__law_odd, defScope s__law_odd, [], []⟩
def df__law_bent : He.DefD := ⟨("_law_bent", none), "_law_bent", "_law_bent", defArgs s__law_bent, defBody s__law_bent, defScope s__law_bent, [], []⟩
def df_is_polynomial : He.DefD := ⟨("is_polynomial", none), "is_polynomial", "is_polynomial", defArgs s_is_polynomial, defBody s_is_polynomial, defScope s_is_polynomial, [], []⟩
def df__law_is_num : He.DefD := ⟨("_law_is_num", none), "_law_is_num", "_law_is_num", defArgs s__law_is_num, defBody s__law_is_num, defScope s__law_is_num, [], []⟩
def df__law_is_poly : He.DefD := ⟨("_law_is_poly", none), "_law_is_poly", "_law_is_poly", defArgs s__law_is_poly, defBody s__law_is_poly, defScope s__law_is_poly, [], []⟩
def df_law : He.DefD := ⟨("law", none), "law", "law", defArgs s_law, defBody s_law, defScope s_law, [], []⟩
def fns : List He.DefD := [df__law_hand, df__law_draw, df__law_any, df__law_primes, df__law_ground, df__law_divisor, df__law_num, df__law_number, df__law_poly, df__law_add, df__law_mul, df__law_product, df_is_integer, df_is_ground, df_check_ground, df_is_pair, df_is_within, df_divisor, df_is_num, df_is_poly, df_check_polys, df_made, df_plus, df_mul, df_trimmed, df_poly_mul, df_multiplied, df__law_same, df__law_worth, df__law_deep, df__law_odd, df__law_bent, df_is_polynomial, df__law_is_num, df__law_is_poly, df_law]
def fas : List He.Fa := [.glo "_law_hand", .glo "_law_draw", .glo "_law_any", .glo "_law_primes", .glo "_law_ground", .glo "_law_divisor", .glo "_law_num", .glo "_law_number", .glo "_law_poly", .glo "_law_add", .glo "_law_mul", .glo "_law_product", .glo "is_integer", .glo "is_ground", .glo "check_ground", .glo "is_pair", .glo "is_within", .glo "divisor", .glo "is_num", .glo "is_poly", .glo "check_polys", .glo "made", .glo "plus", .glo "mul", .glo "trimmed", .glo "poly_mul", .glo "multiplied", .glo "_law_same", .glo "_law_worth", .glo "_law_deep", .glo "_law_odd", .glo "_law_bent", .glo "is_polynomial", .glo "_law_is_num", .glo "_law_is_poly", .glo "law", .free "abs", .free "all", .free "bool", .free "enumerate", .free "int", .free "isinstance", .free "len", .free "list", .free "min", .free "range", .free "tuple", .free "zip", .glo "NoGround", .glo "NoPolynomial", .exc "NoGround", .exc "NoPolynomial", .glo "NOUGHT", .glo "PRIMES"]
def exk (K : PySem.W.Frag) : Bool := He.tupB K "NOUGHT" [.int 0, .int 1] && (He.tupB K "PRIMES" [.int 2, .int 3, .int 5, .int 7, .int 11, .int 13, .int 17, .int 19, .int 23, .int 29, .int 31, .int 37, .int 41, .int 43, .int 47, .int 53, .int 59, .int 61, .int 67, .int 71, .int 73, .int 79, .int 83, .int 89, .int 97] && (true))
abbrev RowL : PySem.W.OpenRow := PySem.W.OpenLaw.row PySem.Challenge.rw_whicheverend_k03_whole_polynomials_judge
abbrev hkL : PySem.W.Hook := hookQ 8 fas fns exk
def obL (s : PySem.W.SharedT) : He.AlD × Bool := obsQG 8 fas fns exk (HandSHeadRun.getT s)
theorem obL_eq (s : PySem.W.SharedT) : obL s = hkL.obs s.abs := obsQG_eq (HandSHeadRun.getT_eq s)
theorem runL (w : World) : HandSHeadRun.RunEq RowL (PySem.W.view RowL.prog [47]) hkL obL 3000 [PySem.Str.ofString "is_integer", PySem.Str.ofString "is_within", PySem.Str.ofString "is_pair", PySem.Str.ofString "EndsError", PySem.Str.ofString "NoGround", PySem.Str.ofString "NoPolynomial", PySem.Str.ofString "PRIMES", PySem.Str.ofString "NOUGHT", PySem.Str.ofString "is_ground", PySem.Str.ofString "check_ground", PySem.Str.ofString "divisor", PySem.Str.ofString "is_num", PySem.Str.ofString "made", PySem.Str.ofString "plus", PySem.Str.ofString "mul", PySem.Str.ofString "is_poly", PySem.Str.ofString "is_polynomial", PySem.Str.ofString "check_polys", PySem.Str.ofString "trimmed", PySem.Str.ofString "poly_mul", PySem.Str.ofString "multiplied", PySem.Str.ofString "_law_hand", PySem.Str.ofString "_law_draw", PySem.Str.ofString "_law_any", PySem.Str.ofString "_law_deep", PySem.Str.ofString "_law_odd", PySem.Str.ofString "_law_same", PySem.Str.ofString "_law_primes", PySem.Str.ofString "_law_ground", PySem.Str.ofString "_law_divisor", PySem.Str.ofString "_law_num", PySem.Str.ofString "_law_add", PySem.Str.ofString "_law_sub", PySem.Str.ofString "_law_mul", PySem.Str.ofString "_law_over", PySem.Str.ofString "_law_number", PySem.Str.ofString "_law_poly", PySem.Str.ofString "_law_is_num", PySem.Str.ofString "_law_is_poly", PySem.Str.ofString "_law_product", PySem.Str.ofString "_law_worth", PySem.Str.ofString "_law_bent"] w := by
  intro os
  kernel_rfl
theorem told_of {K : PySem.W.Frag} {h : Heap} {mg : Str → Option Value} (X : K.In h) (G : h.Ns mainGlobals mg) (c : He.SaysD fas fns K) (q : exk K = true) : Told K mg := by
  obtain ⟨q0, q⟩ := He.ba q
  obtain ⟨q1, q⟩ := He.ba q
  constructor
  · exact He.free_ok X G (c.fact 36 (f := .free "abs") rfl)
  · exact He.free_ok X G (c.fact 37 (f := .free "all") rfl)
  · exact He.free_ok X G (c.fact 38 (f := .free "bool") rfl)
  · exact He.free_ok X G (c.fact 39 (f := .free "enumerate") rfl)
  · exact He.free_ok X G (c.fact 40 (f := .free "int") rfl)
  · exact He.free_ok X G (c.fact 41 (f := .free "isinstance") rfl)
  · exact He.free_ok X G (c.fact 42 (f := .free "len") rfl)
  · exact He.free_ok X G (c.fact 43 (f := .free "list") rfl)
  · exact He.free_ok X G (c.fact 44 (f := .free "min") rfl)
  · exact He.free_ok X G (c.fact 45 (f := .free "range") rfl)
  · exact He.free_ok X G (c.fact 46 (f := .free "tuple") rfl)
  · exact He.free_ok X G (c.fact 47 (f := .free "zip") rfl)
  · exact He.glo_ok X G (c.fact 48 (f := .glo "NoGround") rfl)
  · exact He.glo_ok X G (c.fact 49 (f := .glo "NoPolynomial") rfl)
  · exact excT_of (c.fact 50 (f := .exc "NoGround") rfl)
  · exact excT_of (c.fact 51 (f := .exc "NoPolynomial") rfl)
  · exact gc_tup X G (c.fact 52 rfl) (q0) rfl
  · exact gc_tup X G (c.fact 53 rfl) (q1) rfl
theorem all_of {P : Program} {w : World} {K : PySem.W.Frag} {h : Heap} {mg : Str → Option Value} {f : Addr} (X : K.In h) (G : h.Ns mainGlobals mg) (hfa : mg ("law" : Str) = some (.ref f)) (c : He.SaysD fas fns K) (Z : Told K mg) :
    ∃ fd : FuncData, (∀ (s : Shared) (v : Value), BindsTo s fd ⟨[v], []⟩ [("script", v)]) ∧ ∀ base : Heap, K.In base → base.Ns mainGlobals mg → FnOk3 P w K mg base 42 f fd ["script"] (sp_law K) := by
  obtain ⟨fd__law_hand, D__law_hand⟩ := c.def_ 0 (d := df__law_hand) rfl
  obtain ⟨fd__law_draw, D__law_draw⟩ := c.def_ 1 (d := df__law_draw) rfl
  obtain ⟨fd__law_any, D__law_any⟩ := c.def_ 2 (d := df__law_any) rfl
  obtain ⟨fd__law_primes, D__law_primes⟩ := c.def_ 3 (d := df__law_primes) rfl
  obtain ⟨fd__law_ground, D__law_ground⟩ := c.def_ 4 (d := df__law_ground) rfl
  obtain ⟨fd__law_divisor, D__law_divisor⟩ := c.def_ 5 (d := df__law_divisor) rfl
  obtain ⟨fd__law_num, D__law_num⟩ := c.def_ 6 (d := df__law_num) rfl
  obtain ⟨fd__law_number, D__law_number⟩ := c.def_ 7 (d := df__law_number) rfl
  obtain ⟨fd__law_poly, D__law_poly⟩ := c.def_ 8 (d := df__law_poly) rfl
  obtain ⟨fd__law_add, D__law_add⟩ := c.def_ 9 (d := df__law_add) rfl
  obtain ⟨fd__law_mul, D__law_mul⟩ := c.def_ 10 (d := df__law_mul) rfl
  obtain ⟨fd__law_product, D__law_product⟩ := c.def_ 11 (d := df__law_product) rfl
  obtain ⟨fd_is_integer, D_is_integer⟩ := c.def_ 12 (d := df_is_integer) rfl
  obtain ⟨fd_is_ground, D_is_ground⟩ := c.def_ 13 (d := df_is_ground) rfl
  obtain ⟨fd_check_ground, D_check_ground⟩ := c.def_ 14 (d := df_check_ground) rfl
  obtain ⟨fd_is_pair, D_is_pair⟩ := c.def_ 15 (d := df_is_pair) rfl
  obtain ⟨fd_is_within, D_is_within⟩ := c.def_ 16 (d := df_is_within) rfl
  obtain ⟨fd_divisor, D_divisor⟩ := c.def_ 17 (d := df_divisor) rfl
  obtain ⟨fd_is_num, D_is_num⟩ := c.def_ 18 (d := df_is_num) rfl
  obtain ⟨fd_is_poly, D_is_poly⟩ := c.def_ 19 (d := df_is_poly) rfl
  obtain ⟨fd_check_polys, D_check_polys⟩ := c.def_ 20 (d := df_check_polys) rfl
  obtain ⟨fd_made, D_made⟩ := c.def_ 21 (d := df_made) rfl
  obtain ⟨fd_plus, D_plus⟩ := c.def_ 22 (d := df_plus) rfl
  obtain ⟨fd_mul, D_mul⟩ := c.def_ 23 (d := df_mul) rfl
  obtain ⟨fd_trimmed, D_trimmed⟩ := c.def_ 24 (d := df_trimmed) rfl
  obtain ⟨fd_poly_mul, D_poly_mul⟩ := c.def_ 25 (d := df_poly_mul) rfl
  obtain ⟨fd_multiplied, D_multiplied⟩ := c.def_ 26 (d := df_multiplied) rfl
  obtain ⟨fd__law_same, D__law_same⟩ := c.def_ 27 (d := df__law_same) rfl
  obtain ⟨fd__law_worth, D__law_worth⟩ := c.def_ 28 (d := df__law_worth) rfl
  obtain ⟨fd__law_deep, D__law_deep⟩ := c.def_ 29 (d := df__law_deep) rfl
  obtain ⟨fd__law_odd, D__law_odd⟩ := c.def_ 30 (d := df__law_odd) rfl
  obtain ⟨fd__law_bent, D__law_bent⟩ := c.def_ 31 (d := df__law_bent) rfl
  obtain ⟨fd_is_polynomial, D_is_polynomial⟩ := c.def_ 32 (d := df_is_polynomial) rfl
  obtain ⟨fd__law_is_num, D__law_is_num⟩ := c.def_ 33 (d := df__law_is_num) rfl
  obtain ⟨fd__law_is_poly, D__law_is_poly⟩ := c.def_ 34 (d := df__law_is_poly) rfl
  obtain ⟨fd_law, D_law⟩ := c.def_ 35 (d := df_law) rfl
  have e := hfa.symm.trans (He.glo_ok X G (c.fact 35 (f := .glo "law") rfl))
  cases e
  have b := FunD.bindsA (ps := ["script"]) D_law fun _ _ _ _ _ _ us hl => match us, hl with
    | [_], _ => rfl
  refine ⟨fd_law, fun s v => b s [v] rfl, fun base _ _ => ?_⟩
  have F__law_hand := okf__law_hand (P := P) (w := w) (base := base) Z D__law_hand (He.glo_ok X G (c.fact 0 (f := .glo "_law_hand") rfl))
  have F__law_draw := okf__law_draw (P := P) (w := w) (base := base) Z D__law_draw (He.glo_ok X G (c.fact 1 (f := .glo "_law_draw") rfl))
  have F__law_any := okf__law_any (P := P) (w := w) (base := base) Z D__law_any (He.glo_ok X G (c.fact 2 (f := .glo "_law_any") rfl)) F__law_draw
  have F__law_primes := okf__law_primes (P := P) (w := w) (base := base) Z D__law_primes (He.glo_ok X G (c.fact 3 (f := .glo "_law_primes") rfl))
  have F__law_ground := okf__law_ground (P := P) (w := w) (base := base) Z D__law_ground (He.glo_ok X G (c.fact 4 (f := .glo "_law_ground") rfl)) F__law_any F__law_primes
  have F__law_divisor := okf__law_divisor (P := P) (w := w) (base := base) Z D__law_divisor (He.glo_ok X G (c.fact 5 (f := .glo "_law_divisor") rfl))
  have F__law_num := okf__law_num (P := P) (w := w) (base := base) Z D__law_num (He.glo_ok X G (c.fact 6 (f := .glo "_law_num") rfl)) F__law_divisor
  have F__law_number := okf__law_number (P := P) (w := w) (base := base) Z D__law_number (He.glo_ok X G (c.fact 7 (f := .glo "_law_number") rfl)) F__law_any F__law_draw F__law_num
  have F__law_poly := okf__law_poly (P := P) (w := w) (base := base) Z D__law_poly (He.glo_ok X G (c.fact 8 (f := .glo "_law_poly") rfl)) F__law_any F__law_number
  have F__law_add := okf__law_add (P := P) (w := w) (base := base) Z D__law_add (He.glo_ok X G (c.fact 9 (f := .glo "_law_add") rfl)) F__law_num
  have F__law_mul := okf__law_mul (P := P) (w := w) (base := base) Z D__law_mul (He.glo_ok X G (c.fact 10 (f := .glo "_law_mul") rfl)) F__law_num
  have F__law_product := okf__law_product (P := P) (w := w) (base := base) Z D__law_product (He.glo_ok X G (c.fact 11 (f := .glo "_law_product") rfl)) F__law_add F__law_mul
  have F_is_integer := okf_is_integer (P := P) (w := w) (base := base) Z D_is_integer (He.glo_ok X G (c.fact 12 (f := .glo "is_integer") rfl))
  have F_is_ground := okf_is_ground (P := P) (w := w) (base := base) Z D_is_ground (He.glo_ok X G (c.fact 13 (f := .glo "is_ground") rfl)) F_is_integer
  have F_check_ground := okf_check_ground (P := P) (w := w) (base := base) Z D_check_ground (He.glo_ok X G (c.fact 14 (f := .glo "check_ground") rfl)) F_is_ground
  have F_is_pair := okf_is_pair (P := P) (w := w) (base := base) Z D_is_pair (He.glo_ok X G (c.fact 15 (f := .glo "is_pair") rfl))
  have F_is_within := okf_is_within (P := P) (w := w) (base := base) Z D_is_within (He.glo_ok X G (c.fact 16 (f := .glo "is_within") rfl)) F_is_integer
  have F_divisor := okf_divisor (P := P) (w := w) (base := base) Z D_divisor (He.glo_ok X G (c.fact 17 (f := .glo "divisor") rfl))
  have F_is_num := okf_is_num (P := P) (w := w) (base := base) Z D_is_num (He.glo_ok X G (c.fact 18 (f := .glo "is_num") rfl)) F_is_integer F_is_pair F_is_within F_divisor
  have F_is_poly := okf_is_poly (P := P) (w := w) (base := base) Z D_is_poly (He.glo_ok X G (c.fact 19 (f := .glo "is_poly") rfl)) F_is_num
  have F_check_polys := okf_check_polys (P := P) (w := w) (base := base) Z D_check_polys (He.glo_ok X G (c.fact 20 (f := .glo "check_polys") rfl)) F_is_poly
  have F_made := okf_made (P := P) (w := w) (base := base) Z D_made (He.glo_ok X G (c.fact 21 (f := .glo "made") rfl)) F_divisor
  have F_plus := okf_plus (P := P) (w := w) (base := base) Z D_plus (He.glo_ok X G (c.fact 22 (f := .glo "plus") rfl)) F_made
  have F_mul := okf_mul (P := P) (w := w) (base := base) Z D_mul (He.glo_ok X G (c.fact 23 (f := .glo "mul") rfl)) F_made
  have F_trimmed := okf_trimmed (P := P) (w := w) (base := base) Z D_trimmed (He.glo_ok X G (c.fact 24 (f := .glo "trimmed") rfl))
  have F_poly_mul := okf_poly_mul (P := P) (w := w) (base := base) Z D_poly_mul (He.glo_ok X G (c.fact 25 (f := .glo "poly_mul") rfl)) F_plus F_mul F_trimmed
  have F_multiplied := okf_multiplied (P := P) (w := w) (base := base) Z D_multiplied (He.glo_ok X G (c.fact 26 (f := .glo "multiplied") rfl)) F_check_ground F_check_polys F_poly_mul
  have F__law_same := okf__law_same (P := P) (w := w) (base := base) Z D__law_same (He.glo_ok X G (c.fact 27 (f := .glo "_law_same") rfl))
  have F__law_worth := okf__law_worth (P := P) (w := w) (base := base) Z D__law_worth (He.glo_ok X G (c.fact 28 (f := .glo "_law_worth") rfl)) F__law_add F__law_mul
  have F__law_deep := okf__law_deep (P := P) (w := w) (base := base) Z D__law_deep (He.glo_ok X G (c.fact 29 (f := .glo "_law_deep") rfl)) F__law_any F__law_draw
  have F__law_odd := okf__law_odd (P := P) (w := w) (base := base) Z D__law_odd (He.glo_ok X G (c.fact 30 (f := .glo "_law_odd") rfl)) F__law_any F__law_deep
  have F__law_bent := okf__law_bent (P := P) (w := w) (base := base) Z D__law_bent (He.glo_ok X G (c.fact 31 (f := .glo "_law_bent") rfl)) F__law_any F__law_draw F__law_odd
  have F_is_polynomial := okf_is_polynomial (P := P) (w := w) (base := base) Z D_is_polynomial (He.glo_ok X G (c.fact 32 (f := .glo "is_polynomial") rfl)) F_check_ground F_is_poly
  have F__law_is_num := okf__law_is_num (P := P) (w := w) (base := base) Z D__law_is_num (He.glo_ok X G (c.fact 33 (f := .glo "_law_is_num") rfl)) F__law_divisor
  have F__law_is_poly := okf__law_is_poly (P := P) (w := w) (base := base) Z D__law_is_poly (He.glo_ok X G (c.fact 34 (f := .glo "_law_is_poly") rfl)) F__law_is_num
  exact okf_law Z D_law F__law_hand F__law_ground F__law_poly F__law_product F_multiplied F__law_same F__law_number F__law_mul F__law_worth F__law_bent F_is_polynomial F__law_is_poly
end L3
open PySem PySem.W PySem.Calls PyProof.Rows
theorem PySem.Challenge.cw_whicheverend_k03_whole_polynomials_judge_holds : PySem.Challenge.rw_whicheverend_k03_whole_polynomials_judge.Holds := by
  w_on; o_law
  refine HandSHeadRun.head_any (r := L3.RowL)
    (q := view L3.RowL.prog [47]) (H := L3.hkL) (ob := L3.obL) (M := 3000) (loose := [PySem.Str.ofString "is_integer", PySem.Str.ofString "is_within", PySem.Str.ofString "is_pair", PySem.Str.ofString "EndsError", PySem.Str.ofString "NoGround", PySem.Str.ofString "NoPolynomial", PySem.Str.ofString "PRIMES", PySem.Str.ofString "NOUGHT", PySem.Str.ofString "is_ground", PySem.Str.ofString "check_ground", PySem.Str.ofString "divisor", PySem.Str.ofString "is_num", PySem.Str.ofString "made", PySem.Str.ofString "plus", PySem.Str.ofString "mul", PySem.Str.ofString "is_poly", PySem.Str.ofString "is_polynomial", PySem.Str.ofString "check_polys", PySem.Str.ofString "trimmed", PySem.Str.ofString "poly_mul", PySem.Str.ofString "multiplied", PySem.Str.ofString "_law_hand", PySem.Str.ofString "_law_draw", PySem.Str.ofString "_law_any", PySem.Str.ofString "_law_deep", PySem.Str.ofString "_law_odd", PySem.Str.ofString "_law_same", PySem.Str.ofString "_law_primes", PySem.Str.ofString "_law_ground", PySem.Str.ofString "_law_divisor", PySem.Str.ofString "_law_num", PySem.Str.ofString "_law_add", PySem.Str.ofString "_law_sub", PySem.Str.ofString "_law_mul", PySem.Str.ofString "_law_over", PySem.Str.ofString "_law_number", PySem.Str.ofString "_law_poly", PySem.Str.ofString "_law_is_num", PySem.Str.ofString "_law_is_poly", PySem.Str.ofString "_law_product", PySem.Str.ofString "_law_worth", PySem.Str.ofString "_law_bent"])
    (d := HandSHeadRun.topDef L3.RowL.prog 47) (kwd := []) L3.obL_eq
    (by kernel_rfl) (fun s => by kernel_rfl) L3.runL
    (by kernel_rfl) (by kernel_rfl) (by kernel_rfl) (by rfl)
    (by first | assumption | decide +kernel) (by decide +kernel)
    ⟨rfl, rfl, rfl, rfl, rfl,
      by decide +kernel⟩ ?hw ?hc
  case hw => w_witness2
  case hc =>
    refine L2.walk_ofE (l := PySem.Challenge.rw_whicheverend_k03_whole_polynomials_judge) (n := 63) (k := 42) (x := "script")
      (CX := L3.CXA L3.RowL.prog) rfl (by decide) (by kernel_rfl)
      ⟨rfl, by decide, by decide⟩ ?F ?G
    case G => exact fun H s e s' h => L3.cxa_no H s e s' h
    case F =>
      intro w mg fa h Y G hmg0
      obtain ⟨K, KX, c, q⟩ := Y
      have hmg : mg ("law" : PySem.Str) = some (.ref fa) := by
        have e : (HandSHeadRun.topDef L3.RowL.prog 47).name = ("law" : PySem.Str) := by
          kernel_rfl
        rw [← e]
        exact hmg0
      have Z := L3.told_of KX G c q
      obtain ⟨fd, hb, hF⟩ := L3.all_of (P := L3.RowL.prog) (w := w) KX G hmg c Z
      refine ⟨K, fd, L3.liftSp K (L3.sp_law K), KX, hb, fun H a ns hl hO hS => ?_,
        fun base hK hN => L3.fnok_cx (hF base hK hN)⟩
      exact L3.law_sp hO hS (⟨_, rfl, ns, rfl, fun _ => rfl⟩)

