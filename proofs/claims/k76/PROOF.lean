import PyProof.Rows.All
import HandS.ForMost
import HandS.ForExc
import HandS.Wide
import HandS.WideBits
import HandS.TupAny
import HandS.Deep
import HandS.IsInst
import HandS.Flow
import HandS.RaiseMore
import HandS.Gcd
import HandS.StrMore
import HandS.Text
import HandS.Style
import PyProof.Rows.ListStrD
import HandS.EndBits
import PySem.Challenge.RW_whyform_k76_whole_least_ragged_settings
set_option Elab.async false
set_option linter.all false
set_option maxRecDepth 100000
/-! Data without the heap (D), values held in a heap (At), owned trees (Own), the state of a def's names (Slots), and the meaning of a piece of program as a function (Den). -/
namespace Den
open PySem PySem.Spec PyProof.Rows L2

inductive D where
  | non | bl (b : Bool) | int (i : Int) | str (s : Str)
  | lst (xs : List D) | tup (xs : List D)
  | dic (kvs : List (D × D)) | set (xs : List D)
  | ins (c : Str) (fs : List (Str × D))
  | ty (n : String)

def D.scal : D → Bool
  | .non => true
  | .bl _ => true
  | .int _ => true
  | .str _ => true
  | .ty _ => true
  | _ => false
/-- a scalar's value -/
def D.sv : D → V
  | .non => .non
  | .bl b => .bl b
  | .int i => .int i
  | .str s => .str s
  | .ty n => .ty n
  | _ => .non

/-! ### held in a heap -/
mutual
inductive At (K : PySem.W.Frag) (R : Hp) : V → D → Prop
  | non : At K R .non .non
  | bl (b : Bool) : At K R (.bl b) (.bl b)
  | int (i : Int) : At K R (.int i) (.int i)
  | str (x : Str) : At K R (.str x) (.str x)
  | ty (n : String) : At K R (.ty n) (.ty n)
  | lst {a : Addr} {xs : List V} {ds : List D} : SqL K R a xs → AtAll K R xs ds → At K R (.ref a) (.lst ds)
  | tup {a : Addr} {xs : List V} {ds : List D} : SqT K R a xs → AtAll K R xs ds → At K R (.ref a) (.tup ds)
inductive AtAll (K : PySem.W.Frag) (R : Hp) : List V → List D → Prop
  | nil : AtAll K R [] []
  | cons {v : V} {vs : List V} {d : D} {ds : List D} : At K R v d → AtAll K R vs ds → AtAll K R (v :: vs) (d :: ds)
end

/-- one heap within another -/
def Sub (R H : Hp) : Prop := ∀ a o, R a = some o → H a = some o
theorem Sub.refl {R : Hp} : Sub R R := fun _ _ h => h
theorem Sub.trans {R H H' : Hp} (a : Sub R H) (b : Sub H H') : Sub R H' := fun x o h => b x o (a x o h)
theorem Sub.upd {H : Hp} {p : Addr} {o : HO} (h : H p = none) : Sub H (upd H p o) := fun b x e => by
  rw [upd_ne (ne_of_none e h)]; exact e
theorem Sub.rd {R H : Hp} (s : Sub R H) {a : Addr} {u : HO} (h : Rd R a u) : Rd H a u := by
  rcases h with h | ⟨o, h⟩
  · exact .inl (s _ _ h)
  · exact .inr ⟨o, s _ _ h⟩
theorem Sub.sqL {K : PySem.W.Frag} {R H : Hp} (s : Sub R H) {a : Addr} {xs : List V} (h : SqL K R a xs) : SqL K H a xs := by
  rcases h with h | h
  · exact .inl (s.rd h)
  · exact .inr h
theorem Sub.sqT {K : PySem.W.Frag} {R H : Hp} (s : Sub R H) {a : Addr} {xs : List V} (h : SqT K R a xs) : SqT K H a xs := by
  rcases h with h | h
  · exact .inl (s.rd h)
  · exact .inr h
section
variable {K : PySem.W.Frag} {R H : Hp}
mutual
theorem At.mono (s : Sub R H) : ∀ {d : D} {v : V}, At K R v d → At K H v d
  | .non, _, h => by cases h; exact .non
  | .bl _, _, h => by cases h; exact .bl _
  | .int _, _, h => by cases h; exact .int _
  | .str _, _, h => by cases h; exact .str _
  | .ty _, _, h => by cases h; exact .ty _
  | .lst ds, _, h => by cases h with | lst h1 h2 => exact .lst (s.sqL h1) (AtAll.mono s h2)
  | .tup ds, _, h => by cases h with | tup h1 h2 => exact .tup (s.sqT h1) (AtAll.mono s h2)
  | .dic _, _, h => by cases h
  | .set _, _, h => by cases h
  | .ins _ _, _, h => by cases h
theorem AtAll.mono (s : Sub R H) : ∀ {ds : List D} {vs : List V}, AtAll K R vs ds → AtAll K H vs ds
  | [], _, h => by cases h; exact .nil
  | d :: ds, _, h => by cases h with | cons h1 h2 => exact .cons (At.mono s h1) (AtAll.mono s h2)
end
theorem AtAll.length : ∀ {vs : List V} {ds : List D}, AtAll K R vs ds → vs.length = ds.length
  | _, _, .nil => rfl
  | _, _, .cons _ t => by rw [List.length_cons, List.length_cons, AtAll.length t]
theorem AtAll.append : ∀ {vs ws : List V} {ds es : List D}, AtAll K R vs ds → AtAll K R ws es → AtAll K R (vs ++ ws) (ds ++ es)
  | _, _, _, _, .nil, h => h
  | _, _, _, _, .cons r t, h => .cons r (AtAll.append t h)
theorem AtAll.get : ∀ {vs : List V} {ds : List D} {i : Nat} {d : D}, AtAll K R vs ds → ds[i]? = some d → ∃ v, vs[i]? = some v ∧ At K R v d
  | _, _, _, _, .nil, e => by simp at e
  | _, _, 0, _, .cons r _, e => by simp at e; subst e; exact ⟨_, rfl, r⟩
  | _, _, i + 1, d, .cons _ t, e => by
    obtain ⟨v, h1, h2⟩ := AtAll.get (i := i) (d := d) t (by simpa using e)
    exact ⟨v, by simpa using h1, h2⟩
theorem AtAll.get' : ∀ {vs : List V} {ds : List D} {i : Nat} {v : V}, AtAll K R vs ds → vs[i]? = some v → ∃ d, ds[i]? = some d ∧ At K R v d
  | _, _, _, _, .nil, e => by simp at e
  | _, _, 0, _, .cons r _, e => by simp at e; subst e; exact ⟨_, rfl, r⟩
  | _, _, i + 1, v, .cons _ t, e => by
    obtain ⟨d, h1, h2⟩ := AtAll.get' (i := i) (v := v) t (by simpa using e)
    exact ⟨d, by simpa using h1, h2⟩
theorem AtAll.take : ∀ {vs : List V} {ds : List D} (n : Nat), AtAll K R vs ds → AtAll K R (vs.take n) (ds.take n)
  | _, _, 0, _ => .nil
  | _, _, _ + 1, .nil => .nil
  | _, _, n + 1, .cons r t => .cons r (AtAll.take n t)
theorem AtAll.drop : ∀ {vs : List V} {ds : List D} (n : Nat), AtAll K R vs ds → AtAll K R (vs.drop n) (ds.drop n)
  | _, _, 0, h => h
  | _, _, _ + 1, .nil => .nil
  | _, _, n + 1, .cons _ t => AtAll.drop n t
theorem AtAll.set : ∀ {vs : List V} {ds : List D} (n : Nat) {v : V} {d : D}, AtAll K R vs ds → At K R v d → AtAll K R (vs.set n v) (ds.set n d)
  | _, _, _, _, _, .nil, _ => .nil
  | _, _, 0, _, _, .cons _ t, h => .cons h t
  | _, _, n + 1, _, _, .cons r t, h => .cons r (AtAll.set n t h)
theorem At.sv {d : D} (h : d.scal = true) : At K R d.sv d := by
  cases d <;> first | constructor | (simp [D.scal] at h)
theorem At.scal {d : D} {v : V} (h : d.scal = true) (q : At K R v d) : v = d.sv := by
  cases q <;> first | rfl | (simp [D.scal] at h)
end

/-! ### owned trees -/
inductive Sh where
  | im | ow (k : Sh)
  deriving DecidableEq
/-- members, each by its own relation, with what they own -/
def OwnL (f : D → V → List Addr → Prop) : List D → List V → List Addr → Prop
  | [], vs, F => vs = [] ∧ F = []
  | d :: ds, vs, F => ∃ v vr F1 F2, vs = v :: vr ∧ F = F1 ++ F2 ∧ f d v F1 ∧ OwnL f ds vr F2
def Own (K : PySem.W.Frag) (R H : Hp) : Sh → D → V → List Addr → Prop
  | .im, d, v, F => F = [] ∧ At K R v d
  | .ow s, .lst ds, v, F => ∃ p vs F2, v = .ref p ∧ F = p :: F2 ∧ H p = some (.lst vs) ∧ R p = none ∧ OwnL (Own K R H s) ds vs F2
  | .ow _, _, _, _ => False

section
variable {K : PySem.W.Frag} {R R' H H' : Hp}
theorem OwnL.length {f : D → V → List Addr → Prop} : ∀ {ds : List D} {vs : List V} {F : List Addr}, OwnL f ds vs F → vs.length = ds.length
  | [], _, _, ⟨e, _⟩ => by rw [e]; rfl
  | _ :: ds, _, _, ⟨_, _, _, _, e, _, _, t⟩ => by rw [e, List.length_cons, List.length_cons, OwnL.length t]
theorem OwnL.imp {f g : D → V → List Addr → Prop} : ∀ {ds : List D} {vs : List V} {F : List Addr}, (∀ d v G, (∀ a ∈ G, a ∈ F) → f d v G → g d v G) → OwnL f ds vs F → OwnL g ds vs F
  | [], _, _, _, h => h
  | _ :: ds, _, _, k, ⟨v, vr, F1, F2, e, e2, h, t⟩ => ⟨v, vr, F1, F2, e, e2, k _ _ _ (fun a ha => by rw [e2]; exact List.mem_append_left _ ha) h,
      OwnL.imp (fun d v G hG => k d v G fun a ha => by rw [e2]; exact List.mem_append_right _ (hG a ha)) t⟩
/-- what is owned stands in the heap and is none of the ground -/
theorem Own.foot : ∀ {s : Sh} {d : D} {v : V} {F : List Addr}, Own K R H s d v F → ∀ a ∈ F, (∃ o, H a = some o) ∧ R a = none
  | .im, _, _, _, ⟨e, _⟩, a, ha => by rw [e] at ha; cases ha
  | .ow s, .lst ds, _, _, ⟨p, vs, F2, _, e, h, n, t⟩, a, ha => by
    rw [e] at ha
    rcases List.mem_cons.mp ha with rfl | ha
    · exact ⟨⟨_, h⟩, n⟩
    · clear e h
      revert ha
      have key : ∀ (ds : List D) (vs : List V) (F2 : List Addr), OwnL (Own K R H s) ds vs F2 → a ∈ F2 → (∃ o, H a = some o) ∧ R a = none := by
        intro ds
        induction ds with
        | nil => intro vs F2 ⟨_, e⟩ ha; rw [e] at ha; cases ha
        | cons d ds ih =>
          intro vs F2 ⟨v, vr, G1, G2, _, e2, h1, h2⟩ ha
          rw [e2] at ha
          rcases List.mem_append.mp ha with ha | ha
          · exact Own.foot h1 a ha
          · exact ih vr G2 h2 ha
      exact key ds vs F2 t
  | .ow _, .non, _, _, h, _, _ => h.elim
  | .ow _, .bl _, _, _, h, _, _ => h.elim
  | .ow _, .int _, _, _, h, _, _ => h.elim
  | .ow _, .str _, _, _, h, _, _ => h.elim
  | .ow _, .tup _, _, _, h, _, _ => h.elim
  | .ow _, .dic _, _, _, h, _, _ => h.elim
  | .ow _, .set _, _, _, h, _, _ => h.elim
  | .ow _, .ins _ _, _, _, h, _, _ => h.elim
  | .ow _, .ty _, _, _, h, _, _ => h.elim
/-- the heap changes elsewhere, the ground grows elsewhere -/
theorem Own.frame (g : Sub R R') : ∀ {s : Sh} {d : D} {v : V} {F : List Addr}, (∀ a ∈ F, H' a = H a) → (∀ a ∈ F, R' a = none) → Own K R H s d v F → Own K R' H' s d v F
  | .im, _, _, _, _, _, ⟨e, h⟩ => ⟨e, h.mono g⟩
  | .ow s, .lst ds, _, _, k, n, ⟨p, vs, F2, e1, e, h, m, t⟩ => by
    subst e
    refine ⟨p, vs, F2, e1, rfl, (k p List.mem_cons_self).trans h, n p List.mem_cons_self, OwnL.imp (fun d v G hG q => ?_) t⟩
    exact Own.frame g (fun a ha => k a (List.mem_cons_of_mem _ (hG a ha))) (fun a ha => n a (List.mem_cons_of_mem _ (hG a ha))) q
  | .ow _, .non, _, _, _, _, h => h.elim
  | .ow _, .bl _, _, _, _, _, h => h.elim
  | .ow _, .int _, _, _, _, _, h => h.elim
  | .ow _, .str _, _, _, _, _, h => h.elim
  | .ow _, .tup _, _, _, _, _, h => h.elim
  | .ow _, .dic _, _, _, _, _, h => h.elim
  | .ow _, .set _, _, _, _, _, h => h.elim
  | .ow _, .ins _ _, _, _, _, _, h => h.elim
  | .ow _, .ty _, _, _, _, _, h => h.elim
/-- as plain data, over any heap that has the ground and the owned -/
theorem Own.at (g : Sub R R') : ∀ {s : Sh} {d : D} {v : V} {F : List Addr}, (∀ a ∈ F, R' a = H a) → Own K R H s d v F → At K R' v d
  | .im, _, _, _, _, ⟨_, h⟩ => h.mono g
  | .ow s, .lst ds, _, _, k, ⟨p, vs, F2, e1, e, h, m, t⟩ => by
    subst e e1
    refine .lst (.inl (.inl ((k p List.mem_cons_self).trans h))) ?_
    have key : ∀ (ds : List D) (vs : List V) (G : List Addr), (∀ a ∈ G, R' a = H a) → OwnL (Own K R H s) ds vs G → AtAll K R' vs ds := by
      intro ds
      induction ds with
      | nil => intro vs G _ ⟨e, _⟩; rw [e]; exact .nil
      | cons d ds ih =>
        intro vs G kG ⟨v, vr, G1, G2, e, e2, h1, h2⟩
        subst e e2
        exact .cons (Own.at g (fun a ha => kG a (List.mem_append_left _ ha)) h1) (ih vr G2 (fun a ha => kG a (List.mem_append_right _ ha)) h2)
    exact key ds vs F2 (fun a ha => k a (List.mem_cons_of_mem _ ha)) t
  | .ow _, .non, _, _, _, h => h.elim
  | .ow _, .bl _, _, _, _, h => h.elim
  | .ow _, .int _, _, _, _, h => h.elim
  | .ow _, .str _, _, _, _, h => h.elim
  | .ow _, .tup _, _, _, _, h => h.elim
  | .ow _, .dic _, _, _, _, h => h.elim
  | .ow _, .set _, _, _, _, h => h.elim
  | .ow _, .ins _ _, _, _, _, h => h.elim
  | .ow _, .ty _, _, _, _, h => h.elim
end
end Den

namespace Den
open PySem PySem.Spec PyProof.Rows L2

abbrev Slot := Option (Sh × D)
/-- a def's names -/
abbrev Rho := List Slot
structure Exn where
  c : Str
  fs : List (Str × D)
inductive Res (α : Type) where
  | ok (ρ : Rho) (a : α) | ex (ρ : Rho) (x : Exn)
/-- the meaning of a piece: none where nothing is said -/
abbrev Den (α : Type) := Rho → Option (Res α)
/-- how a value is held: lent (till the heap is written), or by its shape -/
inductive Md where
  | bo | sh (s : Sh)
  deriving DecidableEq
abbrev DV := Md × D

def dBind {α β : Type} (m : Den α) (f : α → Den β) : Den β := fun ρ => match m ρ with
  | none => none
  | some (.ex ρ x) => some (.ex ρ x)
  | some (.ok ρ a) => f a ρ
def dRet {α : Type} (a : α) : Den α := fun ρ => some (.ok ρ a)
def dFail {α : Type} : Den α := fun _ => none
def dLift {α β : Type} (o : Option α) (f : α → Den β) : Den β := fun ρ => match o with
  | none => none
  | some a => f a ρ

/-! ### the relation of names -/
def Slots (K : PySem.W.Frag) (R H : Hp) : Rho → L2.St → List Addr → Prop
  | [], σ, F => σ = [] ∧ F = []
  | none :: ρ, σ, F => ∃ x σ', σ = x :: σ' ∧ Slots K R H ρ σ' F
  | some (s, d) :: ρ, σ, F => ∃ v σ' F1 F2, σ = some v :: σ' ∧ F = F1 ++ F2 ∧ Own K R H s d v F1 ∧ Slots K R H ρ σ' F2

/-- what a step may do: R, F the ground and what is owned ahead of it; R', F' behind it -/
structure Step (R H : Hp) (F : List Addr) (R' H' : Hp) (F' : List Addr) : Prop where
  keep : ∀ a o, H a = some o → a ∉ F → H' a = some o
  grow : Sub R R'
  rnew : ∀ a o, R' a = some o → R a = some o ∨ a ∈ F ∨ H a = none
  fnew : ∀ a, a ∈ F' → a ∈ F ∨ H a = none
  there : ∀ a o, H a = some o → ∃ o', H' a = some o'

section
variable {K : PySem.W.Frag} {R R' R1 R2 H H' H1 H2 : Hp} {F F' F1 F2 G : List Addr} {ρ : Rho} {σ : L2.St}
theorem Step.refl : Step R H F R H F := ⟨fun _ _ h _ => h, .refl, fun _ _ h => .inl h, fun _ h => .inl h, fun _ o h => ⟨o, h⟩⟩
theorem Step.trans (a : Step R H F R1 H1 F1) (b : Step R1 H1 F1 R2 H2 F2) : Step R H F R2 H2 F2 where
  keep := fun x o h n => b.keep x o (a.keep x o h n) fun z => (a.fnew x z).elim n fun q => by rw [h] at q; cases q
  grow := a.grow.trans b.grow
  rnew := fun x o h => by
    rcases b.rnew x o h with q | q | q
    · exact a.rnew x o q
    · exact .inr (a.fnew x q)
    · by_cases n : x ∈ F
      · exact .inr (.inl n)
      · cases e : H x with
        | none => exact .inr (.inr rfl)
        | some u => rw [a.keep x u e n] at q; cases q
  fnew := fun x h => by
    rcases b.fnew x h with q | q
    · exact a.fnew x q
    · by_cases n : x ∈ F
      · exact .inl n
      · cases e : H x with
        | none => exact .inr rfl
        | some u => rw [a.keep x u e n] at q; cases q
  there := fun x o h => by
    obtain ⟨o1, h1⟩ := a.there x o h
    exact b.there x o1 h1
/-- less is owned behind it -/
theorem Step.less (a : Step R H F R1 H1 F1) (h : ∀ x ∈ F2, x ∈ F1) : Step R H F R1 H1 F2 := ⟨a.keep, a.grow, a.rnew, fun x hx => a.fnew x (h x hx), a.there⟩
/-- more is owned ahead of it -/
theorem Step.more (a : Step R H F R1 H1 F1) (h : ∀ x ∈ F, x ∈ F2) : Step R H F2 R1 H1 F1 := ⟨fun x o e n => a.keep x o e fun z => n (h x z), a.grow, fun x o e => (a.rnew x o e).imp id fun q => q.imp (h x) id, fun x hx => (a.fnew x hx).imp (h x) id, a.there⟩
/-- .. with a footprint kept beside -/
theorem Step.side (a : Step R H F R1 H1 (F1 ++ G)) (b : Step R1 H1 F1 R2 H2 F2) : Step R H F R2 H2 (F2 ++ G) := by
  have c := (a.less (F2 := F1) fun x hx => List.mem_append_left _ hx).trans b
  refine ⟨c.keep, c.grow, c.rnew, fun x hx => ?_, c.there⟩
  rcases List.mem_append.mp hx with z | z
  · exact c.fnew x z
  · exact a.fnew x (List.mem_append_right _ z)
/-- a footprint of others stays -/
theorem Step.away (a : Step R H F R1 H1 F1) (hG : ∀ x ∈ G, (∃ o, H x = some o) ∧ R x = none) (hd : ∀ x ∈ G, x ∉ F) : (∀ x ∈ G, H1 x = H x) ∧ (∀ x ∈ G, R1 x = none) ∧ ∀ x ∈ G, x ∉ F1 := by
  refine ⟨fun x hx => ?_, fun x hx => ?_, fun x hx q => ?_⟩
  · obtain ⟨⟨o, e⟩, _⟩ := hG x hx
    rw [e]; exact a.keep x o e (hd x hx)
  · obtain ⟨⟨o, e⟩, n⟩ := hG x hx
    cases q : R1 x with
    | none => rfl
    | some u =>
      rcases a.rnew x u q with z | z | z
      · rw [n] at z; cases z
      · exact absurd z (hd x hx)
      · rw [e] at z; cases z
  · obtain ⟨⟨o, e⟩, n⟩ := hG x hx
    rcases a.fnew x q with z | z
    · exact hd x hx z
    · rw [e] at z; cases z

theorem Slots.foot : ∀ {ρ : Rho} {σ : L2.St} {F : List Addr}, Slots K R H ρ σ F → ∀ a ∈ F, (∃ o, H a = some o) ∧ R a = none
  | [], _, _, ⟨_, e⟩, a, ha => by rw [e] at ha; cases ha
  | none :: ρ, _, _, ⟨_, _, _, t⟩, a, ha => Slots.foot t a ha
  | some (s, d) :: ρ, _, _, ⟨v, σ', F1, F2, _, e, h, t⟩, a, ha => by
    rw [e] at ha
    rcases List.mem_append.mp ha with ha | ha
    · exact h.foot a ha
    · exact Slots.foot t a ha
theorem Slots.frame (g : Sub R R') : ∀ {ρ : Rho} {σ : L2.St} {F : List Addr}, (∀ a ∈ F, H' a = H a) → (∀ a ∈ F, R' a = none) → Slots K R H ρ σ F → Slots K R' H' ρ σ F
  | [], _, _, _, _, ⟨h1, h2⟩ => ⟨h1, h2⟩
  | none :: ρ, _, _, k, n, ⟨x, σ', e, t⟩ => ⟨x, σ', e, Slots.frame g k n t⟩
  | some (s, d) :: ρ, _, _, k, n, ⟨v, σ', F1, F2, e1, e, h, t⟩ => by
    subst e
    exact ⟨v, σ', F1, F2, e1, rfl, h.frame g (fun a ha => k a (List.mem_append_left _ ha)) fun a ha => n a (List.mem_append_left _ ha),
      Slots.frame g (fun a ha => k a (List.mem_append_right _ ha)) (fun a ha => n a (List.mem_append_right _ ha)) t⟩
theorem Slots.length : ∀ {ρ : Rho} {σ : L2.St} {F : List Addr}, Slots K R H ρ σ F → σ.length = ρ.length
  | [], _, _, ⟨e, _⟩ => by rw [e]; rfl
  | none :: ρ, _, _, ⟨_, _, e, t⟩ => by rw [e, List.length_cons, List.length_cons, Slots.length t]
  | some (s, d) :: ρ, _, _, ⟨_, _, _, _, e, _, _, t⟩ => by rw [e, List.length_cons, List.length_cons, Slots.length t]
/-- one name is taken out -/
theorem Slots.pick : ∀ {ρ : Rho} {σ : L2.St} {F : List Addr} {i : Nat} {s : Sh} {d : D}, Slots K R H ρ σ F → ρ[i]? = some (some (s, d)) →
    ∃ v F1 F2, σ[i]? = some (some v) ∧ Own K R H s d v F1 ∧ Slots K R H (ρ.set i none) σ F2 ∧ F.Perm (F1 ++ F2)
  | [], _, _, _, _, _, _, e => by simp at e
  | none :: ρ, _, _, 0, _, _, _, e => by simp at e
  | none :: ρ, _, _, i + 1, s, d, ⟨x, σ', e1, t⟩, e => by
    obtain ⟨v, F1, F2, h1, h2, h3, h4⟩ := Slots.pick (i := i) t (by simpa using e)
    exact ⟨v, F1, F2, by rw [e1]; simpa using h1, h2, ⟨x, σ', e1, h3⟩, h4⟩
  | some (s', d') :: ρ, _, _, 0, s, d, ⟨v, σ', F1, F2, e1, e2, h, t⟩, e => by
    simp at e
    obtain ⟨rfl, rfl⟩ := e
    exact ⟨v, F1, F2, by rw [e1]; rfl, h, ⟨some v, σ', e1, t⟩, by rw [e2]⟩
  | some (s', d') :: ρ, _, _, i + 1, s, d, ⟨v', σ', G1, G2, e1, e2, h, t⟩, e => by
    obtain ⟨v, F1, F2, h1, h2, h3, h4⟩ := Slots.pick (i := i) t (by simpa using e)
    refine ⟨v, F1, G1 ++ F2, by rw [e1]; simpa using h1, h2, ⟨v', σ', G1, F2, e1, rfl, h, h3⟩, ?_⟩
    rw [e2]
    refine (List.Perm.append_left G1 h4).trans ?_
    rw [← List.append_assoc, ← List.append_assoc]
    exact List.Perm.append_right F2 List.perm_append_comm
/-- one name is put in, in the place of whatever it held -/
theorem Slots.put : ∀ {ρ : Rho} {σ : L2.St} {F : List Addr} {i : Nat} {s : Sh} {d : D} {v : V} {G : List Addr}, Slots K R H ρ σ F → i < ρ.length → Own K R H s d v G →
    ∃ F', Slots K R H (ρ.set i (some (s, d))) (σ.set i (some v)) F' ∧ (∀ a ∈ F', a ∈ G ∨ a ∈ F) ∧ ((G ++ F).Nodup → F'.Nodup)
  | [], _, _, _, _, _, _, _, _, e, _ => by simp at e
  | none :: ρ, _, F, 0, s, d, v, G, ⟨x, σ', e1, t⟩, _, o => ⟨G ++ F, by rw [e1]; exact ⟨v, σ', G, F, rfl, rfl, o, t⟩, fun a ha => List.mem_append.mp ha, fun h => h⟩
  | none :: ρ, _, F, i + 1, s, d, v, G, ⟨x, σ', e1, t⟩, e, o => by
    obtain ⟨F', h1, h2, h3⟩ := Slots.put (i := i) t (by simpa using e) o
    exact ⟨F', by rw [e1]; exact ⟨x, _, rfl, h1⟩, h2, h3⟩
  | some (s', d') :: ρ, _, _, 0, s, d, v, G, ⟨v', σ', F1, F2, e1, e2, h, t⟩, _, o => by
    subst e1 e2
    refine ⟨G ++ F2, ⟨v, σ', G, F2, rfl, rfl, o, t⟩, fun a ha => (List.mem_append.mp ha).imp id (List.mem_append_right _), fun n => ?_⟩
    rw [List.nodup_append] at n ⊢
    exact ⟨n.1, (List.nodup_append.mp n.2.1).2.1, fun a ha b hb => n.2.2 a ha b (List.mem_append_right _ hb)⟩
  | some (s', d') :: ρ, _, _, i + 1, s, d, v, G, ⟨v', σ', F1, F2, e1, e2, h, t⟩, e, o => by
    obtain ⟨F', h1, h2, h3⟩ := Slots.put (i := i) t (by simpa using e) o
    subst e1 e2
    refine ⟨F1 ++ F', ⟨v', _, F1, F', rfl, rfl, h, h1⟩, fun a ha => ?_, fun n => ?_⟩
    · rcases List.mem_append.mp ha with q | q
      · exact .inr (List.mem_append_left _ q)
      · exact (h2 a q).imp id (List.mem_append_right _)
    · rw [List.nodup_append] at n
      obtain ⟨nG, nF, nd⟩ := n
      rw [List.nodup_append] at nF
      rw [List.nodup_append]
      refine ⟨nF.1, h3 (List.nodup_append.mpr ⟨nG, nF.2.1, fun a ha b hb => nd a ha b (List.mem_append_right _ hb)⟩), fun a ha b hb => ?_⟩
      rcases h2 b hb with q | q
      · exact fun z => nd b q a (List.mem_append_left _ ha) z.symm
      · exact nF.2.2 a ha b q
/-- a name forgotten -/
theorem Slots.drop : ∀ {ρ : Rho} {σ : L2.St} {F : List Addr} {i : Nat} (y : Option V), Slots K R H ρ σ F → ∃ F', Slots K R H (ρ.set i none) (σ.set i y) F' ∧ (∀ a ∈ F', a ∈ F) ∧ (F.Nodup → F'.Nodup)
  | [], _, F, _, _, ⟨e, e2⟩ => ⟨F, by rw [e]; exact ⟨rfl, e2⟩, fun _ h => h, id⟩
  | none :: ρ, _, F, 0, y, ⟨x, σ', e1, t⟩ => ⟨F, by rw [e1]; exact ⟨y, σ', rfl, t⟩, fun _ h => h, id⟩
  | none :: ρ, _, F, i + 1, y, ⟨x, σ', e1, t⟩ => by
    obtain ⟨F', h1, h2, h3⟩ := Slots.drop (i := i) y t
    exact ⟨F', by rw [e1]; exact ⟨x, _, rfl, h1⟩, h2, h3⟩
  | some (s', d') :: ρ, _, _, 0, y, ⟨v', σ', F1, F2, e1, e2, h, t⟩ => by
    subst e1 e2
    exact ⟨F2, ⟨y, σ', rfl, t⟩, fun a ha => List.mem_append_right _ ha, fun n => (List.nodup_append.mp n).2.1⟩
  | some (s', d') :: ρ, _, _, i + 1, y, ⟨v', σ', F1, F2, e1, e2, h, t⟩ => by
    obtain ⟨F', h1, h2, h3⟩ := Slots.drop (i := i) y t
    subst e1 e2
    refine ⟨F1 ++ F', ⟨v', _, F1, F', rfl, rfl, h, h1⟩, fun a ha => ?_, fun n => ?_⟩
    · rcases List.mem_append.mp ha with q | q
      · exact List.mem_append_left _ q
      · exact List.mem_append_right _ (h2 a q)
    · rw [List.nodup_append] at n ⊢
      exact ⟨n.1, h3 n.2.1, fun a ha b hb => n.2.2 a ha b (h2 b hb)⟩

/-! ### values -/
def VOk (K : PySem.W.Frag) (R H : Hp) : DV → V → List Addr → Prop
  | (.bo, d), v, F => F = [] ∧ At K H v d
  | (.sh s, d), v, F => Own K R H s d v F
theorem VOk.foot {a : DV} {v : V} (h : VOk K R H a v F) : ∀ x ∈ F, (∃ o, H x = some o) ∧ R x = none := by
  obtain ⟨m, d⟩ := a
  cases m with
  | bo => intro x hx; rw [h.1] at hx; cases hx
  | sh s => exact Own.foot h
/-- read in the heap as it stands -/
theorem VOk.at {a : DV} {v : V} (g : Sub R H) (h : VOk K R H a v F) : At K H v a.2 := by
  obtain ⟨m, d⟩ := a
  cases m with
  | bo => exact h.2
  | sh s => exact Own.at g (fun _ _ => rfl) h
theorem VOk.frame {a : DV} {v : V} (h : VOk K R H a v F) (g : Sub R R') (hb : a.1 = .bo → Sub H H') (k : ∀ x ∈ F, H' x = H x) (n : ∀ x ∈ F, R' x = none) : VOk K R' H' a v F := by
  obtain ⟨m, d⟩ := a
  cases m with
  | bo => exact ⟨h.1, h.2.mono (hb rfl)⟩
  | sh s => exact Own.frame g k n h
theorem VOk.scal {d : D} (h : d.scal = true) : VOk K R H (.sh .im, d) d.sv [] := ⟨rfl, .sv h⟩

/-- the ground takes a footprint in -/
def ext (R H : Hp) (F : List Addr) : Hp := fun a => if a ∈ F then H a else R a
theorem ext_in {a : Addr} (h : a ∈ F) : ext R H F a = H a := by unfold ext; rw [if_pos h]
theorem ext_out {a : Addr} (h : a ∉ F) : ext R H F a = R a := by unfold ext; rw [if_neg h]
theorem ext_sub (g : Sub R H) : Sub R (ext R H F) := fun a o e => by
  unfold ext; split
  · exact g a o e
  · exact e
theorem sub_ext (g : Sub R H) : Sub (ext R H F) H := fun a o e => by
  unfold ext at e; split at e
  · exact e
  · exact g a o e
theorem ext_step (g : Sub R H) (h : ∀ x ∈ G, x ∈ F) : Step R H F (ext R H G) H F where
  keep := fun _ _ h _ => h
  grow := ext_sub g
  rnew := fun a o e => by
    unfold ext at e; split at e
    · exact .inr (.inl (h a ‹_›))
    · exact .inl e
  fnew := fun _ h => .inl h
  there := fun _ o h => ⟨o, h⟩
/-- an owned value becomes plain -/
theorem VOk.freeze {a : DV} {v : V} (g : Sub R H) (h : VOk K R H a v F) (hm : a.1 ≠ .bo) : At K (ext R H F) v a.2 := by
  obtain ⟨m, d⟩ := a
  cases m with
  | bo => exact absurd rfl hm
  | sh s => exact Own.at (ext_sub g) (fun x hx => ext_in hx) h

/-! ### the state -/
structure Sta (K : PySem.W.Frag) (R H : Hp) (ρ : Rho) (σ : L2.St) (F : List Addr) : Prop where
  slots : Slots K R H ρ σ F
  sub : Sub R H
  nd : F.Nodup
theorem Sta.frame (s : Sta K R H ρ σ F) (g : Sub R R') (g2 : Sub R' H') (k : ∀ a ∈ F, H' a = H a) (n : ∀ a ∈ F, R' a = none) : Sta K R' H' ρ σ F := ⟨s.slots.frame g k n, g2, s.nd⟩
end
end Den

namespace Den
open PySem PySem.Spec PyProof.Rows L2

/-- an exception's own dict and class, where its fields are held -/
def FsOk (K : PySem.W.Frag) (R : Hp) : List (Str × D) → List (Str × V) → Prop
  | [], vs => vs = []
  | (n, d) :: r, vs => ∃ v vr, vs = (n, v) :: vr ∧ At K R v d ∧ FsOk K R r vr
def XOk (K : PySem.W.Frag) (mg : Str → Option Value) (R : Hp) (x : Exn) (c : Value) (dx : Option Addr) : Prop :=
  mg x.c = some c ∧ ((dx = none ∧ x.fs = []) ∨ ∃ d vs, dx = some d ∧ R d = some (.xd vs) ∧ FsOk K R x.fs vs)
theorem FsOk.mono {K : PySem.W.Frag} {R H : Hp} (s : Sub R H) : ∀ {fs : List (Str × D)} {vs : List (Str × V)}, FsOk K R fs vs → FsOk K H fs vs
  | [], _, h => h
  | _ :: _, _, ⟨v, vr, e, a, t⟩ => ⟨v, vr, e, a.mono s, FsOk.mono s t⟩
theorem XOk.mono {K : PySem.W.Frag} {mg : Str → Option Value} {R H : Hp} (s : Sub R H) {x : Exn} {c : Value} {dx : Option Addr} (h : XOk K mg R x c dx) : XOk K mg H x c dx := by
  refine ⟨h.1, h.2.imp id fun ⟨d, vs, e, e2, q⟩ => ⟨d, vs, e, s _ _ e2, q.mono s⟩⟩

/-- how the result of a piece is held by what Python has -/
abbrev RelT (α β : Type) := Hp → Hp → α → β → List Addr → Prop
/-- such a relation goes along with steps elsewhere (pu: the heap only grew) -/
structure Frm {α β : Type} (rel : RelT α β) (bo : α → Bool) : Prop where
  foot : ∀ {R H a v F}, rel R H a v F → ∀ x ∈ F, (∃ o, H x = some o) ∧ R x = none
  frame : ∀ {R R' H H' a v F}, rel R H a v F → Sub R R' → (bo a = true → Sub H H') → (∀ x ∈ F, H' x = H x) → (∀ x ∈ F, R' x = none) → rel R' H' a v F

section
variable {α β γ δ : Type} (K : PySem.W.Frag) (mg : Str → Option Value) (W : WX)
def PostR (rel : RelT α β) (pu : Bool) (R H : Hp) (F : List Addr) (σ : L2.St) (Q : β → Hp → Prop) : Res α → Prop
  | .ok ρ' a => ∀ v H' R' F' Fv, Sta K R' H' ρ' σ F' → rel R' H' a v Fv → (F' ++ Fv).Nodup → Step R H F R' H' (F' ++ Fv) → (pu = true → Sub H H') → Q v H'
  | .ex ρ' x => ∀ c dx H' R' F', Sta K R' H' ρ' σ F' → XOk K mg R' x c dx → Step R H F R' H' F' → W c dx σ H'
/-- the reading of a piece by its meaning -/
def tG (rel : RelT α β) (pu : Bool) (den : Den α) : L2.St → Hp → (β → Hp → Prop) → Prop :=
  fun σ H Q => ∃ ρ R F r, Sta K R H ρ σ F ∧ den ρ = some r ∧ PostR K mg W rel pu R H F σ Q r
abbrev tE (pu : Bool) (den : Den DV) : TE := tG K mg W (VOk K) pu den
def RB : RelT Bool Bool := fun _ _ a v F => v = a ∧ F = []
abbrev tT (pu : Bool) (den : Den Bool) : TT := tG K mg W RB pu den
/-- argument lists -/
def VsOk : RelT (List DV) (List V)
  | _, _, [], vs, F => vs = [] ∧ F = []
  | R, H, a :: as, vs, F => ∃ v vr F1 F2, vs = v :: vr ∧ F = F1 ++ F2 ∧ VOk K R H a v F1 ∧ VsOk R H as vr F2
abbrev tA (pu : Bool) (den : Den (List DV)) : TA := tG K mg W (VsOk K) pu den
end

section
variable {α β γ δ : Type} {K : PySem.W.Frag} {mg : Str → Option Value} {W : WX} {rel : RelT α β} {rel' : RelT γ δ} {pu pa pc : Bool} {R H R1 H1 : Hp} {F F1 : List Addr} {ρ ρ1 : Rho} {σ : L2.St} {Q : β → Hp → Prop} {Q' : δ → Hp → Prop}

def isBo (a : DV) : Bool := decide (a.1 = Md.bo)
theorem Frm.vok : Frm (VOk K) isBo where
  foot := fun h => VOk.foot h
  frame := fun h g hb k n => VOk.frame h g (fun e => hb (decide_eq_true e)) k n
theorem Frm.rb : Frm RB (fun _ => false) where
  foot := fun h => by
    rw [h.2]
    intro x hx
    cases hx
  frame := fun h _ _ _ _ => h

/-- the wanted end, seen from behind a step -/
theorem PostR.step {r : Res γ} (h : PostR K mg W rel' pc R H F σ Q' r) (s : Step R H F R1 H1 F1) (hp : pc = true → Sub H H1) : PostR K mg W rel' pc R1 H1 F1 σ Q' r := by
  cases r with
  | ok ρ' a => exact fun v H' R' F' Fv st q n s2 p => h v H' R' F' Fv st q n (s.trans s2) fun e => (hp e).trans (p e)
  | ex ρ' x => exact fun c dx H' R' F' st q s2 => h c dx H' R' F' st q (s.trans s2)
/-- one piece, then the rest: k gives what is wanted of the first one's result -/
theorem tG_bind {da : Den α} {f : α → Den γ} {r : Res γ} (hS : Sta K R H ρ σ F) (hden : dBind da f ρ = some r) (hQ : PostR K mg W rel' pc R H F σ Q' r)
    (k : ∀ ρ1 a v H1 R1 F1 Fv, f a ρ1 = some r → Sta K R1 H1 ρ1 σ F1 → rel R1 H1 a v Fv → (F1 ++ Fv).Nodup → Step R H F R1 H1 (F1 ++ Fv) → (pa = true → Sub H H1) → Q v H1) : tG K mg W rel pa da σ H Q := by
  unfold dBind at hden
  split at hden
  · cases hden
  · rename_i ρ' x e
    cases hden
    exact ⟨ρ, R, F, _, hS, e, fun c dx H' R' F' st q s => hQ c dx H' R' F' st q s⟩
  · rename_i ρ1 a e
    exact ⟨ρ, R, F, _, hS, e, fun v H1 R1 F1 Fv st q n s p => k ρ1 a v H1 R1 F1 Fv hden st q n s p⟩
/-- a held result behind a further step -/
theorem Frm.behind {bo : α → Bool} (fr : Frm rel bo) {a : α} {v : β} {G F2 : List Addr} {R2 H2 : Hp} (h : rel R1 H1 a v G) (n : (F1 ++ G).Nodup) (s : Step R1 H1 F1 R2 H2 F2) (hb : bo a = true → Sub H1 H2) : rel R2 H2 a v G ∧ (∀ x ∈ G, x ∉ F2) := by
  have ft := fr.foot h
  have hd : ∀ x ∈ G, x ∉ F1 := fun x hx hf => (List.nodup_append.mp n).2.2 x hf x hx rfl
  obtain ⟨k1, k2, k3⟩ := s.away ft hd
  exact ⟨fr.frame h s.grow hb k1 k2, k3⟩
end
end Den

namespace Den
open PySem PySem.Spec PyProof.Rows L2
section
variable {K : PySem.W.Frag} {R R' H H' : Hp} {F : List Addr}
theorem VsOk.foot : ∀ {as : List DV} {vs : List V} {F : List Addr}, VsOk K R H as vs F → ∀ x ∈ F, (∃ o, H x = some o) ∧ R x = none
  | [], _, _, ⟨_, e⟩, x, hx => by rw [e] at hx; cases hx
  | a :: as, _, _, ⟨v, vr, F1, F2, _, e, h, t⟩, x, hx => by
    rw [e] at hx
    rcases List.mem_append.mp hx with hx | hx
    · exact h.foot x hx
    · exact VsOk.foot t x hx
theorem VsOk.frame (g : Sub R R') : ∀ {as : List DV} {vs : List V} {F : List Addr}, VsOk K R H as vs F → (as.any isBo = true → Sub H H') → (∀ x ∈ F, H' x = H x) → (∀ x ∈ F, R' x = none) → VsOk K R' H' as vs F
  | [], _, _, ⟨h1, h2⟩, _, _, _ => ⟨h1, h2⟩
  | a :: as, _, _, ⟨v, vr, F1, F2, e1, e, h, t⟩, hb, k, n => by
    subst e
    refine ⟨v, vr, F1, F2, e1, rfl, h.frame g (fun q => hb (by rw [List.any_cons, show isBo a = true from decide_eq_true q]; rfl)) (fun x hx => k x (List.mem_append_left _ hx)) fun x hx => n x (List.mem_append_left _ hx), ?_⟩
    exact VsOk.frame g t (fun q => hb (by rw [List.any_cons, q, Bool.or_true])) (fun x hx => k x (List.mem_append_right _ hx)) fun x hx => n x (List.mem_append_right _ hx)
theorem Frm.vsok : Frm (VsOk K) (fun as => as.any isBo) where
  foot := fun h => h.foot
  frame := fun h g hb k n => h.frame g hb k n
theorem VsOk.at (g : Sub R H) : ∀ {as : List DV} {vs : List V} {F : List Addr}, VsOk K R H as vs F → AtAll K H vs (as.map (·.2))
  | [], _, _, ⟨e, _⟩ => by rw [e]; exact .nil
  | a :: as, _, _, ⟨v, vr, F1, F2, e1, e, h, t⟩ => by rw [e1]; exact .cons (h.at g) (VsOk.at g t)
theorem VsOk.freeze (g : Sub R H) : ∀ {as : List DV} {vs : List V} {F G : List Addr}, (∀ x ∈ F, x ∈ G) → VsOk K R H as vs F → as.any isBo = false → AtAll K (ext R H G) vs (as.map (·.2))
  | [], _, _, _, _, ⟨e, _⟩, _ => by rw [e]; exact .nil
  | a :: as, _, _, G, hG, ⟨v, vr, F1, F2, e1, e, h, t⟩, hb => by
    subst e1 e
    rw [List.any_cons, Bool.or_eq_false_iff] at hb
    refine .cons ?_ (VsOk.freeze g (fun x hx => hG x (List.mem_append_right _ hx)) t hb.2)
    refine At.mono ?_ (h.freeze g fun z => absurd (show isBo a = true from decide_eq_true z) (by rw [hb.1]; exact Bool.false_ne_true))
    intro x o q
    unfold ext at q ⊢
    split at q
    · rw [if_pos (hG x (List.mem_append_left _ ‹_›))]; exact q
    · split
      · exact g x o q
      · exact q
end

section
variable {α β γ δ : Type} {K : PySem.W.Frag} {mg : Str → Option Value} {W : WX} {rel : RelT α β} {rel' : RelT γ δ} {pu pa pb pc : Bool} {R R1 H H1 : Hp} {F F1 G : List Addr} {ρ ρ1 : Rho} {σ : L2.St} {Q : VK} {d : D} {ds : List D} {vs : List V} {p : Addr}

/-! ### results -/
theorem Sta.fresh {o : HO} (hS : Sta K R H ρ σ F) (hp : H p = none) : Sta K R (upd H p o) ρ σ F :=
  hS.frame .refl (hS.sub.trans (.upd hp)) (fun a ha => by
    obtain ⟨⟨u, e⟩, _⟩ := hS.slots.foot a ha
    rw [upd_ne (ne_of_none e hp)]) fun a ha => (hS.slots.foot a ha).2
theorem Sta.none_of (hS : Sta K R H ρ σ F) (hp : H p = none) : R p = none := by
  cases e : R p with
  | none => rfl
  | some o => rw [hS.sub _ _ e] at hp; cases hp
theorem Sta.grow {o : HO} (hS : Sta K R H ρ σ F) (hp : H p = none) : Sta K (upd R p o) (upd H p o) ρ σ F := by
  have hf : ∀ a ∈ F, a ≠ p := fun a ha => by
    obtain ⟨⟨u, e⟩, _⟩ := hS.slots.foot a ha
    exact ne_of_none e hp
  refine (hS.fresh (o := o) hp).frame (.upd (hS.none_of hp)) (fun a u e => ?_) (fun _ _ => rfl) fun a ha => ?_
  · by_cases z : a = p
    · subst z; rw [upd_same] at e ⊢; exact e
    · rw [upd_ne z] at e ⊢; exact hS.sub a u e
  · rw [upd_ne (hf a ha)]; exact (hS.slots.foot a ha).2
theorem Step.fresh {o : HO} (hp : H p = none) (hg : ∀ a ∈ G, a ∈ F ∨ a = p) : Step R H F R (upd H p o) G where
  keep := fun a u e _ => by rw [upd_ne (ne_of_none e hp)]; exact e
  grow := .refl
  rnew := fun _ _ e => .inl e
  fnew := fun a ha => (hg a ha).imp id fun e => by rw [e]; exact hp
  there := fun a u e => ⟨u, by rw [upd_ne (ne_of_none e hp)]; exact e⟩
theorem Step.grown {o : HO} (hp : H p = none) (hr : R p = none) : Step R H F (upd R p o) (upd H p o) F where
  keep := fun a u e _ => by rw [upd_ne (ne_of_none e hp)]; exact e
  grow := .upd hr
  rnew := fun a u e => by
    unfold upd at e
    split at e
    · exact .inr (.inr (by rw [‹a = p›]; exact hp))
    · exact .inl e
  fnew := fun a ha => .inl ha
  there := fun a u e => ⟨u, by rw [upd_ne (ne_of_none e hp)]; exact e⟩
theorem PostR.scal (hQ : PostR K mg W (VOk K) pc R H F σ Q (.ok ρ (.sh .im, d))) (hS : Sta K R H ρ σ F) (hd : d.scal = true) : Q d.sv H :=
  hQ _ H R F [] hS (VOk.scal hd) (by rw [List.append_nil]; exact hS.nd) (by rw [List.append_nil]; exact .refl) fun _ => .refl
/-- a plain value that stands already -/
theorem PostR.im {v : V} (hQ : PostR K mg W (VOk K) pc R H F σ Q (.ok ρ (.sh .im, d))) (hS : Sta K R H ρ σ F) (h : At K R v d) : Q v H :=
  hQ _ H R F [] hS ⟨rfl, h⟩ (by rw [List.append_nil]; exact hS.nd) (by rw [List.append_nil]; exact .refl) fun _ => .refl
theorem PostR.newL (hQ : PostR K mg W (VOk K) pc R H F σ Q (.ok ρ (.sh (.ow .im), .lst ds))) (hS : Sta K R H ρ σ F) (h : AtAll K R vs ds) (hp : H p = none) : Q (.ref p) (upd H p (.lst vs)) := by
  have hf : p ∉ F := fun hm => by
    obtain ⟨⟨u, e⟩, _⟩ := hS.slots.foot p hm
    rw [hp] at e; cases e
  have own : ∀ (ds : List D) (vs : List V), AtAll K R vs ds → OwnL (Own K R (upd H p (.lst vs)) .im) ds vs [] := fun ds vs h => by
    have key : ∀ (H' : Hp) (ds : List D) (vs : List V), AtAll K R vs ds → OwnL (Own K R H' .im) ds vs [] := fun H' ds => by
      induction ds with
      | nil => intro vs h; cases h; exact ⟨rfl, rfl⟩
      | cons d ds ih => intro vs h; cases h with | cons h1 h2 => exact ⟨_, _, [], [], rfl, rfl, ⟨rfl, h1⟩, ih _ h2⟩
    exact key _ ds vs h
  refine hQ (.ref p) _ R F [p] (hS.fresh hp) ⟨p, vs, [], rfl, rfl, upd_same, hS.none_of hp, own ds vs h⟩ ?_ (.fresh hp fun a ha => (List.mem_append.mp ha).imp id fun z => List.mem_singleton.mp z) fun _ => .upd hp
  rw [List.nodup_append]
  exact ⟨hS.nd, by simp, fun a ha b hb => by rw [List.mem_singleton.mp hb]; rintro rfl; exact hf ha⟩
theorem PostR.newT (hQ : PostR K mg W (VOk K) pc R H F σ Q (.ok ρ (.sh .im, .tup ds))) (hS : Sta K R H ρ σ F) (h : AtAll K R vs ds) (hp : H p = none) : Q (.ref p) (upd H p (.tup vs)) := by
  have hr := hS.none_of hp
  refine hQ (.ref p) _ (upd R p (.tup vs)) F [] (hS.grow hp) ⟨rfl, .tup (.inl (.inl upd_same)) (h.mono (.upd hr))⟩ (by rw [List.append_nil]; exact hS.nd) (by rw [List.append_nil]; exact .grown hp hr) fun _ => .upd hp

/-! ### held values become plain -/
theorem Sta.freeze (hS : Sta K R H ρ σ F) (hG : ∀ x ∈ G, x ∉ F) : Sta K (ext R H G) H ρ σ F :=
  hS.frame (ext_sub hS.sub) (sub_ext hS.sub) (fun _ _ => rfl) fun a ha => by
    rw [ext_out fun z => hG a z ha]; exact (hS.slots.foot a ha).2
theorem Step.freeze (g : Sub R H) : Step R H (F ++ G) (ext R H G) H F := (ext_step g fun x hx => List.mem_append_right _ hx).less fun x hx => List.mem_append_left _ hx
theorem nd_out {F G : List Addr} (n : (F ++ G).Nodup) : ∀ x ∈ G, x ∉ F := fun x hx hf => (List.nodup_append.mp n).2.2 x hf x hx rfl

/-! ### what an operation gives: a scalar; a new list; plain data (what stands, or a new tuple) -/
inductive OR where
  | s (d : D) | l (ds : List D) | a (d : D)
def OR.val : OR → DV
  | .s d => (.sh .im, d)
  | .l ds => (.sh (.ow .im), .lst ds)
  | .a d => (.sh .im, d)
/-- held values suffice -/
def OR.lent : OR → Bool
  | .s _ => true
  | _ => false
/-- what is enough for an operation's end -/
def OR.wants (K : PySem.W.Frag) (R H : Hp) (Q : VK) : OR → Prop
  | .s d => d.scal = true ∧ Q d.sv H
  | .l ds => ∀ vs p, AtAll K R vs ds → H p = none → Q (.ref p) (upd H p (.lst vs))
  | .a d => (∀ v, At K R v d → Q v H) ∧ ∀ ds vs p, d = .tup ds → AtAll K R vs ds → H p = none → Q (.ref p) (upd H p (.tup vs))
def OR.okS : OR → Bool
  | .s d => d.scal
  | _ => true
theorem PostR.or {o : OR} (hQ : PostR K mg W (VOk K) pc R H F σ Q (.ok ρ o.val)) (hS : Sta K R H ρ σ F) (hs : o.okS = true) : o.wants K R H Q := by
  cases o with
  | s d => exact ⟨hs, hQ.scal hS hs⟩
  | l ds => exact fun vs p h hp => hQ.newL hS h hp
  | a d => exact ⟨fun v h => hQ.im hS h, fun ds vs p e h hp => by subst e; exact hQ.newT hS h hp⟩

theorem two {da db : Den DV} {f : DV → DV → Den γ} {g : DV → Bool} {res : Res γ} {Q' : δ → Hp → Prop} {T : V → V → Hp → Prop} (hS : Sta K R H ρ σ F) (hden : dBind da (fun a => if g a = true then dFail else dBind db (f a)) ρ = some res)
    (hQ : PostR K mg W rel' pc R H F σ Q' res) (hpc : pc = true → pa = true ∧ pb = true) (hg : ∀ a, g a = false → isBo a = true → pb = true)
    (k : ∀ ρ2 a b v u H2 R2 F2 G1 G2, g a = false → f a b ρ2 = some res → Sta K R2 H2 ρ2 σ F2 → VOk K R2 H2 a v G1 → VOk K R2 H2 b u G2 → (F2 ++ (G1 ++ G2)).Nodup → PostR K mg W rel' pc R2 H2 (F2 ++ (G1 ++ G2)) σ Q' res → T v u H2) :
    tE K mg W pa da σ H fun v H1 => tE K mg W pb db σ H1 fun u H2 => T v u H2 := by
  refine tG_bind hS hden hQ fun ρ1 a v H1 R1 F1 G1 e st q n s p => ?_
  cases hga : g a with
  | true => rw [if_pos hga] at e; cases e
  | false =>
    rw [if_neg (by rw [hga]; exact Bool.false_ne_true)] at e
    have sl : Step R H F R1 H1 F1 := s.less fun x hx => List.mem_append_left _ hx
    have hQ1 := hQ.step sl fun z => p (hpc z).1
    refine tG_bind st e hQ1 fun ρ2 b u H2 R2 F2 G2 e2 st2 q2 n2 s2 p2 => ?_
    obtain ⟨v2, hd⟩ := Frm.vok.behind q n s2 fun z => p2 (hg a hga z)
    have hf1 := q.foot
    have nn : (F2 ++ (G1 ++ G2)).Nodup := by
      rw [List.nodup_append] at n n2 ⊢
      obtain ⟨a1, a2, a3⟩ := n
      obtain ⟨b1, b2, b3⟩ := n2
      refine ⟨b1, List.nodup_append.mpr ⟨a2, b2, fun x hx y hy => ?_⟩, fun x hx y hy => ?_⟩
      · rintro rfl; exact hd x hx (List.mem_append_right _ hy)
      · rcases List.mem_append.mp hy with hy | hy
        · rintro rfl; exact hd x hy (List.mem_append_left _ hx)
        · exact b3 x hx y hy
    refine k ρ2 a b v u H2 R2 F2 G1 G2 hga e2 st2 v2 q2 nn ?_
    have s12 : Step R H F R2 H2 (F2 ++ (G1 ++ G2)) := by
      refine ⟨(sl.trans s2).keep, (sl.trans s2).grow, (sl.trans s2).rnew, fun x hx => ?_, (sl.trans s2).there⟩
      rcases List.mem_append.mp hx with hx | hx
      · exact (sl.trans s2).fnew x (List.mem_append_left _ hx)
      · rcases List.mem_append.mp hx with hx | hx
        · exact s.fnew x (List.mem_append_right _ hx)
        · exact (sl.trans s2).fnew x (List.mem_append_right _ hx)
    exact hQ.step s12 fun z => (p (hpc z).1).trans (p2 (hpc z).2)
theorem not_bo {a : DV} (h : isBo a = false) : a.1 ≠ .bo := fun z => absurd (show isBo a = true from decide_eq_true z) (by rw [h]; exact Bool.false_ne_true)
theorem ext_mono {G2 : List Addr} (g : Sub R H) (h : ∀ x ∈ G, x ∈ G2) : Sub (ext R H G) (ext R H G2) := fun x o q => by
  unfold ext at q ⊢
  split at q
  · rw [if_pos (h x ‹_›)]; exact q
  · split
    · exact g x o q
    · exact q
theorem ff_of {b : Bool} (h : ¬ b = true) : b = false := by cases b <;> simp_all
/-- two operands, both taken as plain data -/
theorem twoIm {da db : Den DV} {f : DV → DV → Den γ} {res : Res γ} {Q' : δ → Hp → Prop} {T : V → V → Hp → Prop} (hS : Sta K R H ρ σ F)
    (hden : dBind da (fun a => if isBo a = true then dFail else dBind db fun b => if isBo b = true then dFail else f a b) ρ = some res)
    (hQ : PostR K mg W rel' (pa && pb) R H F σ Q' res)
    (k : ∀ ρ2 a b v u H2 R2 F2, f a b ρ2 = some res → Sta K R2 H2 ρ2 σ F2 → At K R2 v a.2 → At K R2 u b.2 → PostR K mg W rel' (pa && pb) R2 H2 F2 σ Q' res → T v u H2) :
    tE K mg W pa da σ H fun v H1 => tE K mg W pb db σ H1 fun u H2 => T v u H2 := by
  refine two (g := isBo) hS hden hQ (fun z => Bool.and_eq_true_iff.mp z) (fun a z w => by rw [w] at z; cases z) fun ρ2 a b v u H2 R2 F2 G1 G2 ga e st q q2 n hQ2 => ?_
  cases hb : isBo b with
  | true => rw [if_pos hb] at e; cases e
  | false =>
    rw [if_neg (by rw [hb]; exact Bool.false_ne_true)] at e
    refine k ρ2 a b v u H2 (ext R2 H2 (G1 ++ G2)) F2 e (st.freeze (nd_out n)) ?_ ?_ (hQ2.step (.freeze st.sub) fun _ => .refl)
    · exact (q.freeze st.sub (not_bo ga)).mono (ext_mono st.sub fun x hx => List.mem_append_left _ hx)
    · exact (q2.freeze st.sub (not_bo hb)).mono (ext_mono st.sub fun x hx => List.mem_append_right _ hx)
/-- the ground that an operation is told: lent values, over the heap as it stands; else plain -/
def OpX (K : PySem.W.Frag) (op : D → D → Option OR) (r : R2) : Prop := ∀ d e o v u R H Q, op d e = some o → Sub R H → At K (if o.lent = true then H else R) v d → At K (if o.lent = true then H else R) u e → o.okS = true ∧ (o.wants K R H Q → r v u H Q)
def dBin (pb : Bool) (op : D → D → Option OR) (da db : Den DV) : Den DV := dBind da fun a => if (isBo a && !pb) = true then dFail else dBind db fun b => dLift (op a.2 b.2) fun o => if (!o.lent && (isBo a || isBo b)) = true then dFail else dRet o.val
theorem bin_ok {op : D → D → Option OR} {r : R2} (hr : OpX K op r) {da db : Den DV} (h : tE K mg W (pa && pb) (dBin pb op da db) σ H Q) : tOp r (tE K mg W pa da) (tE K mg W pb db) σ H Q := by
  obtain ⟨ρ, R, F, res, hS, hden, hQ⟩ := h
  refine two (g := fun a => isBo a && !pb) hS hden hQ (fun z => Bool.and_eq_true_iff.mp z) (fun a z w => ?_) fun ρ2 a b v u H2 R2 F2 G1 G2 ga e st q q2 n hQ2 => ?_
  · rw [w] at z; simpa using z
  · unfold dLift at e
    split at e
    · cases e
    · rename_i o e1
      dsimp only at e
      split at e
      · cases e
      · rename_i hb
        cases e
        cases hl : o.lent with
        | true =>
          have hx := hr _ _ o v u R2 H2 Q e1 st.sub (by rw [if_pos hl]; exact q.at st.sub) (by rw [if_pos hl]; exact q2.at st.sub)
          exact hx.2 ((hQ2.step (.less .refl fun x hx => List.mem_append_left _ hx) fun _ => .refl).or st hx.1)
        | false =>
          rw [hl] at hb
          simp only [Bool.not_false, Bool.true_and, Bool.or_eq_true, not_or] at hb
          have st' := st.freeze (nd_out n)
          have q' := (q.freeze st.sub (not_bo (ff_of hb.1))).mono (ext_mono (G2 := G1 ++ G2) st.sub fun x hx => List.mem_append_left _ hx)
          have q2' := (q2.freeze st.sub (not_bo (ff_of hb.2))).mono (ext_mono (G2 := G1 ++ G2) st.sub fun x hx => List.mem_append_right _ hx)
          have hx := hr _ _ o v u (ext R2 H2 (G1 ++ G2)) H2 Q e1 st'.sub (by rw [hl]; exact q') (by rw [hl]; exact q2')
          exact hx.2 ((hQ2.step (.freeze st.sub) fun _ => .refl).or st' hx.1)
def UnX (K : PySem.W.Frag) (op : D → Option OR) (r : V → Hp → VK → Prop) : Prop := ∀ d o v R H Q, op d = some o → Sub R H → At K (if o.lent = true then H else R) v d → o.okS = true ∧ (o.wants K R H Q → r v H Q)
def dUn (op : D → Option OR) (da : Den DV) : Den DV := dBind da fun a => dLift (op a.2) fun o => if (!o.lent && isBo a) = true then dFail else dRet o.val
theorem un_ok {op : D → Option OR} {r : V → Hp → VK → Prop} (hr : UnX K op r) {da : Den DV} (h : tE K mg W pa (dUn op da) σ H Q) : tUn r (tE K mg W pa da) σ H Q := by
  obtain ⟨ρ, R, F, res, hS, hden, hQ⟩ := h
  refine tG_bind hS hden hQ fun ρ1 a v H1 R1 F1 G1 e st q n s p => ?_
  unfold dLift at e
  split at e
  · cases e
  · rename_i o e1
    dsimp only at e
    split at e
    · cases e
    · rename_i hb
      cases e
      cases hl : o.lent with
      | true =>
        have hx := hr _ o v R1 H1 Q e1 st.sub (by rw [if_pos hl]; exact q.at st.sub)
        exact hx.2 (((hQ.step s p).step (.less .refl fun x hx => List.mem_append_left _ hx) fun _ => .refl).or st hx.1)
      | false =>
        rw [hl] at hb
        have hx := hr _ o v (ext R1 H1 G1) H1 Q e1 (st.freeze (nd_out n)).sub (by rw [hl]; exact q.freeze st.sub (not_bo (ff_of hb)))
        exact hx.2 (((hQ.step s p).step (.freeze st.sub) fun _ => .refl).or (st.freeze (nd_out n)) hx.1)
/-- one operand, as plain data -/
theorem oneIm {da : Den DV} {f : DV → Den γ} {res : Res γ} {Q' : δ → Hp → Prop} {T : V → Hp → Prop} (hS : Sta K R H ρ σ F)
    (hden : dBind da (fun a => if isBo a = true then dFail else f a) ρ = some res) (hQ : PostR K mg W rel' pa R H F σ Q' res)
    (k : ∀ ρ2 a v H2 R2 F2, f a ρ2 = some res → Sta K R2 H2 ρ2 σ F2 → At K R2 v a.2 → PostR K mg W rel' pa R2 H2 F2 σ Q' res → T v H2) :
    tE K mg W pa da σ H T := by
  refine tG_bind hS hden hQ fun ρ1 a v H1 R1 F1 G1 e st q n s p => ?_
  cases hb : isBo a with
  | true => rw [if_pos hb] at e; cases e
  | false =>
    rw [if_neg (by rw [hb]; exact Bool.false_ne_true)] at e
    exact k ρ1 a v H1 (ext R1 H1 G1) F1 e (st.freeze (nd_out n)) (q.freeze st.sub (not_bo hb)) ((hQ.step s p).step (.freeze st.sub) fun _ => .refl)
/-! ### argument lists -/
def dNil : Den (List DV) := dRet []
def dCons (pr : Bool) (da : Den DV) (dr : Den (List DV)) : Den (List DV) := dBind da fun a => if (isBo a && !pr) = true then dFail else dBind dr fun as => dRet (a :: as)
theorem args_nil {Q : List V → Hp → Prop} (h : tA K mg W true dNil σ H Q) : tNil σ H Q := by
  obtain ⟨ρ, R, F, res, hS, hden, hQ⟩ := h
  cases hden
  exact hQ [] H R F [] hS ⟨rfl, rfl⟩ (by rw [List.append_nil]; exact hS.nd) (by rw [List.append_nil]; exact .refl) fun _ => .refl
theorem args_cons {da : Den DV} {dr : Den (List DV)} {Q : List V → Hp → Prop} (h : tA K mg W (pa && pb) (dCons pb da dr) σ H Q) : tCons (tE K mg W pa da) (tA K mg W pb dr) σ H Q := by
  obtain ⟨ρ, R, F, res, hS, hden, hQ⟩ := h
  refine tG_bind hS hden hQ fun ρ1 a v H1 R1 F1 G1 e st q n s p => ?_
  cases hga : (isBo a && !pb) with
  | true => rw [if_pos hga] at e; cases e
  | false =>
    rw [if_neg (by rw [hga]; exact Bool.false_ne_true)] at e
    have sl : Step R H F R1 H1 F1 := s.less fun x hx => List.mem_append_left _ hx
    have hQ1 := hQ.step sl fun z => p (Bool.and_eq_true_iff.mp z).1
    refine tG_bind st e hQ1 fun ρ2 b u H2 R2 F2 G2 e2 st2 q2 n2 s2 p2 => ?_
    cases e2
    obtain ⟨v2, hd⟩ := Frm.vok.behind q n s2 fun z => p2 (by rw [z] at hga; simpa using hga)
    refine hQ (v :: u) H2 R2 F2 (G1 ++ G2) st2 ⟨v, u, G1, G2, rfl, rfl, v2, q2⟩ ?_ ⟨(sl.trans s2).keep, (sl.trans s2).grow, (sl.trans s2).rnew, fun x hx => ?_, (sl.trans s2).there⟩ fun z => (p (Bool.and_eq_true_iff.mp z).1).trans (p2 (Bool.and_eq_true_iff.mp z).2)
    · rw [List.nodup_append] at n n2 ⊢
      obtain ⟨a1, a2, a3⟩ := n
      obtain ⟨b1, b2, b3⟩ := n2
      refine ⟨b1, List.nodup_append.mpr ⟨a2, b2, fun x hx y hy => ?_⟩, fun x hx y hy => ?_⟩
      · rintro rfl; exact hd x hx (List.mem_append_right _ hy)
      · rcases List.mem_append.mp hy with hy | hy
        · rintro rfl; exact hd x hy (List.mem_append_left _ hx)
        · exact b3 x hx y hy
    · rcases List.mem_append.mp hx with hx | hx
      · exact (sl.trans s2).fnew x (List.mem_append_left _ hx)
      · rcases List.mem_append.mp hx with hx | hx
        · exact s.fnew x (List.mem_append_right _ hx)
        · exact (sl.trans s2).fnew x (List.mem_append_right _ hx)
/-- the arguments, as plain data -/
theorem argsIm {da : Den (List DV)} {f : List DV → Den γ} {res : Res γ} {Q' : δ → Hp → Prop} {T : List V → Hp → Prop} (hS : Sta K R H ρ σ F)
    (hden : dBind da (fun as => if as.any isBo = true then dFail else f as) ρ = some res) (hQ : PostR K mg W rel' pa R H F σ Q' res)
    (k : ∀ ρ2 as vs H2 R2 F2, f as ρ2 = some res → Sta K R2 H2 ρ2 σ F2 → AtAll K R2 vs (as.map (·.2)) → PostR K mg W rel' pa R2 H2 F2 σ Q' res → T vs H2) :
    tA K mg W pa da σ H T := by
  refine tG_bind hS hden hQ fun ρ1 a v H1 R1 F1 G1 e st q n s p => ?_
  cases hb : a.any isBo with
  | true => rw [if_pos hb] at e; cases e
  | false =>
    rw [if_neg (by rw [hb]; exact Bool.false_ne_true)] at e
    exact k ρ1 a v H1 (ext R1 H1 G1) F1 e (st.freeze (nd_out n)) (q.freeze st.sub (fun _ h => h) hb) ((hQ.step s p).step (.freeze st.sub) fun _ => .refl)

/-- a call of something built in -/
def CallX (K : PySem.W.Frag) (op : List D → Option OR) (r : List V → Hp → VK → Prop) : Prop := ∀ ds o vs R H Q, op ds = some o → Sub R H → AtAll K (if o.lent = true then H else R) vs ds → o.okS = true ∧ (o.wants K R H Q → r vs H Q)
def dCall (op : List D → Option OR) (da : Den (List DV)) : Den DV := dBind da fun as => dLift (op (as.map (·.2))) fun o => if (!o.lent && as.any isBo) = true then dFail else dRet o.val
theorem call_ok {op : List D → Option OR} {r : List V → Hp → VK → Prop} (hr : CallX K op r) {da : Den (List DV)} (h : tE K mg W pa (dCall op da) σ H Q) : tCB r (tA K mg W pa da) σ H Q := by
  obtain ⟨ρ, R, F, res, hS, hden, hQ⟩ := h
  refine tG_bind hS hden hQ fun ρ1 a v H1 R1 F1 G1 e st q n s p => ?_
  unfold dLift at e
  split at e
  · cases e
  · rename_i o e1
    dsimp only at e
    split at e
    · cases e
    · rename_i hb
      cases e
      cases hl : o.lent with
      | true =>
        have hx := hr _ o v R1 H1 Q e1 st.sub (by rw [if_pos hl]; exact q.at st.sub)
        exact hx.2 (((hQ.step s p).step (.less .refl fun x hx => List.mem_append_left _ hx) fun _ => .refl).or st hx.1)
      | false =>
        rw [hl] at hb
        have hx := hr _ o v (ext R1 H1 G1) H1 Q e1 (st.freeze (nd_out n)).sub (by rw [hl]; exact q.freeze st.sub (fun _ h => h) (ff_of hb))
        exact hx.2 (((hQ.step s p).step (.freeze st.sub) fun _ => .refl).or (st.freeze (nd_out n)) hx.1)

/-! ### displays -/
def dTup (da : Den (List DV)) : Den DV := dBind da fun as => if as.any isBo = true then dFail else if as.length ≤ sizeLine then dRet (.sh .im, .tup (as.map (·.2))) else dFail
def dLst (da : Den (List DV)) : Den DV := dBind da fun as => if as.any isBo = true then dFail else if as.length ≤ sizeLine then dRet (.sh (.ow .im), .lst (as.map (·.2))) else dFail
theorem disp_tup {da : Den (List DV)} (h : tE K mg W pa (dTup da) σ H Q) : tTup (tA K mg W pa da) σ H Q := by
  obtain ⟨ρ, R, F, res, hS, hden, hQ⟩ := h
  refine argsIm hS hden hQ fun ρ2 as vs H2 R2 F2 e st q hQ2 => ?_
  split at e
  · rename_i hz
    cases e
    exact ⟨by rw [q.length, List.length_map]; exact hz, fun p hp => hQ2.newT st q hp⟩
  · cases e
theorem disp_lst {da : Den (List DV)} (h : tE K mg W pa (dLst da) σ H Q) : tLst (tA K mg W pa da) σ H Q := by
  obtain ⟨ρ, R, F, res, hS, hden, hQ⟩ := h
  refine argsIm hS hden hQ fun ρ2 as vs H2 R2 F2 e st q hQ2 => ?_
  split at e
  · rename_i hz
    cases e
    exact ⟨by rw [q.length, List.length_map]; exact hz, fun p hp => hQ2.newL st q hp⟩
  · cases e

/-! ### names, constants -/
def dC (d : D) : Den DV := dRet (.sh .im, d)
theorem const_ok {d : D} (hd : d.scal = true) (h : tE K mg W true (dC d) σ H Q) : tC d.sv σ H Q := by
  obtain ⟨ρ, R, F, res, hS, hden, hQ⟩ := h
  cases hden
  exact hQ.scal hS hd
/-- a name that is read -/
def dVar (i : Nat) : Den DV := fun ρ => match ρ[i]? with
  | some (some (.im, d)) => some (.ok ρ (.sh .im, d))
  | some (some (.ow _, d)) => some (.ok ρ (.bo, d))
  | _ => none
/-- a name whose value is kept elsewhere, too: from now on it is plain -/
def dVarF (i : Nat) : Den DV := fun ρ => match ρ[i]? with
  | some (some (.im, d)) => some (.ok ρ (.sh .im, d))
  | some (some (.ow _, d)) => some (.ok (ρ.set i (some (.im, d))) (.sh .im, d))
  | _ => none
/-- a name that is read for the last time -/
def dVarM (i : Nat) : Den DV := fun ρ => match ρ[i]? with
  | some (some (s, d)) => some (.ok (ρ.set i none) (.sh s, d))
  | _ => none
theorem var_ok {i : Nat} (h : tE K mg W true (dVar i) σ H Q) : tVar i σ H Q := by
  obtain ⟨ρ, R, F, res, hS, hden, hQ⟩ := h
  unfold dVar at hden
  split at hden
  · rename_i d e
    cases hden
    obtain ⟨v, F1, F2, h1, h2, h3, h4⟩ := hS.slots.pick e
    exact ⟨v, h1, hQ.im hS h2.2⟩
  · rename_i s d e
    cases hden
    obtain ⟨v, F1, F2, h1, h2, h3, h4⟩ := hS.slots.pick e
    refine ⟨v, h1, hQ v H R F [] hS ⟨rfl, Own.at hS.sub (fun _ _ => rfl) h2⟩ (by rw [List.append_nil]; exact hS.nd) (by rw [List.append_nil]; exact .refl) fun _ => .refl⟩
  · cases hden
theorem set_self {σ : L2.St} {i : Nat} {v : Option V} (h : σ[i]? = some v) : σ.set i v = σ := by
  obtain ⟨hi, e⟩ := List.getElem?_eq_some_iff.mp h
  rw [← e]; exact List.set_getElem_self hi
theorem set_set {ρ : Rho} {i : Nat} {x y : Slot} : (ρ.set i x).set i y = ρ.set i y := List.set_set ..
/-- a name's value becomes plain -/
theorem Sta.thaw {i : Nat} {s : Sh} (hS : Sta K R H ρ σ F) (e : ρ[i]? = some (some (s, d))) : ∃ v R' F', σ[i]? = some (some v) ∧ At K R' v d ∧ Sta K R' H (ρ.set i (some (.im, d))) σ F' ∧ Step R H F R' H F' := by
  obtain ⟨v, F1, F2, h1, h2, h3, h4⟩ := hS.slots.pick e
  have n : (F1 ++ F2).Nodup := h4.nodup_iff.mp hS.nd
  have hd : ∀ x ∈ F1, x ∉ F2 := fun x hx hy => (List.nodup_append.mp n).2.2 x hx x hy rfl
  have a : At K (ext R H F1) v d := Own.at (ext_sub hS.sub) (fun x hx => ext_in hx) h2
  have s3 : Sta K R H (ρ.set i none) σ F2 := ⟨h3, hS.sub, (List.nodup_append.mp n).2.1⟩
  have s4 := s3.freeze hd
  have hi : i < (ρ.set i none).length := by rw [List.length_set]; exact (List.getElem?_eq_some_iff.mp e).1
  obtain ⟨F', p1, p2, p3⟩ := s4.slots.put (s := .im) (d := d) (v := v) (G := []) hi ⟨rfl, a⟩
  rw [set_set, set_self h1] at p1
  refine ⟨v, ext R H F1, F', h1, a, ⟨p1, s4.sub, p3 (by simpa using s4.nd)⟩, ?_⟩
  refine (ext_step hS.sub fun x hx => h4.mem_iff.mpr (List.mem_append_left _ hx)).less fun x hx => ?_
  rcases p2 x hx with z | z
  · cases z
  · exact h4.mem_iff.mpr (List.mem_append_right _ z)
theorem varF_ok {i : Nat} (h : tE K mg W true (dVarF i) σ H Q) : tVar i σ H Q := by
  obtain ⟨ρ, R, F, res, hS, hden, hQ⟩ := h
  unfold dVarF at hden
  split at hden
  · rename_i d e
    cases hden
    obtain ⟨v, F1, F2, h1, h2, h3, h4⟩ := hS.slots.pick e
    exact ⟨v, h1, hQ.im hS h2.2⟩
  · rename_i s d e
    cases hden
    obtain ⟨v, R', F', h1, h2, h3, h4⟩ := hS.thaw e
    exact ⟨v, h1, (hQ.step h4 fun _ => .refl).im h3 h2⟩
  · cases hden
theorem varM_ok {i : Nat} (h : tE K mg W true (dVarM i) σ H Q) : tVar i σ H Q := by
  obtain ⟨ρ, R, F, res, hS, hden, hQ⟩ := h
  unfold dVarM at hden
  split at hden
  · rename_i s d e
    cases hden
    obtain ⟨v, F1, F2, h1, h2, h3, h4⟩ := hS.slots.pick e
    have n : (F2 ++ F1).Nodup := List.perm_append_comm.nodup_iff.mp (h4.nodup_iff.mp hS.nd)
    refine ⟨v, h1, hQ v H R F2 F1 ⟨h3, hS.sub, (List.nodup_append.mp n).1⟩ h2 n (Step.refl.less fun x hx => h4.mem_iff.mpr ?_) fun _ => .refl⟩
    exact (List.mem_append.mp hx).elim (List.mem_append_right _) (List.mem_append_left _)
  · cases hden
end
end Den

/-! The operations on plain data, each with Python's. -/
namespace Den
open PySem PySem.Spec PyProof.Rows L2

theorem _root_.L2.PE.impD {X : Cx} {e : Expr} {t t' : TE} (h : PE X e t) (i : ∀ σ H Q, t' σ H Q → t σ H Q) : PE X e t' := ⟨fun pins s σ H Q I q => h.run pins s σ H Q I (i σ H Q q)⟩
theorem _root_.L2.PT.impD {X : Cx} {e : Expr} {t t' : TT} (h : PT X e t) (i : ∀ σ H Q, t' σ H Q → t σ H Q) : PT X e t' := ⟨fun pins s σ H Q I q => h.run pins s σ H Q I (i σ H Q q)⟩
theorem _root_.L2.PW.impD {X : Cx} {e : Expr} {t t' : TT} (h : PW X e t) (i : ∀ σ H Q, t' σ H Q → t σ H Q) : PW X e t' := ⟨fun wh pins s σ H Q I q => h.run wh pins s σ H Q I (i σ H Q q)⟩
theorem _root_.L2.PA.impD {X : Cx} {e : List Expr} {t t' : TA} (h : PA X e t) (i : ∀ σ H Q, t' σ H Q → t σ H Q) : PA X e t' := ⟨fun pos pins s σ H Q I q => h.run pos pins s σ H Q I (i σ H Q q)⟩
theorem _root_.L2.PS.impD {X : Cx} {e : Stmt} {t t' : TS} (h : PS X e t) (i : ∀ D σ H, t' D σ H → t D σ H) : PS X e t' := ⟨fun pins s σ H D I q => h.run pins s σ H D I (i D σ H q)⟩
theorem _root_.L2.PSs.impD {X : Cx} {e : List Stmt} {t t' : TS} (h : PSs X e t) (i : ∀ D σ H, t' D σ H → t D σ H) : PSs X e t' := ⟨fun pins s σ H D I q => h.run pins s σ H D I (i D σ H q)⟩

/-! ### + -/
section
variable {X : Cx} {K : PySem.W.Frag}
def rCatS (K : PySem.W.Frag) : R2 := fun x y H Q => ∃ l b xs zs, x = .ref l ∧ y = .ref b ∧ SqL K H l xs ∧ SqL K H b zs ∧ xs.length + zs.length ≤ sizeLine ∧ ∀ p, H p = none → Q (.ref p) (upd H p (.lst (xs ++ zs)))
theorem op_catS : OpR X (binaryOp .Add) (rCatS X.K) := by
  intro pins s σ H x y v u Q I rx ry h
  obtain ⟨l, b, xs, zs, rfl, rfl, hH, hB, hz, q⟩ := h
  cases rx
  cases ry
  obtain ⟨its, r, ⟨⟨cls, dd, data, sl⟩, n, e, hc, hdn, hd⟩, _⟩ := I.list hH
  obtain ⟨its2, r2, ⟨⟨cls2, dd2, data2, sl2⟩, n2, e2, hc2, hdn2, hd2⟩, _⟩ := I.list hB
  simp only at hc hd hc2 hd2
  subst hc hd hc2 hd2
  have ea : its.toArray ++ its2.toArray = (its ++ its2).toArray := by simp
  refine concat_meets ⟨_, e, rfl⟩ ⟨_, e2, rfl⟩ noFill_list_add seq_list_add PySem.F.slot_list_add PySem.F.entry_list_add (PySem.F.args_list_add_2 _ _)
    (list_addW l b its.toArray its2.toArray n n2 dd dd2 sl sl2 (by rw [List.size_toArray, List.size_toArray, ← r.length, ← r2.length]; exact hz)) ⟨e, e2, ?_⟩
  rw [ea]
  exact ⟨.ref _, _, I.lnew (t' := s.toks) (r.append r2) (by rw [List.length_append]; omega), rfl, q _ I.fresh⟩
def rAdd (K : PySem.W.Frag) : R2 := fun x y H Q => rI0 (fun i j => .int (i + j)) x y H Q ∨ (∃ i j, x = .str i ∧ y = .str j ∧ i.length + j.length ≤ sizeLine ∧ Q (.str (i ++ j)) H) ∨ rCatS K x y H Q ∨ rCatA K x y H Q
theorem or_add : OpR X (binaryOp .Add) (rAdd X.K) := op_add.or (op_add_str.or (op_catS.or op_catA))
def addOp : D → D → Option OR
  | .int i, .int j => some (.s (.int (i + j)))
  | .str a, .str b => if a.length + b.length ≤ sizeLine then some (.s (.str (a ++ b))) else none
  | .lst xs, .lst ys => if xs.length + ys.length ≤ sizeLine then some (.l (xs ++ ys)) else none
  | .tup xs, .tup ys => if xs.length + ys.length ≤ sizeLine then some (.a (.tup (xs ++ ys))) else none
  | _, _ => none
theorem AtAll.nil_of {R : Hp} {vs : List V} (h : AtAll K R vs []) : vs = [] := by cases h; rfl
theorem AtAll.ne_nil {R : Hp} {vs : List V} {ds : List D} (h : AtAll K R vs ds) (e : vs ≠ []) : ds ≠ [] := by rintro rfl; exact e h.nil_of
theorem ox_add : OpX K addOp (rAdd K) := by
  intro d e o v u R H Q ho hs hv hu
  unfold addOp at ho
  split at ho
  · cases ho
    cases hv; cases hu
    exact ⟨rfl, fun w => .inl ⟨_, _, rfl, rfl, w.2⟩⟩
  · split at ho
    · cases ho
      cases hv; cases hu
      exact ⟨rfl, fun w => .inr (.inl ⟨_, _, rfl, rfl, by assumption, w.2⟩)⟩
    · cases ho
  · split at ho
    · cases ho
      cases hv with | lst h1 h2 => cases hu with | lst h3 h4 =>
      refine ⟨rfl, fun w => .inr (.inr (.inl ⟨_, _, _, _, rfl, rfl, hs.sqL h1, hs.sqL h3, ?_, fun p hp => w _ p (AtAll.append h2 h4) hp⟩))⟩
      rw [h2.length, h4.length]; assumption
    · cases ho
  · split at ho
    · cases ho
      cases hv with | @tup a xs _ h1 h2 => cases hu with | @tup b ys _ h3 h4 =>
      refine ⟨rfl, fun w => .inr (.inr (.inr ⟨_, _, _, _, rfl, rfl, hs.sqT h1, hs.sqT h3, ?_, fun e => ?_, fun e e2 => ?_, fun e e2 p hp => w.2 _ _ p rfl (AtAll.append h2 h4) hp⟩))⟩
      · rw [h2.length, h4.length]; assumption
      · subst e; cases h2; exact w.1 _ (.tup h3 h4)
      · subst e2; cases h4; exact w.1 _ (by rw [List.append_nil]; exact .tup h1 h2)
    · cases ho
  · cases ho

/-! ### ints -/
def intOp (C : Int → Int → Bool) (g : Int → Int → D) : D → D → Option OR
  | .int i, .int j => if C i j = true then some (.s (g i j)) else none
  | _, _ => none
theorem ox_int {C : Int → Int → Bool} {g : Int → Int → D} {r : R2} (hg : ∀ i j, (g i j).scal = true) (h : ∀ i j H Q, C i j = true → Q (g i j).sv H → r (.int i) (.int j) H Q) : OpX K (intOp C g) r := by
  intro d e o v u R H Q ho hs hv hu
  unfold intOp at ho
  split at ho
  · split at ho
    · cases ho
      cases hv; cases hu
      exact ⟨hg _ _, fun w => h _ _ _ _ ‹_› w.2⟩
    · cases ho
  · cases ho
def subOp := intOp (fun _ _ => true) fun i j => .int (i - j)
theorem ox_sub : OpX K subOp (rI0 fun i j => .int (i - j)) := ox_int (fun _ _ => rfl) fun i j H Q _ q => ⟨i, j, rfl, rfl, q⟩
/-- a product's size -/
def mulOk (i j : Int) : Bool := decide (-(2 ^ 64) < i ∧ i < 2 ^ 64) || decide (-(2 ^ 64) < j ∧ j < 2 ^ 64) || decide (i.natAbs.log2 + j.natAbs.log2 < 1000000)
def mulOp := intOp mulOk fun i j => .int (i * j)
def rMul : R2 := fun x y H Q => rI CMul (fun i j => .int (i * j)) x y H Q ∨ rI CMulW (fun i j => .int (i * j)) x y H Q
theorem or_mul : OpR X (binaryOp .Mult) rMul := op_mul.or op_mulW
theorem ox_mul : OpX K mulOp rMul := ox_int (fun _ _ => rfl) fun i j H Q c q => by
  unfold mulOk at c
  rw [Bool.or_eq_true, Bool.or_eq_true, decide_eq_true_eq, decide_eq_true_eq, decide_eq_true_eq] at c
  rcases c with (c | c) | c
  · exact .inl ⟨i, j, rfl, rfl, .inl c, q⟩
  · exact .inl ⟨i, j, rfl, rfl, .inr c, q⟩
  · exact .inr ⟨i, j, rfl, rfl, c, q⟩
def fdivOp := intOp (fun _ j => decide (0 < j ∧ j.natAbs.log2 < 9000)) fun i j => .int (i / j)
theorem ox_fdiv : OpX K fdivOp (rI CDivW fun i j => .int (i / j)) := ox_int (fun _ _ => rfl) fun i j H Q c q => by
  have c' := of_decide_eq_true c
  exact ⟨i, j, rfl, rfl, c', q⟩
def modOp := intOp (fun _ j => decide (0 < j)) fun i j => .int (i % j)
theorem ox_mod : OpX K modOp (rI (fun _ j => 0 < j) fun i j => .int (i % j)) := ox_int (fun _ _ => rfl) fun i j H Q c q => by
  have c' := of_decide_eq_true c
  exact ⟨i, j, rfl, rfl, c', q⟩
def powOp := intOp (fun i j => decide (0 ≤ j ∧ j ≤ 1000000 ∧ i.natAbs < 2 ^ 64)) fun i j => .int (i ^ j.toNat)
theorem ox_pow : OpX K powOp (rI CPow fun i j => .int (i ^ j.toNat)) := ox_int (fun _ _ => rfl) fun i j H Q c q => by
  have c' := of_decide_eq_true c
  exact ⟨i, j, rfl, rfl, c', q⟩
def shlOp := intOp (fun i j => decide (0 ≤ j ∧ j ≤ 1000000 ∧ i.natAbs < 2 ^ 64)) fun i j => .int (i * 2 ^ j.toNat)
theorem ox_shl : OpX K shlOp (rI CPow fun i j => .int (i * 2 ^ j.toNat)) := ox_int (fun _ _ => rfl) fun i j H Q c q => by
  have c' := of_decide_eq_true c
  exact ⟨i, j, rfl, rfl, c', q⟩
def shrOp := intOp (fun _ j => decide (0 ≤ j)) fun i j => .int (i / 2 ^ j.toNat)
theorem ox_shr : OpX K shrOp (rI (fun _ j => 0 ≤ j) fun i j => .int (i / 2 ^ j.toNat)) := ox_int (fun _ _ => rfl) fun i j H Q c q => by
  have c' := of_decide_eq_true c
  exact ⟨i, j, rfl, rfl, c', q⟩
def andOp := intOp (fun _ _ => true) fun i j => .int (Builtin.bitAnd i j)
theorem ox_and : OpX K andOp (rI0 fun i j => .int (Builtin.bitAnd i j)) := ox_int (fun _ _ => rfl) fun i j H Q _ q => ⟨i, j, rfl, rfl, q⟩
def borOp := intOp (fun _ _ => true) fun i j => .int (Builtin.bitOr i j)
theorem ox_bor : OpX K borOp (rI0 fun i j => .int (Builtin.bitOr i j)) := ox_int (fun _ _ => rfl) fun i j H Q _ q => ⟨i, j, rfl, rfl, q⟩
def negOp : D → Option OR
  | .int i => some (.s (.int (-i)))
  | _ => none
theorem ux_neg : UnX K negOp (rU fun i => .int (-i)) := by
  intro d o v R H Q ho hs hv
  unfold negOp at ho
  split at ho
  · cases ho; cases hv
    exact ⟨rfl, fun w => ⟨_, rfl, w.2⟩⟩
  · cases ho

/-! ### order of ints, of texts -/
def cmpOp (p : Int → Int → Bool) (q : Str → Str → Bool) : D → D → Option OR
  | .int i, .int j => some (.s (.bl (p i j)))
  | .str i, .str j => some (.s (.bl (q i j)))
  | _, _ => none
def strLt (i j : Str) : Bool := decide (i.cps.toList < j.cps.toList)
def rCmp (p : Int → Int → Bool) (q : Str → Str → Bool) : R2 := fun x y H Q => rI0 (fun i j => .bl (p i j)) x y H Q ∨ ∃ i j, x = .str i ∧ y = .str j ∧ Q (.bl (q i j)) H
theorem ox_cmp {p : Int → Int → Bool} {q : Str → Str → Bool} : OpX K (cmpOp p q) (rCmp p q) := by
  intro d e o v u R H Q ho hs hv hu
  unfold cmpOp at ho
  split at ho
  · cases ho; cases hv; cases hu
    exact ⟨rfl, fun w => .inl ⟨_, _, rfl, rfl, w.2⟩⟩
  · cases ho; cases hv; cases hu
    exact ⟨rfl, fun w => .inr ⟨_, _, rfl, rfl, w.2⟩⟩
  · cases ho
def ltOp := cmpOp (fun i j => decide (i < j)) strLt
def leOp := cmpOp (fun i j => decide (i ≤ j)) fun i j => !strLt j i
def gtOp := cmpOp (fun i j => decide (j < i)) fun i j => strLt j i
def geOp := cmpOp (fun i j => decide (j ≤ i)) fun i j => !strLt i j
theorem or_lt : OpR X (compareOp .Lt) (rCmp (fun i j => decide (i < j)) strLt) := op_lt.or op_lt_str
theorem or_le : OpR X (compareOp .LtE) (rCmp (fun i j => decide (i ≤ j)) fun i j => !strLt j i) := op_le.or op_le_str
theorem or_gt : OpR X (compareOp .Gt) (rCmp (fun i j => decide (j < i)) fun i j => strLt j i) := op_gt.or op_gt_str
theorem or_ge : OpR X (compareOp .GtE) (rCmp (fun i j => decide (j ≤ i)) fun i j => !strLt i j) := op_ge.or op_ge_str

/-! ### is -/
def isD : D → D → Option Bool
  | .non, .non => some true
  | _, .non => some false
  | .bl a, .bl b => some (a == b)
  | _, .bl b => some false
  | _, _ => none
def isOp (d e : D) : Option OR := (isD d e).map fun b => .s (.bl b)
def isNotOp (d e : D) : Option OR := (isD d e).map fun b => .s (.bl (!b))
theorem bl_beq {x : V} {v : Value} {b : Bool} (r : RelV x v) : (v == Value.bool b) = decide (x = .bl b) := by
  cases x with
  | non => cases r; rfl
  | bl c => cases r; cases c <;> cases b <;> rfl
  | int _ => obtain ⟨t, rfl⟩ := r; rfl
  | str _ => obtain ⟨t, rfl⟩ := r; rfl
  | byt _ => obtain ⟨t, rfl⟩ := r; rfl
  | flt _ => obtain ⟨t, rfl⟩ := r; rfl
  | ref _ => cases r; rfl
  | ty _ => cases r; rfl
theorem plainIs_bl {x : V} {v : Value} {b : Bool} (r : RelV x v) : plainIs v (Value.bool b) = true := by
  cases x with
  | non => cases r; rfl
  | bl c => cases r; rfl
  | int _ => obtain ⟨t, rfl⟩ := r; rfl
  | str _ => obtain ⟨t, rfl⟩ := r; rfl
  | byt _ => obtain ⟨t, rfl⟩ := r; rfl
  | flt _ => obtain ⟨t, rfl⟩ := r; rfl
  | ref _ => cases r; rfl
  | ty _ => cases r; rfl
theorem op_isB : OpR X (compareOp .Is) (fun x y H Q => ∃ b, y = .bl b ∧ Q (.bl (decide (x = .bl b))) H) := by
  intro pins s σ H x y v u Q I rx ry h
  obtain ⟨b, rfl, q⟩ := h
  cases ry
  exact wpAny_is_plain (plainIs_bl rx) ⟨.bl _, H, I, by rw [bl_beq rx]; rfl, q⟩
theorem op_isNotB : OpR X (compareOp .IsNot) (fun x y H Q => ∃ b, y = .bl b ∧ Q (.bl (!decide (x = .bl b))) H) := by
  intro pins s σ H x y v u Q I rx ry h
  obtain ⟨b, rfl, q⟩ := h
  cases ry
  exact wpAny_isNot_plain (plainIs_bl rx) ⟨.bl _, H, I, by rw [bl_beq rx]; rfl, q⟩
def rIs : R2 := fun x y H Q => (y = .non ∧ Q (.bl (decide (x = .non))) H) ∨ ∃ b, y = .bl b ∧ Q (.bl (decide (x = .bl b))) H
def rIsNot : R2 := fun x y H Q => (y = .non ∧ Q (.bl (!decide (x = .non))) H) ∨ ∃ b, y = .bl b ∧ Q (.bl (!decide (x = .bl b))) H
theorem or_is : OpR X (compareOp .Is) rIs := op_isN.or op_isB
theorem or_isNot : OpR X (compareOp .IsNot) rIsNot := op_notN.or op_isNotB
theorem isD_ok {R : Hp} {d e : D} {b : Bool} {v u : V} (h : isD d e = some b) (hv : At K R v d) (hu : At K R u e) : (u = .non ∧ b = decide (v = .non)) ∨ ∃ c, u = .bl c ∧ b = decide (v = .bl c) := by
  unfold isD at h
  split at h
  · cases h; cases hu; cases hv; exact .inl ⟨rfl, rfl⟩
  · cases h; cases hu
    refine .inl ⟨rfl, ?_⟩
    cases hv <;> first | rfl | (exfalso; simp_all)
  · cases h; cases hu; cases hv
    refine .inr ⟨_, rfl, ?_⟩
    rename_i a b
    cases a <;> cases b <;> rfl
  · cases h; cases hu
    refine .inr ⟨_, rfl, ?_⟩
    cases hv <;> first | rfl | (exfalso; simp_all)
  · cases h
theorem ox_is : OpX K isOp rIs := by
  intro d e o v u R H Q ho hs hv hu
  unfold isOp at ho
  obtain ⟨b, h1, h2⟩ := Option.map_eq_some_iff.mp ho
  subst h2
  refine ⟨rfl, fun w => ?_⟩
  rcases isD_ok h1 hv hu with ⟨e1, e2⟩ | ⟨c, e1, e2⟩
  · exact .inl ⟨e1, by rw [← e2]; exact w.2⟩
  · exact .inr ⟨c, e1, by rw [← e2]; exact w.2⟩
theorem ox_isNot : OpX K isNotOp rIsNot := by
  intro d e o v u R H Q ho hs hv hu
  unfold isNotOp at ho
  obtain ⟨b, h1, h2⟩ := Option.map_eq_some_iff.mp ho
  subst h2
  refine ⟨rfl, fun w => ?_⟩
  rcases isD_ok h1 hv hu with ⟨e1, e2⟩ | ⟨c, e1, e2⟩
  · exact .inl ⟨e1, by rw [← e2]; exact w.2⟩
  · exact .inr ⟨c, e1, by rw [← e2]; exact w.2⟩
end

/-! ### == of data -/
mutual
def D.beq : D → D → Bool
  | .non, .non => true
  | .bl a, .bl b => a == b
  | .bl a, .int j => (if a then 1 else 0) == j
  | .int i, .bl b => i == (if b then 1 else 0)
  | .int i, .int j => i == j
  | .str x, .str y => x == y
  | .lst xs, .lst ys => D.beqs xs ys
  | .tup xs, .tup ys => D.beqs xs ys
  | _, _ => false
def D.beqs : List D → List D → Bool
  | [], [] => true
  | x :: xs, y :: ys => D.beq x y && D.beqs xs ys
  | _, _ => false
end
mutual
/-- data that == walks: no dicts, sets, objects; at most n deep; texts of signs -/
def D.shp : Nat → D → Bool
  | _, .non => true
  | _, .bl _ => true
  | _, .int _ => true
  | _, .str x => PyData.strOk x
  | 0, .lst _ => false
  | 0, .tup _ => false
  | n + 1, .lst xs => D.shps n xs
  | n + 1, .tup xs => D.shps n xs
  | _, _ => false
def D.shps : Nat → List D → Bool
  | _, [] => true
  | n, x :: xs => D.shp n x && D.shps n xs
end
mutual
def D.py : D → PyData
  | .non => .none
  | .bl b => .bool b
  | .int i => .int i
  | .str x => .str x
  | .lst xs => .list (D.pys xs)
  | .tup xs => .tuple (D.pys xs)
  | _ => .none
def D.pys : List D → List PyData
  | [] => []
  | x :: xs => D.py x :: D.pys xs
end

section
variable {K : PySem.W.Frag} {R H : Hp}
mutual
theorem D.shp_ok : ∀ {n : Nat} {d : D}, D.shp n d = true → (D.py d).canLay0 = true ∧ (D.py d).depth ≤ n ∧ ∀ {v : V}, At K R v d → Dp K R v (D.py d)
  | n, .non, _ => ⟨rfl, Nat.zero_le _, fun h => by cases h; exact .non⟩
  | n, .bl b, _ => ⟨rfl, Nat.zero_le _, fun h => by cases h; exact .bl _⟩
  | n, .int i, _ => ⟨rfl, Nat.zero_le _, fun h => by cases h; exact .int _⟩
  | n, .str x, h => ⟨by simpa only [D.py, PyData.canLay0, D.shp] using h, Nat.zero_le _, fun h => by cases h; exact .str _⟩
  | 0, .lst xs, h => by simp [D.shp] at h
  | 0, .tup xs, h => by simp [D.shp] at h
  | n + 1, .lst xs, h => by
    obtain ⟨h1, h2, h3⟩ := D.shps_ok (n := n) (xs := xs) (by simpa only [D.shp] using h)
    refine ⟨by simpa only [D.py, PyData.canLay0] using h1, by simp only [D.py, PyData.depth]; omega, fun q => ?_⟩
    cases q with | lst q1 q2 => exact .lst q1 (h3 q2)
  | n + 1, .tup xs, h => by
    obtain ⟨h1, h2, h3⟩ := D.shps_ok (n := n) (xs := xs) (by simpa only [D.shp] using h)
    refine ⟨by simpa only [D.py, PyData.canLay0] using h1, by simp only [D.py, PyData.depth]; omega, fun q => ?_⟩
    cases q with | tup q1 q2 => exact .tup q1 (h3 q2)
  | n, .dic _, h => by cases n <;> simp [D.shp] at h
  | n, .set _, h => by cases n <;> simp [D.shp] at h
  | n, .ins _ _, h => by cases n <;> simp [D.shp] at h
  | n, .ty _, h => by cases n <;> simp [D.shp] at h
theorem D.shps_ok : ∀ {n : Nat} {xs : List D}, D.shps n xs = true → PyData.canLayAll0 (D.pys xs) = true ∧ PyData.depthAll (D.pys xs) ≤ n ∧ ∀ {vs : List V}, AtAll K R vs xs → DpAll K R vs (D.pys xs)
  | n, [], _ => ⟨rfl, Nat.zero_le _, fun h => by cases h; exact .nil⟩
  | n, x :: xs, h => by
    have h' : D.shp n x = true ∧ D.shps n xs = true := by simpa only [D.shps, Bool.and_eq_true] using h
    obtain ⟨a1, a2, a3⟩ := D.shp_ok h'.1
    obtain ⟨b1, b2, b3⟩ := D.shps_ok h'.2
    refine ⟨by simp only [D.pys, PyData.canLayAll0, a1, b1, Bool.and_self], by simp only [D.pys, PyData.depthAll]; omega, fun q => ?_⟩
    cases q with | cons q1 q2 => exact .cons (a3 q1) (b3 q2)
end
theorem shp_lst {n : Nat} {xs : List D} (h : D.shps n xs = true) : D.shp (n + 1) (.lst xs) = true := by simpa only [D.shp] using h
theorem shp_tup {n : Nat} {xs : List D} (h : D.shps n xs = true) : D.shp (n + 1) (.tup xs) = true := by simpa only [D.shp] using h
theorem D.shaped {n : Nat} {d : D} (hn : n ≤ 64) (h : D.shp n d = true) : SeqAt.shaped (D.py d) = true := by
  obtain ⟨h1, h2, _⟩ := D.shp_ok (K := []) (R := fun _ => none) h
  show ((D.py d).canLay0 && decide ((D.py d).depth ≤ 64)) = true
  rw [Bool.and_eq_true]
  exact ⟨h1, decide_eq_true (by omega)⟩
mutual
theorem D.eqv_beq : ∀ {n m : Nat} {d e : D}, D.shp n d = true → D.shp m e = true → PyData.eqv (D.py d) (D.py e) = D.beq d e
  | _, m, .non, e, _, h => by cases e <;> first | (simp only [D.py, PyData.eqv, D.beq]; done) | (cases m <;> simp [D.shp] at h)
  | _, m, .bl _, e, _, h => by cases e <;> first | (simp only [D.py, PyData.eqv, D.beq]; done) | (cases m <;> simp [D.shp] at h)
  | _, m, .int _, e, _, h => by cases e <;> first | (simp only [D.py, PyData.eqv, D.beq]; done) | (cases m <;> simp [D.shp] at h)
  | _, m, .str _, e, _, h => by cases e <;> first | (simp only [D.py, PyData.eqv, D.beq]; done) | (cases m <;> simp [D.shp] at h)
  | 0, m, .lst xs, e, h, _ => by simp [D.shp] at h
  | 0, m, .tup xs, e, h, _ => by simp [D.shp] at h
  | n + 1, m, .lst xs, e, h, h' => by
    cases e with
    | lst ys =>
      cases m with
      | zero => simp [D.shp] at h'
      | succ m => simp only [D.py, PyData.eqv, D.beq]; exact D.eqvs_beqs (n := n) (m := m) (by simpa only [D.shp] using h) (by simpa only [D.shp] using h')
    | _ => first | (simp only [D.py, PyData.eqv, D.beq]; done) | (cases m <;> simp [D.shp] at h')
  | n + 1, m, .tup xs, e, h, h' => by
    cases e with
    | tup ys =>
      cases m with
      | zero => simp [D.shp] at h'
      | succ m => simp only [D.py, PyData.eqv, D.beq]; exact D.eqvs_beqs (n := n) (m := m) (by simpa only [D.shp] using h) (by simpa only [D.shp] using h')
    | _ => first | (simp only [D.py, PyData.eqv, D.beq]; done) | (cases m <;> simp [D.shp] at h')
  | n, _, .dic _, _, h, _ => by cases n <;> simp [D.shp] at h
  | n, _, .set _, _, h, _ => by cases n <;> simp [D.shp] at h
  | n, _, .ins _ _, _, h, _ => by cases n <;> simp [D.shp] at h
  | n, _, .ty _, _, h, _ => by cases n <;> simp [D.shp] at h
theorem D.eqvs_beqs : ∀ {n m : Nat} {xs ys : List D}, D.shps n xs = true → D.shps m ys = true → PyData.eqvAll (D.pys xs) (D.pys ys) = D.beqs xs ys
  | _, _, [], [], _, _ => by simp only [D.pys, PyData.eqvAll, D.beqs]
  | _, _, [], _ :: _, _, _ => by simp only [D.pys, PyData.eqvAll, D.beqs]
  | _, _, _ :: _, [], _, _ => by simp only [D.pys, PyData.eqvAll, D.beqs]
  | n, m, x :: xs, y :: ys, h, h' => by
    have a : D.shp n x = true ∧ D.shps n xs = true := by simpa only [D.shps, Bool.and_eq_true] using h
    have b : D.shp m y = true ∧ D.shps m ys = true := by simpa only [D.shps, Bool.and_eq_true] using h'
    simp only [D.pys, PyData.eqvAll, D.beqs, D.eqv_beq a.1 b.1, D.eqvs_beqs a.2 b.2]
end
/-- == : scalars of one kind (or None beside others); data that == walks -/
def eqOk (d e : D) : Bool := (d.scal && e.scal && scal d.sv e.sv) || (D.shp 60 d && D.shp 60 e)
def eqOp (d e : D) : Option OR := if eqOk d e = true then some (.s (.bl (D.beq d e))) else none
def neOp (d e : D) : Option OR := if eqOk d e = true then some (.s (.bl (!D.beq d e))) else none
def rEqA (K : PySem.W.Frag) : R2 := fun x y H Q => rEq x y H Q ∨ rEqD K x y H Q
def rNeA (K : PySem.W.Frag) : R2 := fun x y H Q => rNe x y H Q ∨ rNeD K x y H Q
theorem or_eq {X : Cx} (hu : X.A.units + 64 < cLine) : OpR X (compareOp .Eq) (rEqA X.K) := op_eq.or (op_eqD hu)
theorem or_ne {X : Cx} (hu : X.A.units + 64 < cLine) : OpR X (compareOp .NotEq) (rNeA X.K) := op_ne.or (op_neD hu)
theorem scal_beq {d e : D} (h1 : d.scal = true) (h2 : e.scal = true) (h : scal d.sv e.sv = true) : decide (d.sv = e.sv) = D.beq d e := by
  cases d <;> cases e <;> first
    | (simp [D.scal] at h1; done)
    | (simp [D.scal] at h2; done)
    | (simp [D.sv, scal] at h; done)
    | (simp only [D.sv, D.beq]; first | rfl | exact dec_int | exact dec_bl | exact dec_str | (simp; done))
theorem ox_eq : OpX K eqOp (rEqA K) := by
  intro d e o v u R H Q ho hs hv hu
  unfold eqOp eqOk at ho
  split at ho
  · rename_i c
    cases ho
    refine ⟨rfl, fun w => ?_⟩
    rw [Bool.or_eq_true, Bool.and_eq_true, Bool.and_eq_true, Bool.and_eq_true] at c
    rcases c with ⟨⟨c1, c2⟩, c3⟩ | ⟨c1, c2⟩
    · have e1 := hv.scal c1
      have e2 := hu.scal c2
      subst e1 e2
      exact .inl ⟨c3, by rw [scal_beq c1 c2 c3]; exact w.2⟩
    · exact .inr ⟨_, _, (D.shp_ok c1).2.2 hv, (D.shp_ok c2).2.2 hu, D.shaped (by decide) c1, D.shaped (by decide) c2, by rw [D.eqv_beq c1 c2]; exact w.2⟩
  · cases ho
theorem ox_ne : OpX K neOp (rNeA K) := by
  intro d e o v u R H Q ho hs hv hu
  unfold neOp eqOk at ho
  split at ho
  · rename_i c
    cases ho
    refine ⟨rfl, fun w => ?_⟩
    rw [Bool.or_eq_true, Bool.and_eq_true, Bool.and_eq_true, Bool.and_eq_true] at c
    rcases c with ⟨⟨c1, c2⟩, c3⟩ | ⟨c1, c2⟩
    · have e1 := hv.scal c1
      have e2 := hu.scal c2
      subst e1 e2
      exact .inl ⟨c3, by rw [scal_beq c1 c2 c3]; exact w.2⟩
    · exact .inr ⟨_, _, (D.shp_ok c1).2.2 hv, (D.shp_ok c2).2.2 hu, D.shaped (by decide) c1, D.shaped (by decide) c2, by rw [D.eqv_beq c1 c2]; exact w.2⟩
  · cases ho

/-! ### in -/
def rInT (K : PySem.W.Frag) : R2 := fun x y H Q => ∃ d ds, Dp K H x d ∧ Dp K H y (.tuple ds) ∧ SeqAt.shaped d = true ∧ SeqAt.shaped (.tuple ds) = true ∧ Q (.bl (ds.any fun z => PyData.eqv z d)) H
def rNotInT (K : PySem.W.Frag) : R2 := fun x y H Q => ∃ d ds, Dp K H x d ∧ Dp K H y (.tuple ds) ∧ SeqAt.shaped d = true ∧ SeqAt.shaped (.tuple ds) = true ∧ Q (.bl (!ds.any fun z => PyData.eqv z d)) H
theorem op_inT {X : Cx} (hu : X.A.units + 65 < cLine) : OpR X (compareOp .In) (rInT X.K) := by
  intro pins s σ H x y v u Q I rx ry h
  obtain ⟨d, ds, hd, he, sd, se, q⟩ := h
  obtain ⟨as, r1⟩ := Dp.reads I d x v hd rx
  obtain ⟨bs, r2⟩ := Dp.reads I (.tuple ds) y u he ry
  exact SeqAt.in_tuple_reads r2 r1 (SeqAt.canLay_of_shaped se) (SeqAt.canLay_of_shaped sd) (room_in_shaped sd hu) ⟨.bl _, H, I, rfl, q⟩
theorem op_notInT {X : Cx} (hu : X.A.units + 65 < cLine) : OpR X (compareOp .NotIn) (rNotInT X.K) := by
  intro pins s σ H x y v u Q I rx ry h
  obtain ⟨d, ds, hd, he, sd, se, q⟩ := h
  obtain ⟨as, r1⟩ := Dp.reads I d x v hd rx
  obtain ⟨bs, r2⟩ := Dp.reads I (.tuple ds) y u he ry
  exact SeqAt.notIn_tuple_reads r2 r1 (SeqAt.canLay_of_shaped se) (SeqAt.canLay_of_shaped sd) (room_in_shaped sd hu) ⟨.bl _, H, I, rfl, q⟩
def rInA (K : PySem.W.Frag) : R2 := fun x y H Q => rInD K x y H Q ∨ rInT K x y H Q ∨ (∃ i j, x = .str i ∧ y = .str j ∧ Q (.bl (!(Builtin.Str.occurrences j i 0 j.length 1).isEmpty)) H) ∨
  ∃ (c : Nat) (z : Str), x = .str ⟨#[c]⟩ ∧ y = .str z ∧ Q (.bl (decide (c ∈ z.cps.toList))) H
def rNotInA (K : PySem.W.Frag) : R2 := fun x y H Q => rNotInD K x y H Q ∨ rNotInT K x y H Q ∨ (∃ i j, x = .str i ∧ y = .str j ∧ Q (.bl (!(!(Builtin.Str.occurrences j i 0 j.length 1).isEmpty))) H) ∨
  ∃ (c : Nat) (z : Str), x = .str ⟨#[c]⟩ ∧ y = .str z ∧ Q (.bl (!decide (c ∈ z.cps.toList))) H
theorem or_in {X : Cx} (hu : X.A.units + 65 < cLine) : OpR X (compareOp .In) (rInA X.K) := (op_inD hu).or ((op_inT hu).or (op_in_str.or op_in_sign))
theorem or_notIn {X : Cx} (hu : X.A.units + 65 < cLine) : OpR X (compareOp .NotIn) (rNotInA X.K) := (op_notInD hu).or ((op_notInT hu).or (op_notin_str.or op_notIn_sign))
def D.mem (d : D) (ds : List D) : Bool := ds.any fun z => D.beq z d
def strIn (a b : Str) : Bool := match a.cps.toList with
  | [c] => decide (c ∈ b.cps.toList)
  | _ => !(Builtin.Str.occurrences b a 0 b.length 1).isEmpty
def inD : D → D → Option Bool
  | d, .lst ds => if (D.shp 60 d && D.shps 60 ds) = true then some (D.mem d ds) else none
  | d, .tup ds => if (D.shp 60 d && D.shps 60 ds) = true then some (D.mem d ds) else none
  | .str a, .str b => some (strIn a b)
  | _, _ => none
def inOp (d e : D) : Option OR := (inD d e).map fun b => .s (.bl b)
def notInOp (d e : D) : Option OR := (inD d e).map fun b => .s (.bl (!b))
theorem any_py {n m : Nat} {d : D} (h : D.shp n d = true) : ∀ {ds : List D}, D.shps m ds = true → (D.pys ds).any (fun z => PyData.eqv z (D.py d)) = D.mem d ds
  | [], _ => rfl
  | e :: ds, h' => by
    have a : D.shp m e = true ∧ D.shps m ds = true := by simpa only [D.shps, Bool.and_eq_true] using h'
    simp only [D.pys, List.any_cons, D.mem, D.eqv_beq a.1 h]
    congr 1
    exact any_py h a.2
theorem str_one {a : Str} {c : Nat} (h : a.cps.toList = [c]) : a = ⟨#[c]⟩ := by
  obtain ⟨⟨l⟩⟩ := a
  simp at h
  subst h
  rfl
theorem ox_in : OpX K inOp (rInA K) := by
  intro d e o v u R H Q ho hs hv hu
  obtain ⟨b, h1, h2⟩ := Option.map_eq_some_iff.mp (show (inD d e).map _ = some o from ho)
  subst h2
  refine ⟨rfl, fun w => ?_⟩
  unfold inD at h1
  split at h1
  · split at h1
    · rename_i c
      cases h1
      rw [Bool.and_eq_true] at c
      have c2 := shp_lst c.2
      exact .inl ⟨_, _, (D.shp_ok c.1).2.2 hv, (D.shp_ok c2).2.2 hu, D.shaped (by decide) c.1, D.shaped (by decide) c2, by rw [any_py c.1 c.2]; exact w.2⟩
    · cases h1
  · split at h1
    · rename_i c
      cases h1
      rw [Bool.and_eq_true] at c
      have c2 := shp_tup c.2
      exact .inr (.inl ⟨_, _, (D.shp_ok c.1).2.2 hv, (D.shp_ok c2).2.2 hu, D.shaped (by decide) c.1, D.shaped (by decide) c2, by rw [any_py c.1 c.2]; exact w.2⟩)
    · cases h1
  · cases h1; cases hv; cases hu
    have w2 := w.2
    simp only [D.sv] at w2
    unfold strIn at w2
    split at w2
    · rename_i c hc
      exact .inr (.inr (.inr ⟨c, _, by rw [str_one hc], rfl, w2⟩))
    · exact .inr (.inr (.inl ⟨_, _, rfl, rfl, w2⟩))
  · cases h1
theorem ox_notIn : OpX K notInOp (rNotInA K) := by
  intro d e o v u R H Q ho hs hv hu
  obtain ⟨b, h1, h2⟩ := Option.map_eq_some_iff.mp (show (inD d e).map _ = some o from ho)
  subst h2
  refine ⟨rfl, fun w => ?_⟩
  unfold inD at h1
  split at h1
  · split at h1
    · rename_i c
      cases h1
      rw [Bool.and_eq_true] at c
      have c2 := shp_lst c.2
      exact .inl ⟨_, _, (D.shp_ok c.1).2.2 hv, (D.shp_ok c2).2.2 hu, D.shaped (by decide) c.1, D.shaped (by decide) c2, by rw [any_py c.1 c.2]; exact w.2⟩
    · cases h1
  · split at h1
    · rename_i c
      cases h1
      rw [Bool.and_eq_true] at c
      have c2 := shp_tup c.2
      exact .inr (.inl ⟨_, _, (D.shp_ok c.1).2.2 hv, (D.shp_ok c2).2.2 hu, D.shaped (by decide) c.1, D.shaped (by decide) c2, by rw [any_py c.1 c.2]; exact w.2⟩)
    · cases h1
  · cases h1; cases hv; cases hu
    have w2 := w.2
    simp only [D.sv] at w2
    unfold strIn at w2
    split at w2
    · rename_i c hc
      exact .inr (.inr (.inr ⟨c, _, by rw [str_one hc], rfl, w2⟩))
    · exact .inr (.inr (.inl ⟨_, _, rfl, rfl, w2⟩))
  · cases h1
end
end Den

/-! Expressions and tests, by their meanings. -/
namespace Den
open PySem PySem.Spec PyProof.Rows L2

section
variable {α β γ δ : Type} {K : PySem.W.Frag} {mg : Str → Option Value} {W : WX} {rel : RelT α β} {rel' : RelT γ δ} {pu pa pb pc pd : Bool} {R R1 H H1 : Hp} {F F1 G : List Addr} {ρ ρ1 : Rho} {σ : L2.St} {Q : VK} {d : D} {ds : List D} {vs : List V} {p : Addr}

theorem PostR.flag {r : Res γ} {Q' : δ → Hp → Prop} (h : PostR K mg W rel' pc R H F σ Q' r) (e : pc = true → pa = true) : PostR K mg W rel' pa R H F σ Q' r := by
  cases r with
  | ok ρ' a => exact fun v H' R' F' Fv st q n s p => h v H' R' F' Fv st q n s fun z => p (e z)
  | ex ρ' x => exact h
theorem PostR.rb {Q : Bool → Hp → Prop} {b : Bool} (hQ : PostR K mg W RB pc R H F σ Q (.ok ρ b)) (hS : Sta K R H ρ σ F) : Q b H :=
  hQ b H R F [] hS ⟨rfl, rfl⟩ (by rw [List.append_nil]; exact hS.nd) (by rw [List.append_nil]; exact .refl) fun _ => .refl
/-- what is owned by a dropped value -/
theorem PostR.drop {r : Res γ} {Q' : δ → Hp → Prop} (h : PostR K mg W rel' pc R H (F ++ G) σ Q' r) : PostR K mg W rel' pc R H F σ Q' r :=
  h.step (.less .refl fun x hx => List.mem_append_left _ hx) fun _ => .refl
/-- go on with a further piece -/
theorem goOn {den : Den γ} {r : Res γ} {Q' : δ → Hp → Prop} (hS : Sta K R H ρ σ F) (e : den ρ = some r) (hQ : PostR K mg W rel' pc R H F σ Q' r) (hp : pc = true → pa = true) : tG K mg W rel' pa den σ H Q' :=
  ⟨ρ, R, F, r, hS, e, hQ.flag hp⟩

/-! ### tests -/
def dTst (da : Den DV) : Den Bool := dBind da fun a => match a.2 with
  | .bl b => dRet b
  | _ => dFail
theorem tst_ok {da : Den DV} {Q : Bool → Hp → Prop} (h : tT K mg W pa (dTst da) σ H Q) : tTest (tE K mg W pa da) σ H Q := by
  obtain ⟨ρ, R, F, res, hS, hden, hQ⟩ := h
  refine tG_bind hS hden hQ fun ρ1 a v H1 R1 F1 G1 e st q n s p => ?_
  obtain ⟨m, d⟩ := a
  cases d with
  | bl b =>
    cases e
    have hv := (q.at st.sub).scal rfl
    exact ⟨b, hv, (hQ.step s p).drop.rb st⟩
  | _ => cases e
def truthD : D → Option Bool
  | .non => some false
  | .bl b => some b
  | .int i => some (i != 0)
  | .str x => if x.length ≤ sizeLine then some ((x.length : Int) != 0) else none
  | .lst xs => some (!xs.isEmpty)
  | .tup xs => some (!xs.isEmpty)
  | _ => none
theorem AtAll.isEmpty : ∀ {vs : List V} {ds : List D}, AtAll K R vs ds → vs.isEmpty = ds.isEmpty
  | _, _, .nil => rfl
  | _, _, .cons _ _ => rfl
theorem truth_at {v : V} {k : Bool} (h : truthD d = some k) (q : At K H v d) : TruV K v H k := by
  cases q with
  | non => cases h; rfl
  | bl => cases h; rfl
  | int => cases h; rfl
  | str x =>
    unfold truthD at h
    split at h <;> simp_all [TruV]
  | ty => cases h
  | lst h1 h2 => cases h; exact .inl ⟨_, h1, by rw [h2.isEmpty]⟩
  | tup h1 h2 => cases h; exact .inr (.inl ⟨_, h1, by rw [h2.isEmpty]⟩)
def dTruth (da : Den DV) : Den Bool := dBind da fun a => dLift (truthD a.2) dRet
theorem truth_ok {da : Den DV} {Q : Bool → Hp → Prop} (h : tT K mg W pa (dTruth da) σ H Q) : (fun σ H Q => tE K mg W pa da σ H fun x H' => ∃ k, TruV K x H' k ∧ Q k H') σ H Q := by
  obtain ⟨ρ, R, F, res, hS, hden, hQ⟩ := h
  refine tG_bind hS hden hQ fun ρ1 a v H1 R1 F1 G1 e st q n s p => ?_
  unfold dLift at e
  split at e
  · cases e
  · rename_i k e1
    cases e
    exact ⟨k, truth_at e1 (q.at st.sub), (hQ.step s p).drop.rb st⟩
def dAnd (da db : Den Bool) : Den Bool := dBind da fun c => if c = true then db else dRet false
def dOr (da db : Den Bool) : Den Bool := dBind da fun c => if c = true then dRet true else db
def dNot (da : Den Bool) : Den Bool := dBind da fun c => dRet (!c)
theorem and_ok {da db : Den Bool} {Q : Bool → Hp → Prop} (h : tT K mg W (pa && pb) (dAnd da db) σ H Q) : tAnd (tT K mg W pa da) (tT K mg W pb db) σ H Q := by
  obtain ⟨ρ, R, F, res, hS, hden, hQ⟩ := h
  refine tG_bind hS hden hQ fun ρ1 a v H1 R1 F1 G1 e st q n s p => ?_
  obtain ⟨rfl, rfl⟩ := q
  have hQ1 := (hQ.step s fun z => p (Bool.and_eq_true_iff.mp z).1).drop
  cases v with
  | true => exact goOn st e hQ1 fun z => (Bool.and_eq_true_iff.mp z).2
  | false => cases e; exact hQ1.rb st
theorem or_ok {da db : Den Bool} {Q : Bool → Hp → Prop} (h : tT K mg W (pa && pb) (dOr da db) σ H Q) : tOr (tT K mg W pa da) (tT K mg W pb db) σ H Q := by
  obtain ⟨ρ, R, F, res, hS, hden, hQ⟩ := h
  refine tG_bind hS hden hQ fun ρ1 a v H1 R1 F1 G1 e st q n s p => ?_
  obtain ⟨rfl, rfl⟩ := q
  have hQ1 := (hQ.step s fun z => p (Bool.and_eq_true_iff.mp z).1).drop
  cases v with
  | false => exact goOn st e hQ1 fun z => (Bool.and_eq_true_iff.mp z).2
  | true => cases e; exact hQ1.rb st
theorem not_ok {da : Den Bool} {Q : Bool → Hp → Prop} (h : tT K mg W pa (dNot da) σ H Q) : tNot (tT K mg W pa da) σ H Q := by
  obtain ⟨ρ, R, F, res, hS, hden, hQ⟩ := h
  refine tG_bind hS hden hQ fun ρ1 a v H1 R1 F1 G1 e st q n s p => ?_
  obtain ⟨rfl, rfl⟩ := q
  cases e
  exact (hQ.step s p).drop.rb st
/-- a if t else b -/
def dIf {α : Type} (dc : Den Bool) (da db : Den α) : Den α := dBind dc fun c => if c = true then da else db
theorem ifE_ok {dc : Den Bool} {da db : Den DV} (h : tE K mg W (pc && (pa && pb)) (dIf dc da db) σ H Q) : tIf (tT K mg W pc dc) (tE K mg W pa da) (tE K mg W pb db) σ H Q := by
  obtain ⟨ρ, R, F, res, hS, hden, hQ⟩ := h
  refine tG_bind hS hden hQ fun ρ1 a v H1 R1 F1 G1 e st q n s p => ?_
  obtain ⟨rfl, rfl⟩ := q
  have hQ1 := (hQ.step s fun z => p (Bool.and_eq_true_iff.mp z).1).drop
  cases v with
  | true => exact goOn st e hQ1 fun z => (Bool.and_eq_true_iff.mp (Bool.and_eq_true_iff.mp z).2).1
  | false => exact goOn st e hQ1 fun z => (Bool.and_eq_true_iff.mp (Bool.and_eq_true_iff.mp z).2).2
/-- and, or, not as values: bools, but for the last -/
def dAndV (da db : Den DV) : Den DV := dBind da fun a => match a.2 with
  | .bl true => db
  | .bl false => dRet (.sh .im, .bl false)
  | _ => dFail
def dOrV (da db : Den DV) : Den DV := dBind da fun a => match a.2 with
  | .bl true => dRet (.sh .im, .bl true)
  | .bl false => db
  | _ => dFail
def dNotV (da : Den DV) : Den DV := dBind da fun a => match a.2 with
  | .bl b => dRet (.sh .im, .bl (!b))
  | _ => dFail
theorem andV_ok {da db : Den DV} (h : tE K mg W (pa && pb) (dAndV da db) σ H Q) : tAndV (tE K mg W pa da) (tE K mg W pb db) σ H Q := by
  obtain ⟨ρ, R, F, res, hS, hden, hQ⟩ := h
  refine tG_bind hS hden hQ fun ρ1 a v H1 R1 F1 G1 e st q n s p => ?_
  have hQ1 := (hQ.step s fun z => p (Bool.and_eq_true_iff.mp z).1).drop
  obtain ⟨m, d⟩ := a
  cases d with
  | bl b =>
    have hv := (q.at st.sub).scal rfl
    cases b with
    | true => exact ⟨true, hv, goOn st e hQ1 fun z => (Bool.and_eq_true_iff.mp z).2⟩
    | false => cases e; exact ⟨false, hv, hQ1.scal st rfl⟩
  | _ => cases e
theorem orV_ok {da db : Den DV} (h : tE K mg W (pa && pb) (dOrV da db) σ H Q) : tOrV (tE K mg W pa da) (tE K mg W pb db) σ H Q := by
  obtain ⟨ρ, R, F, res, hS, hden, hQ⟩ := h
  refine tG_bind hS hden hQ fun ρ1 a v H1 R1 F1 G1 e st q n s p => ?_
  have hQ1 := (hQ.step s fun z => p (Bool.and_eq_true_iff.mp z).1).drop
  obtain ⟨m, d⟩ := a
  cases d with
  | bl b =>
    have hv := (q.at st.sub).scal rfl
    cases b with
    | false => exact ⟨false, hv, goOn st e hQ1 fun z => (Bool.and_eq_true_iff.mp z).2⟩
    | true => cases e; exact ⟨true, hv, hQ1.scal st rfl⟩
  | _ => cases e
theorem notV_ok {da : Den DV} (h : tE K mg W pa (dNotV da) σ H Q) : tNotV (tE K mg W pa da) σ H Q := by
  obtain ⟨ρ, R, F, res, hS, hden, hQ⟩ := h
  refine tG_bind hS hden hQ fun ρ1 a v H1 R1 F1 G1 e st q n s p => ?_
  obtain ⟨m, d⟩ := a
  cases d with
  | bl b =>
    have hv := (q.at st.sub).scal rfl
    cases e
    exact ⟨b, hv, (hQ.step s p).drop.scal st rfl⟩
  | _ => cases e
/-- a op b op' c, of scalars -/
theorem lift_some {o : Option α} {f : α → Den γ} {r : Res γ} (h : dLift o f ρ = some r) : ∃ a, o = some a ∧ f a ρ = some r := by
  unfold dLift at h
  split at h
  · cases h
  · exact ⟨_, rfl, h⟩
def boolOf : Option OR → Option Bool
  | some (.s (.bl k)) => some k
  | _ => none
theorem boolOf_some {o : Option OR} {k : Bool} (h : boolOf o = some k) : o = some (.s (.bl k)) := by
  unfold boolOf at h
  split at h <;> first | (cases h; rfl) | cases h
def dChain (op op' : D → D → Option OR) (da db dc : Den DV) : Den DV := dBind da fun a => if a.2.scal = true then dBind db fun b => if b.2.scal = true then dLift (boolOf (op a.2 b.2)) fun k => if k = true then
  dBind dc fun c => if c.2.scal = true then dLift (boolOf (op' b.2 c.2)) fun k => dRet (.sh .im, .bl k) else dFail else dRet (.sh .im, .bl false) else dFail else dFail
theorem chain_ok {op op' : D → D → Option OR} {r r' : R2} (hr : OpX K op r) (hr' : OpX K op' r') {da db dc : Den DV} (h : tE K mg W (pa && (pb && pc)) (dChain op op' da db dc) σ H Q) : tChain r r' (tE K mg W pa da) (tE K mg W pb db) (tE K mg W pc dc) σ H Q := by
  obtain ⟨ρ, R, F, res, hS, hden, hQ⟩ := h
  refine tG_bind hS hden hQ fun ρ1 a v H1 R1 F1 G1 e st q n s p => ?_
  have hQ1 := (hQ.step s fun z => p (Bool.and_eq_true_iff.mp z).1).drop
  by_cases ha : a.2.scal = true
  rotate_left
  · rw [if_neg ha] at e; cases e
  rw [if_pos ha] at e
  have hv := (q.at st.sub).scal ha
  refine tG_bind st e hQ1 fun ρ2 b u H2 R2 F2 G2 e2 st2 q2 n2 s2 p2 => ?_
  have hQ2 := (hQ1.step s2 fun z => p2 (Bool.and_eq_true_iff.mp (Bool.and_eq_true_iff.mp z).2).1).drop
  by_cases hb : b.2.scal = true
  rotate_left
  · rw [if_neg hb] at e2; cases e2
  rw [if_pos hb] at e2
  have hu := (q2.at st2.sub).scal hb
  obtain ⟨k, hk, e2⟩ := lift_some e2
  have ho := boolOf_some hk
  obtain ⟨_, hx⟩ := hr _ _ _ v u R2 H2 (fun z H3 => ∃ k, z = .bl k ∧ (if k = true then tE K mg W pc dc σ H3 fun w' H4 => r' u w' H4 Q else Q (.bl false) H3)) ho st2.sub (by rw [hv]; exact .sv ha) (by rw [hu]; exact .sv hb)
  refine hx ⟨rfl, k, rfl, ?_⟩
  cases k with
  | false =>
    rw [if_neg Bool.false_ne_true] at e2 ⊢
    cases e2
    exact hQ2.scal st2 rfl
  | true =>
    rw [if_pos rfl] at e2 ⊢
    refine tG_bind st2 e2 hQ2 fun ρ3 c w H3 R3 F3 G3 e3 st3 q3 n3 s3 p3 => ?_
    have hQ3 := (hQ2.step s3 fun z => p3 (Bool.and_eq_true_iff.mp (Bool.and_eq_true_iff.mp z).2).2).drop
    by_cases hc : c.2.scal = true
    rotate_left
    · rw [if_neg hc] at e3; cases e3
    rw [if_pos hc] at e3
    have hw := (q3.at st3.sub).scal hc
    obtain ⟨k', hk', e3⟩ := lift_some e3
    cases e3
    obtain ⟨h1, hx'⟩ := hr' _ _ _ u w R3 H3 Q (boolOf_some hk') st3.sub (by rw [hu]; exact .sv hb) (by rw [hw]; exact .sv hc)
    exact hx' (hQ3.or st3 h1)

/-! ### places -/
def idxD : D → D → Option D
  | .lst ds, .int i => atI ds i
  | .tup ds, .int i => atI ds i
  | .str z, .int i => if z.length ≤ sizeLine then (atI z.cps.toList i).map fun c => .str ⟨#[c]⟩ else none
  | _, _ => none
theorem AtAll.atI {i : Int} (h : AtAll K R vs ds) (e : atI ds i = some d) : ∃ v, L2.atI vs i = some v ∧ At K R v d := by
  unfold L2.atI at e ⊢
  rw [h.length]
  obtain ⟨j, h1, h2⟩ := Option.bind_eq_some_iff.mp e
  obtain ⟨v, h3, h4⟩ := h.get h2
  exact ⟨v, by rw [h1]; exact h3, h4⟩
theorem idx_ok {G : Hp} {v u : V} {c : D} (g : Sub G H) (h : idxD d c = some ds') (hv : At K G v d) (hu : At K G u c) : ∃ w, At K G w ds' ∧ (Q w H → rIx K v u H Q) := by
  unfold idxD at h
  split at h
  · cases hu
    cases hv with | lst h1 h2 =>
    obtain ⟨w, e1, e2⟩ := h2.atI h
    exact ⟨w, e2, fun q => .inl ⟨_, _, _, w, rfl, rfl, g.sqL h1, e1, q⟩⟩
  · cases hu
    cases hv with | tup h1 h2 =>
    obtain ⟨w, e1, e2⟩ := h2.atI h
    exact ⟨w, e2, fun q => .inr (.inl ⟨_, _, _, w, rfl, rfl, g.sqT h1, e1, q⟩)⟩
  · split at h
    · obtain ⟨c, h1, h2⟩ := Option.map_eq_some_iff.mp h
      subst h2
      cases hu; cases hv
      exact ⟨_, .str _, fun q => .inr (.inr ⟨_, _, c, rfl, rfl, by assumption, h1, q⟩)⟩
    · cases h
  · cases h
/-- an item: of what is lent, it is lent, too -/
def itemMd (a : DV) (d : D) : DV := if (isBo a && !d.scal) = true then (.bo, d) else (.sh .im, d)
def dIdx (pb : Bool) (da db : Den DV) : Den DV := dBind da fun a => if (isBo a && !pb) = true then dFail else dBind db fun b => dLift (if isBo b = true then none else idxD a.2 b.2) fun d => dRet (itemMd a d)
theorem index_ok {da db : Den DV} (h : tE K mg W (pa && pb) (dIdx pb da db) σ H Q) : tOp (rIx K) (tE K mg W pa da) (tE K mg W pb db) σ H Q := by
  obtain ⟨ρ, R, F, res, hS, hden, hQ⟩ := h
  refine two (g := fun a => isBo a && !pb) hS hden hQ (fun z => Bool.and_eq_true_iff.mp z) (fun a z w => ?_) fun ρ2 a b v u H2 R2 F2 G1 G2 ga e st q q2 n hQ2 => ?_
  · rw [w] at z; simpa using z
  · unfold dLift at e
    split at e
    · cases e
    · rename_i d' e1
      cases e
      split at e1
      · cases e1
      rename_i hb
      unfold itemMd at hQ2
      cases ha : isBo a with
      | false =>
        rw [ha, if_neg (by simp)] at hQ2
        have st' := st.freeze (nd_out n)
        have q' := (q.freeze st.sub (not_bo ha)).mono (ext_mono (G2 := G1 ++ G2) st.sub fun x hx => List.mem_append_left _ hx)
        have q2' := (q2.freeze st.sub (not_bo (ff_of hb))).mono (ext_mono (G2 := G1 ++ G2) st.sub fun x hx => List.mem_append_right _ hx)
        obtain ⟨w, h1, h2⟩ := idx_ok (Q := Q) st'.sub e1 q' q2'
        exact h2 ((hQ2.step (.freeze st.sub) fun _ => .refl).im st' h1)
      | true =>
        obtain ⟨w, h1, h2⟩ := idx_ok (Q := Q) .refl e1 (q.at st.sub) (q2.at st.sub)
        refine h2 ?_
        rw [ha] at hQ2
        cases hs : d'.scal with
        | true =>
          rw [hs, if_neg (by simp)] at hQ2
          rw [h1.scal hs]
          exact hQ2.drop.scal st hs
        | false =>
          rw [hs, if_pos (by simp)] at hQ2
          exact hQ2.drop w H2 R2 F2 [] st ⟨rfl, h1⟩ (by rw [List.append_nil]; exact st.nd) (by rw [List.append_nil]; exact .refl) fun _ => .refl

/-! ### slices -/
def RO : RelT (Option Int) (Option Int) := fun _ _ a v F => v = a ∧ F = []
abbrev tO (K : PySem.W.Frag) (mg : Str → Option Value) (W : WX) (pu : Bool) (den : Den (Option Int)) : TO := tG K mg W RO pu den
def dNoPart : Den (Option Int) := dRet none
def dPart (da : Den DV) : Den (Option Int) := dBind da fun a => match a.2 with
  | .int i => dRet (some i)
  | _ => dFail
theorem PostR.ro {Q : Option Int → Hp → Prop} {b : Option Int} (hQ : PostR K mg W RO pc R H F σ Q (.ok ρ b)) (hS : Sta K R H ρ σ F) : Q b H :=
  hQ b H R F [] hS ⟨rfl, rfl⟩ (by rw [List.append_nil]; exact hS.nd) (by rw [List.append_nil]; exact .refl) fun _ => .refl
theorem noPart_ok {Q : Option Int → Hp → Prop} (h : tO K mg W true dNoPart σ H Q) : tNoPart σ H Q := by
  obtain ⟨ρ, R, F, res, hS, hden, hQ⟩ := h
  cases hden
  exact hQ.ro hS
theorem part_ok {da : Den DV} {Q : Option Int → Hp → Prop} (h : tO K mg W pa (dPart da) σ H Q) : tPart (tE K mg W pa da) σ H Q := by
  obtain ⟨ρ, R, F, res, hS, hden, hQ⟩ := h
  refine tG_bind hS hden hQ fun ρ1 a v H1 R1 F1 G1 e st q n s p => ?_
  obtain ⟨m, d⟩ := a
  cases d with
  | int i =>
    cases e
    exact ⟨i, (q.at st.sub).scal rfl, (hQ.step s p).drop.ro st⟩
  | _ => cases e
def cutD {α : Type} (xs : List α) (lo hi : Option Int) : List α := (xs.drop (HT.sIx xs.length 0 lo)).take (HT.sIx xs.length xs.length hi - HT.sIx xs.length 0 lo)
def sliceOp (d : D) (lo hi : Option Int) : Option OR := match d with
  | .lst ds => some (.l (cutD ds lo hi))
  | .tup ds => some (.a (.tup (cutD ds lo hi)))
  | .str z => if z.length ≤ sizeLine then some (.s (.str (cutS z lo hi))) else none
  | _ => none
def rSl (K : PySem.W.Frag) : V → Option Int → Option Int → Hp → VK → Prop := fun x lo hi H Q => rSlL K x lo hi H Q ∨ rSlA K x lo hi H Q ∨ rSlS x lo hi H Q
theorem sl_any {X : Cx} : SlR X (rSl X.K) := sl_list.or (sl_tupA.or sl_str)
theorem cut_at {lo hi : Option Int} (h : AtAll K R vs ds) : AtAll K R (cutV vs lo hi) (cutD ds lo hi) := by
  unfold cutV cutD
  rw [h.length]
  exact (h.drop _).take _
theorem slice_ok {lo hi : Option Int} {o : OR} {v : V} (ho : sliceOp d lo hi = some o) (g : Sub R H) (hv : At K (if o.lent = true then H else R) v d) : o.okS = true ∧ (o.wants K R H Q → rSl K v lo hi H Q) := by
  unfold sliceOp at ho
  split at ho
  · cases ho
    cases hv with | lst h1 h2 =>
    exact ⟨rfl, fun w => .inl ⟨_, _, rfl, g.sqL h1, fun p hp => w _ p (cut_at h2) hp⟩⟩
  · rename_i es
    cases ho
    cases hv with | @tup a xs _ h1 h2 =>
    refine ⟨rfl, fun w => .inr (.inl ⟨_, xs, rfl, g.sqT h1, fun e => ?_, fun _ p hp => w.2 _ _ p rfl (cut_at h2) hp⟩)⟩
    have e' : cutD es lo hi = es := by
      unfold cutD
      rw [← h2.length, e.1, e.2]
      simp [h2.length]
    exact w.1 _ (by rw [e']; exact .tup h1 h2)
  · split at ho
    · cases ho
      cases hv
      exact ⟨rfl, fun w => .inr (.inr ⟨_, rfl, by assumption, w.2⟩)⟩
    · cases ho
  · cases ho
def dSl (pl : Bool) (da : Den DV) (dl dh : Den (Option Int)) : Den DV := dBind da fun a => if (isBo a && !pl) = true then dFail else dBind dl fun lo => dBind dh fun hi => dLift (sliceOp a.2 lo hi) fun o => if (!o.lent && isBo a) = true then dFail else dRet o.val
theorem sl_ok {da : Den DV} {dl dh : Den (Option Int)} (h : tE K mg W (pa && (pb && pc)) (dSl (pb && pc) da dl dh) σ H Q) : tSl (rSl K) (tE K mg W pa da) (tO K mg W pb dl) (tO K mg W pc dh) σ H Q := by
  obtain ⟨ρ, R, F, res, hS, hden, hQ⟩ := h
  refine tG_bind hS hden hQ fun ρ1 a v H1 R1 F1 G1 e st q n s p => ?_
  cases hga : (isBo a && !(pb && pc)) with
  | true => rw [if_pos hga] at e; cases e
  | false =>
    rw [if_neg (by rw [hga]; exact Bool.false_ne_true)] at e
    have hbo : isBo a = true → pb = true ∧ pc = true := fun z => by
      rw [z] at hga
      cases pb <;> cases pc <;> first | exact ⟨rfl, rfl⟩ | cases hga
    have hQ1 := (hQ.step s fun z => p (Bool.and_eq_true_iff.mp z).1).drop
    refine tG_bind st e hQ1 fun ρ2 lo v2 H2 R2 F2 G2 e2 st2 q2 n2 s2 p2 => ?_
    obtain ⟨rfl, rfl⟩ := q2
    rw [List.append_nil] at s2
    have hQ2 := hQ1.step s2 fun z => p2 (Bool.and_eq_true_iff.mp (Bool.and_eq_true_iff.mp z).2).1
    refine tG_bind st2 e2 hQ2 fun ρ3 hi v3 H3 R3 F3 G3 e3 st3 q3 n3 s3 p3 => ?_
    obtain ⟨rfl, rfl⟩ := q3
    rw [List.append_nil] at s3
    have hQ3 := hQ2.step s3 fun z => p3 (Bool.and_eq_true_iff.mp (Bool.and_eq_true_iff.mp z).2).2
    obtain ⟨vv, hd⟩ := Frm.vok.behind q n (s2.trans s3) fun z => (p2 (hbo z).1).trans (p3 (hbo z).2)
    unfold dLift at e3
    split at e3
    · cases e3
    · rename_i o e4
      dsimp only at e3
      split at e3
      · cases e3
      · rename_i hb
        cases e3
        cases hl : o.lent with
        | true =>
          have hx := slice_ok (Q := Q) e4 st3.sub (by rw [if_pos hl]; exact vv.at st3.sub)
          exact hx.2 (hQ3.or st3 hx.1)
        | false =>
          rw [hl] at hb
          have st' := st3.freeze (G := G1) hd
          have hx := slice_ok (Q := Q) e4 st'.sub (by rw [hl]; exact vv.freeze st3.sub (not_bo (ff_of hb)))
          have hQ4 := PostR.step (R1 := ext R3 H3 G1) (H1 := H3) (F1 := F3) hQ (by
            refine Step.trans (F1 := F3 ++ G1) ⟨((s.less fun x hx => List.mem_append_left _ hx).trans (s2.trans s3)).keep, ((s.less fun x hx => List.mem_append_left _ hx).trans (s2.trans s3)).grow, ((s.less fun x hx => List.mem_append_left _ hx).trans (s2.trans s3)).rnew, fun x hx => ?_, ((s.less fun x hx => List.mem_append_left _ hx).trans (s2.trans s3)).there⟩ (.freeze st3.sub)
            rcases List.mem_append.mp hx with hx | hx
            · exact ((s.less fun x hx => List.mem_append_left _ hx).trans (s2.trans s3)).fnew x hx
            · exact s.fnew x (List.mem_append_right _ hx)) fun z => (p (Bool.and_eq_true_iff.mp z).1).trans ((p2 (Bool.and_eq_true_iff.mp (Bool.and_eq_true_iff.mp z).2).1).trans (p3 (Bool.and_eq_true_iff.mp (Bool.and_eq_true_iff.mp z).2).2))
          exact hx.2 (hQ4.or st' hx.1)
end
end Den

/-! Statements, by their meanings. -/
namespace Den
open PySem PySem.Spec PyProof.Rows L2

/-- how a statement ends -/
inductive Fl where
  | nx (ρ : Rho) | rt (ρ : Rho) (a : DV) | bk (ρ : Rho) | ct (ρ : Rho) | ex (ρ : Rho) (x : Exn)
abbrev DenS := Rho → Option Fl
/-- a target: what it does to the names with a plain value -/
abbrev DenG := D → Rho → Option Rho
/-- names other than those of A hold what they held -/
def Kept (A : List Nat) (σ σ' : L2.St) : Prop := σ'.length = σ.length ∧ ∀ i, i ∉ A → σ'[i]? = σ[i]?
theorem Kept.refl {A : List Nat} {σ : L2.St} : Kept A σ σ := ⟨rfl, fun _ _ => rfl⟩
theorem Kept.trans {A : List Nat} {σ σ' σ'' : L2.St} (a : Kept A σ σ') (b : Kept A σ' σ'') : Kept A σ σ'' := ⟨b.1.trans a.1, fun i h => (b.2 i h).trans (a.2 i h)⟩
theorem Kept.set {A : List Nat} {σ : L2.St} {i : Nat} {v : Option V} (h : i ∈ A) : Kept A σ (σ.set i v) := ⟨List.length_set .., fun j hj => by
  rw [List.getElem?_set_ne]
  rintro rfl
  exact hj h⟩

section
variable (K : PySem.W.Frag) (mg : Str → Option Value) (W : WX) (A : List Nat)
def PostS (R H : Hp) (F : List Addr) (σ : L2.St) (D : Ends) : Fl → Prop
  | .nx ρ' => ∀ σ' H' R' F', Sta K R' H' ρ' σ' F' → Kept A σ σ' → Step R H F R' H' F' → D.nx σ' H'
  | .bk ρ' => ∀ σ' H' R' F', Sta K R' H' ρ' σ' F' → Kept A σ σ' → Step R H F R' H' F' → D.bk σ' H'
  | .ct ρ' => ∀ σ' H' R' F', Sta K R' H' ρ' σ' F' → Kept A σ σ' → Step R H F R' H' F' → D.ct σ' H'
  | .rt ρ' a => ∀ σ' v H' R' F' Fv, Sta K R' H' ρ' σ' F' → Kept A σ σ' → VOk K R' H' a v Fv → (F' ++ Fv).Nodup → Step R H F R' H' (F' ++ Fv) → D.rt v H'
  | .ex ρ' x => ∀ c dx σ' H' R' F', Sta K R' H' ρ' σ' F' → Kept A σ σ' → XOk K mg R' x c dx → Step R H F R' H' F' → W c dx σ' H'
def tS (den : DenS) : TS := fun D σ H => ∃ ρ R F o, Sta K R H ρ σ F ∧ den ρ = some o ∧ PostS K mg W A R H F σ D o
def gOf (tg : DenG) : TG := fun v σ H Q => ∃ ρ R F d ρ', Sta K R H ρ σ F ∧ At K R v d ∧ tg d ρ = some ρ' ∧ ∀ σ' F', Sta K R H ρ' σ' F' → Kept A σ σ' → (∀ a ∈ F', a ∈ F) → Q σ' H
def gsOf (tg : List D → Rho → Option Rho) : TGs := fun vs σ H Q => ∃ ρ R F ds ρ', Sta K R H ρ σ F ∧ AtAll K R vs ds ∧ tg ds ρ = some ρ' ∧ ∀ σ' F', Sta K R H ρ' σ' F' → Kept A σ σ' → (∀ a ∈ F', a ∈ F) → Q σ' H
end

section
variable {α β γ δ : Type} {K : PySem.W.Frag} {mg : Str → Option Value} {W : WX} {A : List Nat} {rel : RelT α β} {rel' : RelT γ δ} {pu pa pb pc pd : Bool} {R R1 H H1 : Hp} {F F1 G : List Addr} {ρ ρ1 : Rho} {σ σ1 : L2.St} {Q : VK} {d : D} {ds : List D} {vs : List V} {p : Addr} {T : Ends}

theorem PostS.step {o : Fl} (h : PostS K mg W A R H F σ T o) (s : Step R H F R1 H1 F1) (k : Kept A σ σ1) : PostS K mg W A R1 H1 F1 σ1 T o := by
  cases o with
  | nx ρ' => exact fun σ' H' R' F' st q s2 => h σ' H' R' F' st (k.trans q) (s.trans s2)
  | bk ρ' => exact fun σ' H' R' F' st q s2 => h σ' H' R' F' st (k.trans q) (s.trans s2)
  | ct ρ' => exact fun σ' H' R' F' st q s2 => h σ' H' R' F' st (k.trans q) (s.trans s2)
  | rt ρ' a => exact fun σ' v H' R' F' Fv st q w n s2 => h σ' v H' R' F' Fv st (k.trans q) w n (s.trans s2)
  | ex ρ' x => exact fun c dx σ' H' R' F' st q w s2 => h c dx σ' H' R' F' st (k.trans q) w (s.trans s2)
theorem PostS.drop {o : Fl} (h : PostS K mg W A R H (F ++ G) σ T o) : PostS K mg W A R H F σ T o := h.step (.less .refl fun x hx => List.mem_append_left _ hx) .refl

/-- an expression within a statement -/
def sBind {α : Type} (m : Den α) (f : α → DenS) : DenS := fun ρ => match m ρ with
  | none => none
  | some (.ex ρ x) => some (.ex ρ x)
  | some (.ok ρ a) => f a ρ
theorem tS_bind {da : Den α} {f : α → DenS} {o : Fl} {Q : β → Hp → Prop} (hS : Sta K R H ρ σ F) (hden : sBind da f ρ = some o) (hQ : PostS K mg W A R H F σ T o)
    (k : ∀ ρ1 a v H1 R1 F1 Fv, f a ρ1 = some o → Sta K R1 H1 ρ1 σ F1 → rel R1 H1 a v Fv → (F1 ++ Fv).Nodup → Step R H F R1 H1 (F1 ++ Fv) → (pa = true → Sub H H1) → Q v H1) : tG K mg W rel pa da σ H Q := by
  unfold sBind at hden
  split at hden
  · cases hden
  · rename_i ρ' x e
    cases hden
    exact ⟨ρ, R, F, _, hS, e, fun c dx H' R' F' st q s => hQ c dx σ H' R' F' st .refl q s⟩
  · rename_i ρ1 a e
    exact ⟨ρ, R, F, _, hS, e, fun v H1 R1 F1 Fv st q n s p => k ρ1 a v H1 R1 F1 Fv hden st q n s p⟩
theorem goS {den : DenS} {o : Fl} (hS : Sta K R H ρ σ F) (e : den ρ = some o) (hQ : PostS K mg W A R H F σ T o) : tS K mg W A den T σ H := ⟨ρ, R, F, o, hS, e, hQ⟩

/-! ### blocks -/
def sNil : DenS := fun ρ => some (.nx ρ)
def sSeq (a b : DenS) : DenS := fun ρ => match a ρ with
  | some (.nx ρ') => b ρ'
  | o => o
theorem nil_ok (h : tS K mg W A sNil T σ H) : tNext T σ H := by
  obtain ⟨ρ, R, F, o, hS, hden, hQ⟩ := h
  cases hden
  exact hQ σ H R F hS .refl .refl
theorem seq_ok {a b : DenS} (h : tS K mg W A (sSeq a b) T σ H) : tSeq (tS K mg W A a) (tS K mg W A b) T σ H := by
  obtain ⟨ρ, R, F, o, hS, hden, hQ⟩ := h
  unfold sSeq at hden
  split at hden
  · rename_i ρ' e
    exact ⟨ρ, R, F, _, hS, e, fun σ' H' R' F' st k s => ⟨ρ', R', F', o, st, hden, hQ.step s k⟩⟩
  · rename_i z
    refine ⟨ρ, R, F, o, hS, hden, ?_⟩
    cases o with
    | nx ρ' => exact absurd hden (z ρ')
    | bk ρ' => exact hQ
    | ct ρ' => exact hQ
    | rt ρ' a => exact hQ
    | ex ρ' x => exact hQ
def sBreak : DenS := fun ρ => some (.bk ρ)
def sCont : DenS := fun ρ => some (.ct ρ)
theorem break_ok (h : tS K mg W A sBreak T σ H) : tBreak T σ H := by
  obtain ⟨ρ, R, F, o, hS, hden, hQ⟩ := h
  cases hden
  exact hQ σ H R F hS .refl .refl
theorem cont_ok (h : tS K mg W A sCont T σ H) : tCont T σ H := by
  obtain ⟨ρ, R, F, o, hS, hden, hQ⟩ := h
  cases hden
  exact hQ σ H R F hS .refl .refl
def sIf (c : Den Bool) (a b : DenS) : DenS := sBind c fun k => if k = true then a else b
theorem ifS_ok {c : Den Bool} {a b : DenS} (h : tS K mg W A (sIf c a b) T σ H) : tIfS (tT K mg W pc c) (tS K mg W A a) (tS K mg W A b) T σ H := by
  obtain ⟨ρ, R, F, o, hS, hden, hQ⟩ := h
  refine tS_bind hS hden hQ fun ρ1 a v H1 R1 F1 G1 e st q n s p => ?_
  obtain ⟨rfl, rfl⟩ := q
  have hQ1 := (hQ.step s .refl).drop
  cases v with
  | true => exact goS st e hQ1
  | false => exact goS st e hQ1
def sExpr (da : Den DV) : DenS := sBind da fun _ => sNil
theorem expr_ok {da : Den DV} (h : tS K mg W A (sExpr da) T σ H) : tDrop (tE K mg W pa da) T σ H := by
  obtain ⟨ρ, R, F, o, hS, hden, hQ⟩ := h
  refine tS_bind hS hden hQ fun ρ1 a v H1 R1 F1 G1 e st q n s p => ?_
  cases e
  exact (hQ.step s .refl).drop σ H1 R1 F1 st .refl .refl
def sRet (da : Den DV) : DenS := sBind da fun a => if isBo a = true then (fun _ => none) else fun ρ => some (.rt ρ a)
theorem ret_ok {da : Den DV} (h : tS K mg W A (sRet da) T σ H) : tRet (tE K mg W pa da) T σ H := by
  obtain ⟨ρ, R, F, o, hS, hden, hQ⟩ := h
  refine tS_bind hS hden hQ fun ρ1 a v H1 R1 F1 G1 e st q n s p => ?_
  cases hb : isBo a with
  | true => rw [if_pos hb] at e; cases e
  | false =>
    rw [if_neg (by rw [hb]; exact Bool.false_ne_true)] at e
    cases e
    exact hQ σ v H1 R1 F1 G1 st .refl q n s
def sRetN : DenS := fun ρ => some (.rt ρ (.sh .im, .non))
theorem retN_ok (h : tS K mg W A sRetN T σ H) : tRetN T σ H := by
  obtain ⟨ρ, R, F, o, hS, hden, hQ⟩ := h
  cases hden
  exact hQ σ .non H R F [] hS .refl ⟨rfl, .non⟩ (by rw [List.append_nil]; exact hS.nd) (by rw [List.append_nil]; exact .refl)

/-! ### stores to names -/
def sSet (i : Nat) (da : Den DV) : DenS := sBind da fun a ρ => match a with
  | (.sh s, d) => if i < ρ.length then some (.nx (ρ.set i (some (s, d)))) else none
  | _ => none
theorem set_ok {i : Nat} {da : Den DV} (hi : i ∈ A) (h : tS K mg W A (sSet i da) T σ H) : tAsg (tE K mg W pa da) (gName i) T σ H := by
  obtain ⟨ρ, R, F, o, hS, hden, hQ⟩ := h
  refine tS_bind hS hden hQ fun ρ1 a v H1 R1 F1 G1 e st q n s p => ?_
  obtain ⟨m, d⟩ := a
  cases m with
  | bo => cases e
  | sh sh =>
    dsimp only at e
    split at e
    · rename_i hl
      cases e
      obtain ⟨F', h1, h2, h3⟩ := st.slots.put hl q
      refine hQ _ H1 R1 F' ⟨h1, st.sub, h3 (List.perm_append_comm.nodup_iff.mp n)⟩ (.set hi) (s.less fun x hx => ?_)
      exact List.mem_append.mpr ((h2 x hx).symm)
    · cases e
def gSet (i : Nat) : DenG := fun d ρ => if i < ρ.length then some (ρ.set i (some (.im, d))) else none
theorem gname_ok {i : Nat} {v : V} {Q : L2.St → Hp → Prop} (hi : i ∈ A) (h : gOf K A (gSet i) v σ H Q) : gName i v σ H Q := by
  obtain ⟨ρ, R, F, d, ρ', hS, hv, e, k⟩ := h
  unfold gSet at e
  split at e
  · rename_i hl
    cases e
    obtain ⟨F', h1, h2, h3⟩ := hS.slots.put (s := .im) (d := d) (v := v) (G := []) hl ⟨rfl, hv⟩
    exact k _ F' ⟨h1, hS.sub, h3 (by simpa using hS.nd)⟩ (.set hi) fun a ha => (h2 a ha).elim (fun z => by cases z) id
  · cases e
def gsNil : List D → Rho → Option Rho := fun ds ρ => if ds.isEmpty = true then some ρ else none
def gsCons (t : DenG) (u : List D → Rho → Option Rho) : List D → Rho → Option Rho
  | d :: ds, ρ => match t d ρ with
    | some ρ' => u ds ρ'
    | none => none
  | [], _ => none
theorem gsnil_ok {Q : L2.St → Hp → Prop} (h : gsOf K A gsNil vs σ H Q) : gNil vs σ H Q := by
  obtain ⟨ρ, R, F, ds, ρ', hS, hv, e, k⟩ := h
  unfold gsNil at e
  split at e
  · rename_i hl
    cases e
    have : ds = [] := List.isEmpty_iff.mp hl
    subst this
    cases hv
    exact ⟨rfl, k σ F hS .refl fun _ h => h⟩
  · cases e
theorem gscons_ok {t : DenG} {u : List D → Rho → Option Rho} {Q : L2.St → Hp → Prop} (h : gsOf K A (gsCons t u) vs σ H Q) : gCons (gOf K A t) (gsOf K A u) vs σ H Q := by
  obtain ⟨ρ, R, F, ds, ρ', hS, hv, e, k⟩ := h
  unfold gsCons at e
  split at e
  · rename_i d ds
    cases hv with | cons h1 h2 =>
    split at e
    · rename_i ρ1 e1
      refine ⟨_, _, rfl, ρ, R, F, d, ρ1, hS, h1, e1, fun σ' F' st kp sub => ?_⟩
      exact ⟨ρ1, R, F', ds, ρ', st, h2, e, fun σ2 F2 st2 kp2 sub2 => k σ2 F2 st2 (kp.trans kp2) fun a ha => sub a (sub2 a ha)⟩
    · cases e
  · cases e
def gTupD (n : Nat) (u : List D → Rho → Option Rho) : DenG := fun d ρ => match d with
  | .tup ds => if ds.length = n then u ds ρ else none
  | .lst ds => if ds.length = n then u ds ρ else none
  | _ => none
def gTupX (K : PySem.W.Frag) (n : Nat) (t : TGs) : TG := fun v σ H Q => gTup K n t v σ H Q ∨ gLst K n t v σ H Q
theorem gtup_ok {n : Nat} {u : List D → Rho → Option Rho} {v : V} {Q : L2.St → Hp → Prop} (h : gOf K A (gTupD n u) v σ H Q) : gTupX K n (gsOf K A u) v σ H Q := by
  obtain ⟨ρ, R, F, d, ρ', hS, hv, e, k⟩ := h
  cases d with
  | tup ds =>
    unfold gTupD at e
    dsimp only at e
    split at e
    · rename_i hn
      cases hv with | tup h1 h2 =>
      exact .inl ⟨_, _, rfl, hS.sub.sqT h1, by rw [h2.length]; exact hn, ρ, R, F, ds, ρ', hS, h2, e, k⟩
    · cases e
  | lst ds =>
    unfold gTupD at e
    dsimp only at e
    split at e
    · rename_i hn
      cases hv with | lst h1 h2 =>
      exact .inr ⟨_, _, rfl, hS.sub.sqL h1, by rw [h2.length]; exact hn, ρ, R, F, ds, ρ', hS, h2, e, k⟩
    · cases e
  | _ => cases e
/-- a value to a target, plain -/
def sAsg (da : Den DV) (tg : DenG) : DenS := sBind da fun a ρ => if isBo a = true then none else (tg a.2 ρ).map .nx
theorem asg_ok {da : Den DV} {tg : DenG} (h : tS K mg W A (sAsg da tg) T σ H) : tAsg (tE K mg W pa da) (gOf K A tg) T σ H := by
  obtain ⟨ρ, R, F, o, hS, hden, hQ⟩ := h
  refine tS_bind hS hden hQ fun ρ1 a v H1 R1 F1 G1 e st q n s p => ?_
  split at e
  · cases e
  · rename_i hb
    obtain ⟨ρ', e1, e2⟩ := Option.map_eq_some_iff.mp e
    subst e2
    refine ⟨ρ1, ext R1 H1 G1, F1, a.2, ρ', st.freeze (nd_out n), q.freeze st.sub (not_bo (ff_of hb)), e1, fun σ' F' st' kp sub => ?_⟩
    exact hQ σ' H1 _ F' st' kp ((s.trans (.freeze st.sub)).less sub)
/-- a, b = x, y of two names -/
def sPar (i j : Nat) (da : Den (List DV)) : DenS := sBind da fun as ρ => if as.any isBo = true then none else match as with
  | [a, b] => if i < ρ.length ∧ j < ρ.length then some (.nx ((ρ.set i (some (.im, a.2))).set j (some (.im, b.2)))) else none
  | _ => none
theorem par_ok {i j : Nat} {da : Den (List DV)} (hi : i ∈ A) (hj : j ∈ A) (h : tS K mg W A (sPar i j da) T σ H) : tPar i j (tA K mg W pa da) T σ H := by
  obtain ⟨ρ, R, F, o, hS, hden, hQ⟩ := h
  refine tS_bind hS hden hQ fun ρ1 a v H1 R1 F1 G1 e st q n s p => ?_
  split at e
  · cases e
  · rename_i hb
    have q' := q.freeze st.sub (fun _ h => h) (ff_of hb)
    have st' := st.freeze (nd_out n)
    have s' := s.trans (.freeze st.sub)
    split at e
    · rename_i a b
      split at e
      · rename_i hl
        cases e
        cases q' with | cons q1 q2 => cases q2 with | cons q2 q3 => cases q3 with | nil =>
        obtain ⟨F', h1, h2, h3⟩ := st'.slots.put (s := .im) (G := []) hl.1 ⟨rfl, q1⟩
        obtain ⟨F'', g1, g2, g3⟩ := h1.put (s := .im) (G := []) (i := j) (by rw [List.length_set]; exact hl.2) ⟨rfl, q2⟩
        refine ⟨_, _, rfl, hQ _ H1 _ F'' ⟨g1, st'.sub, g3 (h3 (by simpa using st'.nd))⟩ ((Kept.set hi).trans (.set hj)) (s'.less fun x hx => ?_)⟩
        rcases g2 x hx with z | z
        · cases z
        · exact (h2 x z).elim (fun w => by cases w) id
      · cases e
    · cases e

/-! ### loops -/
/-- an iterator that gives the items ds, over all heaps that have the ground -/
structure Feeds (K : PySem.W.Frag) (J : It) (R : Hp) (ds : List D) : Prop where
  stop : ∀ H i, Sub R H → ds.length ≤ i → J.stop i H
  go : ∀ H i, Sub R H → i < ds.length → J.go i H
  yld : ∀ H i x H', Sub R H → i < ds.length → J.yld i H x H' → ∃ d, ds[i]? = some d ∧ ((H' = H ∧ At K R x d) ∨ ∃ T vs es, x = .ref T ∧ H T = none ∧ H' = upd H T (.tup vs) ∧ d = .tup es ∧ AtAll K R vs es)
def RI (K : PySem.W.Frag) : RelT (List D) It := fun R _ ds J F => Feeds K J R ds ∧ F = []
abbrev tI (K : PySem.W.Frag) (mg : Str → Option Value) (W : WX) (pu : Bool) (den : Den (List D)) : TI := tG K mg W (RI K) pu den
theorem Feeds.mono {J : It} {R' : Hp} (f : Feeds K J R ds) (g : Sub R R') : Feeds K J R' ds where
  stop := fun H i s => f.stop H i (g.trans s)
  go := fun H i s => f.go H i (g.trans s)
  yld := fun H i x H' s hi y => by
    obtain ⟨d, h1, h2⟩ := f.yld H i x H' (g.trans s) hi y
    refine ⟨d, h1, ?_⟩
    rcases h2 with ⟨e, h⟩ | ⟨T, vs, es, e1, e2, e3, e4, h⟩
    · exact .inl ⟨e, h.mono g⟩
    · exact .inr ⟨T, vs, es, e1, e2, e3, e4, h.mono g⟩
theorem feeds_list {a : Addr} (h : SqL K R a vs) (q : AtAll K R vs ds) : Feeds K (Itl K a) R ds where
  stop := fun H i s hi => ⟨vs, s.sqL h, by rw [q.length]; exact hi⟩
  go := fun H i s hi => by
    have hv : i < vs.length := by rw [q.length]; exact hi
    exact ⟨vs, vs[i], s.sqL h, List.getElem?_eq_getElem hv⟩
  yld := fun H i x H' s hi y => by
    obtain ⟨e, f⟩ := y
    have hx := f vs (s.sqL h)
    obtain ⟨d, h1, h2⟩ := q.get' hx
    exact ⟨d, h1, .inl ⟨e, h2⟩⟩
theorem feeds_tup {a : Addr} (h : SqT K R a vs) (q : AtAll K R vs ds) : Feeds K (Itt K a) R ds where
  stop := fun H i s hi => ⟨vs, s.sqT h, by rw [q.length]; exact hi⟩
  go := fun H i s hi => by
    have hv : i < vs.length := by rw [q.length]; exact hi
    exact ⟨vs, vs[i], s.sqT h, List.getElem?_eq_getElem hv⟩
  yld := fun H i x H' s hi y => by
    obtain ⟨e, f⟩ := y
    have hx := f vs (s.sqT h)
    obtain ⟨d, h1, h2⟩ := q.get' hx
    exact ⟨d, h1, .inl ⟨e, h2⟩⟩
def rangeD (lo : Int) (n : Nat) : List D := (List.range n).map fun i => .int (lo + (i : Nat))
theorem rangeD_len {lo : Int} {n : Nat} : (rangeD lo n).length = n := by simp [rangeD]
theorem feeds_range {lo : Int} {n : Nat} : Feeds K (Itr lo n) R (rangeD lo n) where
  stop := fun H i s hi => by rw [rangeD_len] at hi; exact hi
  go := fun H i s hi => by rw [rangeD_len] at hi; exact hi
  yld := fun H i x H' s hi y => by
    rw [rangeD_len] at hi
    obtain ⟨e, f⟩ := y
    exact ⟨.int (lo + i), by simp [rangeD, List.getElem?_map, List.getElem?_range hi], .inl ⟨e, by rw [f]; exact .int _⟩⟩
theorem PostR.ri {J : It} {Q : It → Hp → Prop} (hQ : PostR K mg W (RI K) pc R H F σ Q (.ok ρ ds)) (hS : Sta K R H ρ σ F) (f : Feeds K J R ds) : Q J H :=
  hQ J H R F [] hS ⟨f, rfl⟩ (by rw [List.append_nil]; exact hS.nd) (by rw [List.append_nil]; exact .refl) fun _ => .refl
/-- the items of a list, of a tuple, by what is walked -/
def dItemsL (da : Den DV) : Den (List D) := dBind da fun a => if isBo a = true then dFail else match a.2 with
  | .lst ds => dRet ds
  | _ => dFail
def dItemsT (da : Den DV) : Den (List D) := dBind da fun a => if isBo a = true then dFail else match a.2 with
  | .tup ds => dRet ds
  | _ => dFail
theorem itemsL_ok {da : Den DV} {Q : It → Hp → Prop} (h : tI K mg W pa (dItemsL da) σ H Q) : iList K (tE K mg W pa da) σ H Q := by
  obtain ⟨ρ, R, F, res, hS, hden, hQ⟩ := h
  refine oneIm hS hden hQ fun ρ2 a v H2 R2 F2 e st q hQ2 => ?_
  obtain ⟨m, d⟩ := a
  cases d with
  | lst ds =>
    cases e
    cases q with | lst h1 h2 => exact ⟨_, rfl, ⟨_, st.sub.sqL h1⟩, hQ2.ri st (feeds_list h1 h2)⟩
  | _ => cases e
theorem itemsT_ok {da : Den DV} {Q : It → Hp → Prop} (h : tI K mg W pa (dItemsT da) σ H Q) : iTup K (tE K mg W pa da) σ H Q := by
  obtain ⟨ρ, R, F, res, hS, hden, hQ⟩ := h
  refine oneIm hS hden hQ fun ρ2 a v H2 R2 F2 e st q hQ2 => ?_
  obtain ⟨m, d⟩ := a
  cases d with
  | tup ds =>
    cases e
    cases q with | tup h1 h2 => exact ⟨_, rfl, ⟨_, st.sub.sqT h1⟩, hQ2.ri st (feeds_tup h1 h2)⟩
  | _ => cases e

def loopF (tg : DenG) (body : DenS) : List D → DenS
  | [], ρ => some (.nx ρ)
  | d :: ds, ρ => match tg d ρ with
    | none => none
    | some ρ1 => match body ρ1 with
      | none => none
      | some (.nx ρ2) => loopF tg body ds ρ2
      | some (.ct ρ2) => loopF tg body ds ρ2
      | some (.bk ρ2) => some (.nx ρ2)
      | some (.rt ρ2 a) => some (.rt ρ2 a)
      | some (.ex ρ2 x) => some (.ex ρ2 x)
def sFor (di : Den (List D)) (tg : DenG) (body : DenS) : DenS := sBind di fun ds => loopF tg body ds
theorem for_ok {di : Den (List D)} {tg : DenG} {body : DenS} (h : tS K mg W A (sFor di tg body) T σ H) : tFor (tI K mg W pa di) (gOf K A tg) (tS K mg W A body) T σ H := by
  obtain ⟨ρ, R, F, o, hS, hden, hQ⟩ := h
  refine tS_bind hS hden hQ fun ρ1 ds J H1 R1 F1 G1 e st q n s p => ?_
  obtain ⟨f, rfl⟩ := q
  rw [List.append_nil] at s
  have hQ1 := hQ.step s .refl
  refine ⟨fun i m σ' H' => m = ds.length - i ∧ i ≤ ds.length ∧ ∃ ρ' R' F', Sta K R' H' ρ' σ' F' ∧ loopF tg body (ds.drop i) ρ' = some o ∧ Kept A σ σ' ∧ Step R1 H1 F1 R' H' F', ⟨ds.length, by simp, Nat.zero_le _, ρ1, R1, F1, st, e, .refl, .refl⟩, ?_⟩
  rintro i m σ' H' ⟨rfl, hi, ρ', R', F', st', e', kp, s'⟩
  have f' := f.mono s'.grow
  by_cases hlt : i < ds.length
  · refine .inr ⟨f'.go H' i st'.sub hlt, fun σ2 H2 => i + 1 ≤ ds.length ∧ ∃ ρ' R' F', Sta K R' H2 ρ' σ2 F' ∧ loopF tg body (ds.drop (i + 1)) ρ' = some o ∧ Kept A σ σ2 ∧ Step R1 H1 F1 R' H2 F', fun σ2 H2 h2 => ⟨ds.length - (i + 1), by omega, rfl, h2⟩, fun x H2 y => ?_⟩
    obtain ⟨d, hd, hx⟩ := f'.yld H' i x H2 st'.sub hlt y
    have hdrop : ds.drop i = d :: ds.drop (i + 1) := by
      obtain ⟨h1, h2⟩ := List.getElem?_eq_some_iff.mp hd
      rw [List.drop_eq_getElem_cons h1, h2]
    rw [hdrop] at e'
    unfold loopF at e'
    split at e'
    · cases e'
    rename_i ρ2 etg
    -- the item is plain
    obtain ⟨R2, st2, hx2, s2⟩ : ∃ R2, Sta K R2 H2 ρ' σ' F' ∧ At K R2 x d ∧ Step R' H' F' R2 H2 F' := by
      rcases hx with ⟨e1, h1⟩ | ⟨T, vs, es, rfl, hT, rfl, rfl, h1⟩
      · subst e1; exact ⟨R', st', h1, .refl⟩
      · exact ⟨_, st'.grow hT, .tup (.inl (.inl upd_same)) (h1.mono (.upd (st'.none_of hT))), .grown hT (st'.none_of hT)⟩
    refine ⟨ρ', R2, F', d, ρ2, st2, hx2, etg, fun σ3 F3 st3 kp3 sub3 => ?_⟩
    have s3 : Step R1 H1 F1 R2 H2 F3 := (s'.trans s2).less sub3
    have kp' := kp.trans kp3
    split at e'
    · cases e'
    · rename_i ρ4 eb
      exact ⟨ρ2, R2, F3, _, st3, eb, fun σ4 H4 R4 F4 st4 kp4 s4 => ⟨hlt, ρ4, R4, F4, st4, e', kp'.trans kp4, s3.trans s4⟩⟩
    · rename_i ρ4 eb
      exact ⟨ρ2, R2, F3, _, st3, eb, fun σ4 H4 R4 F4 st4 kp4 s4 => ⟨hlt, ρ4, R4, F4, st4, e', kp'.trans kp4, s3.trans s4⟩⟩
    · rename_i ρ4 eb
      cases e'
      exact ⟨ρ2, R2, F3, _, st3, eb, fun σ4 H4 R4 F4 st4 kp4 s4 => hQ1 σ4 H4 R4 F4 st4 (kp'.trans kp4) (s3.trans s4)⟩
    · rename_i ρ4 a eb
      cases e'
      exact ⟨ρ2, R2, F3, _, st3, eb, fun σ4 v H4 R4 F4 Fv st4 kp4 w n4 s4 => hQ1 σ4 v H4 R4 F4 Fv st4 (kp'.trans kp4) w n4 (s3.trans s4)⟩
    · rename_i ρ4 x eb
      cases e'
      exact ⟨ρ2, R2, F3, _, st3, eb, fun c dx σ4 H4 R4 F4 st4 kp4 w s4 => hQ1 c dx σ4 H4 R4 F4 st4 (kp'.trans kp4) w (s3.trans s4)⟩
  · have ei : i = ds.length := by omega
    subst ei
    rw [List.drop_length] at e'
    cases e'
    exact .inl ⟨f'.stop H' _ st'.sub (Nat.le_refl _), hQ1 σ' H' R' F' st' kp s'⟩

def whileF (c : Den Bool) (body : DenS) : Nat → DenS
  | 0, _ => none
  | n + 1, ρ => match c ρ with
    | none => none
    | some (.ex ρ x) => some (.ex ρ x)
    | some (.ok ρ1 false) => some (.nx ρ1)
    | some (.ok ρ1 true) => match body ρ1 with
      | none => none
      | some (.nx ρ2) => whileF c body n ρ2
      | some (.ct ρ2) => whileF c body n ρ2
      | some (.bk ρ2) => some (.nx ρ2)
      | some (.rt ρ2 a) => some (.rt ρ2 a)
      | some (.ex ρ2 x) => some (.ex ρ2 x)
theorem while_ok {n : Nat} {c : Den Bool} {body : DenS} (h : tS K mg W A (whileF c body n) T σ H) : tWhile (tT K mg W pa c) (tS K mg W A body) T σ H := by
  obtain ⟨ρ, R, F, o, hS, hden, hQ⟩ := h
  refine ⟨fun m σ' H' => ∃ ρ' R' F', Sta K R' H' ρ' σ' F' ∧ whileF c body m ρ' = some o ∧ Kept A σ σ' ∧ Step R H F R' H' F', ⟨n, ρ, R, F, hS, hden, .refl, .refl⟩, ?_⟩
  rintro m σ' H' ⟨ρ', R', F', st, e, kp, s⟩
  cases m with
  | zero => cases e
  | succ m =>
    unfold whileF at e
    split at e
    · cases e
    · rename_i ρ1 x ec
      cases e
      exact ⟨ρ', R', F', _, st, ec, fun cc dx H2 R2 F2 st2 w s2 => hQ cc dx σ' H2 R2 F2 st2 kp w (s.trans s2)⟩
    · rename_i ρ1 ec
      cases e
      refine ⟨ρ', R', F', _, st, ec, fun b H2 R2 F2 G2 st2 w n2 s2 _ => ?_⟩
      obtain ⟨rfl, rfl⟩ := w
      rw [List.append_nil] at s2
      exact hQ σ' H2 R2 F2 st2 kp (s.trans s2)
    · rename_i ρ1 ec
      refine ⟨ρ', R', F', _, st, ec, fun b H2 R2 F2 G2 st2 w n2 s2 _ => ?_⟩
      obtain ⟨rfl, rfl⟩ := w
      rw [List.append_nil] at s2
      have s2' := s.trans s2
      refine ⟨fun σ3 H3 => ∃ ρ' R' F', Sta K R' H3 ρ' σ3 F' ∧ whileF c body m ρ' = some o ∧ Kept A σ σ3 ∧ Step R H F R' H3 F', fun σ3 H3 h3 => ⟨m, Nat.lt_succ_self _, h3⟩, ?_⟩
      split at e
      · cases e
      · rename_i ρ4 eb
        exact ⟨ρ1, R2, F2, _, st2, eb, fun σ4 H4 R4 F4 st4 kp4 s4 => ⟨ρ4, R4, F4, st4, e, kp.trans kp4, s2'.trans s4⟩⟩
      · rename_i ρ4 eb
        exact ⟨ρ1, R2, F2, _, st2, eb, fun σ4 H4 R4 F4 st4 kp4 s4 => ⟨ρ4, R4, F4, st4, e, kp.trans kp4, s2'.trans s4⟩⟩
      · rename_i ρ4 eb
        cases e
        exact ⟨ρ1, R2, F2, _, st2, eb, fun σ4 H4 R4 F4 st4 kp4 s4 => hQ σ4 H4 R4 F4 st4 (kp.trans kp4) (s2'.trans s4)⟩
      · rename_i ρ4 a eb
        cases e
        exact ⟨ρ1, R2, F2, _, st2, eb, fun σ4 v H4 R4 F4 Fv st4 kp4 w n4 s4 => hQ σ4 v H4 R4 F4 Fv st4 (kp.trans kp4) w n4 (s2'.trans s4)⟩
      · rename_i ρ4 x eb
        cases e
        exact ⟨ρ1, R2, F2, _, st2, eb, fun cc dx σ4 H4 R4 F4 st4 kp4 w s4 => hQ cc dx σ4 H4 R4 F4 st4 (kp.trans kp4) w (s2'.trans s4)⟩
end
end Den

/-! Defs and calls, by their meanings. -/
namespace Den
open PySem PySem.Spec PyProof.Rows L2

inductive Arg where
  | lent (i : Nat) | val (a : DV)
def Arg.bo : Arg → Bool
  | .val a => isBo a
  | .lent _ => false
def AsOk (K : PySem.W.Frag) (σ : L2.St) : RelT (List Arg) (List V)
  | _, _, [], vs, F => vs = [] ∧ F = []
  | R, H, .lent i :: as, vs, F => ∃ v vr, vs = v :: vr ∧ σ[i]? = some (some v) ∧ AsOk K σ R H as vr F
  | R, H, .val a :: as, vs, F => ∃ v vr F1 F2, vs = v :: vr ∧ F = F1 ++ F2 ∧ VOk K R H a v F1 ∧ AsOk K σ R H as vr F2
inductive FRes where
  | ret (a : DV) (outs : List (Sh × D)) | ex (x : Exn) (outs : List (Sh × D))
/-- the meaning of a def: from its arguments, as they are held -/
abbrev FDen := List (Sh × D) → Option FRes

section
variable (K : PySem.W.Frag) (mg : Str → Option Value) (W : WX)
abbrev tAs (pu : Bool) (den : Den (List Arg)) : TA := fun σ H Q => tG K mg W (AsOk K σ) pu den σ H Q
def SpD (n : Nat) (f : FDen) : Sp := fun vs H Q E => ∃ args R F r, Sta K R H (args.map some) (vs.map some) F ∧ args.length = n ∧ f args = some r ∧ match r with
  | .ret a outs => ∀ v H' R' F' Fv, Sta K R' H' (outs.map some) (vs.map some) F' → VOk K R' H' a v Fv → (F' ++ Fv).Nodup → Step R H F R' H' (F' ++ Fv) → Q v H'
  | .ex x outs => ∀ c dx H' R' F', Sta K R' H' (outs.map some) (vs.map some) F' → XOk K mg R' x c dx → Step R H F R' H' F' → E c dx H'
end

def takeAs : List Arg → Rho → Option (List (Sh × D) × Rho)
  | [], ρ => some ([], ρ)
  | .val (.sh s, d) :: as, ρ => match takeAs as ρ with
    | some (l, ρ') => some ((s, d) :: l, ρ')
    | none => none
  | .val (.bo, _) :: _, _ => none
  | .lent i :: as, ρ => match ρ[i]? with
    | some (some sd) => (match takeAs as (ρ.set i none) with
      | some (l, ρ') => some (sd :: l, ρ')
      | none => none)
    | _ => none
def giveAs : List Arg → List (Sh × D) → Rho → Rho
  | .lent i :: as, o :: os, ρ => (giveAs as os ρ).set i (some o)
  | .val _ :: as, _ :: os, ρ => giveAs as os ρ
  | _, _, ρ => ρ
def dCallF (n : Nat) (f : FDen) (das : Den (List Arg)) : Den DV := dBind das fun as ρ => match takeAs as ρ with
  | none => none
  | some (args, ρ') => if args.length ≠ n then none else match f args with
    | none => none
    | some (.ret a outs) => some (.ok (giveAs as outs ρ') a)
    | some (.ex x outs) => some (.ex (giveAs as outs ρ') x)
def dAsNil : Den (List Arg) := dRet []
def dAsV (i : Nat) (dr : Den (List Arg)) : Den (List Arg) := fun ρ => match ρ[i]? with
  | some (some (.im, d)) => dBind dr (fun as => dRet (.val (.sh .im, d) :: as)) ρ
  | some (some (.ow _, _)) => dBind dr (fun as => dRet (.lent i :: as)) ρ
  | _ => none
def dAsC (pr : Bool) (da : Den DV) (dr : Den (List Arg)) : Den (List Arg) := dBind da fun a => if (isBo a && !pr) = true then dFail else dBind dr fun as => dRet (.val a :: as)

section
variable {K : PySem.W.Frag} {R R' H H' : Hp} {F : List Addr} {σ : L2.St}
theorem AsOk.foot : ∀ {as : List Arg} {vs : List V} {F : List Addr}, AsOk K σ R H as vs F → ∀ x ∈ F, (∃ o, H x = some o) ∧ R x = none
  | [], _, _, ⟨_, e⟩, x, hx => by rw [e] at hx; cases hx
  | .lent i :: as, _, _, ⟨v, vr, _, _, t⟩, x, hx => AsOk.foot t x hx
  | .val a :: as, _, _, ⟨v, vr, F1, F2, _, e, h, t⟩, x, hx => by
    rw [e] at hx
    rcases List.mem_append.mp hx with hx | hx
    · exact h.foot x hx
    · exact AsOk.foot t x hx
theorem AsOk.frame (g : Sub R R') : ∀ {as : List Arg} {vs : List V} {F : List Addr}, AsOk K σ R H as vs F → (as.any Arg.bo = true → Sub H H') → (∀ x ∈ F, H' x = H x) → (∀ x ∈ F, R' x = none) → AsOk K σ R' H' as vs F
  | [], _, _, ⟨h1, h2⟩, _, _, _ => ⟨h1, h2⟩
  | .lent i :: as, _, _, ⟨v, vr, e1, e2, t⟩, hb, k, n => ⟨v, vr, e1, e2, AsOk.frame g t (fun q => hb (by rw [List.any_cons, q, Bool.or_true])) k n⟩
  | .val a :: as, _, _, ⟨v, vr, F1, F2, e1, e, h, t⟩, hb, k, n => by
    subst e
    refine ⟨v, vr, F1, F2, e1, rfl, h.frame g (fun q => hb (by rw [List.any_cons, show Arg.bo (.val a) = true from decide_eq_true q]; rfl)) (fun x hx => k x (List.mem_append_left _ hx)) fun x hx => n x (List.mem_append_left _ hx), ?_⟩
    exact AsOk.frame g t (fun q => hb (by rw [List.any_cons, q, Bool.or_true])) (fun x hx => k x (List.mem_append_right _ hx)) fun x hx => n x (List.mem_append_right _ hx)
theorem Frm.asok : Frm (AsOk K σ) (fun as => as.any Arg.bo) where
  foot := fun h => h.foot
  frame := fun h g hb k n => h.frame g hb k n
theorem take_ok : ∀ {as : List Arg} {ρ ρ' : Rho} {F G : List Addr} {vs : List V} {args : List (Sh × D)}, Slots K R H ρ σ F → AsOk K σ R H as vs G → takeAs as ρ = some (args, ρ') →
    ∃ F1 F2, Slots K R H (args.map some) (vs.map some) F1 ∧ Slots K R H ρ' σ F2 ∧ (F ++ G).Perm (F1 ++ F2)
  | [], ρ, ρ', F, G, vs, args, hS, ⟨e1, e2⟩, e => by
    cases e
    subst e1 e2
    exact ⟨[], F, ⟨rfl, rfl⟩, hS, by simp⟩
  | .val (.bo, _) :: _, _, _, _, _, _, _, _, _, e => by cases e
  | .val (.sh s, d) :: as, ρ, ρ', F, _, _, args, hS, ⟨v, vr, G1, G2, rfl, rfl, h, t⟩, e => by
    unfold takeAs at e
    split at e
    · rename_i l ρ2 e1
      cases e
      obtain ⟨F1, F2, h1, h2, h3⟩ := take_ok hS t e1
      refine ⟨G1 ++ F1, F2, ⟨v, vr.map some, G1, F1, rfl, rfl, h, h1⟩, h2, ?_⟩
      have p1 : (F ++ (G1 ++ G2)).Perm (G1 ++ (F ++ G2)) := by
        rw [← List.append_assoc, ← List.append_assoc]
        exact List.Perm.append_right G2 List.perm_append_comm
      rw [List.append_assoc]
      exact p1.trans (List.Perm.append_left G1 h3)
    · cases e
  | .lent i :: as, ρ, ρ', F, G, _, args, hS, ⟨v, vr, rfl, hv, t⟩, e => by
    unfold takeAs at e
    split at e
    · rename_i sd e0
      obtain ⟨s, d⟩ := sd
      split at e
      · rename_i l ρ2 e1
        cases e
        obtain ⟨v', Fi, Fr, k1, k2, k3, k4⟩ := hS.pick e0
        rw [hv] at k1; cases k1
        obtain ⟨F1, F2, h1, h2, h3⟩ := take_ok k3 t e1
        refine ⟨Fi ++ F1, F2, ⟨v, vr.map some, Fi, F1, rfl, rfl, k2, h1⟩, h2, ?_⟩
        rw [List.append_assoc]
        refine (List.Perm.append_right G k4).trans ?_
        rw [List.append_assoc]
        exact List.Perm.append_left Fi h3
      · cases e
    · cases e
theorem give_ok : ∀ {as : List Arg} {ρ' : Rho} {Fo F2 G : List Addr} {vs : List V} {outs : List (Sh × D)} {R0 H0 : Hp}, Slots K R H (outs.map some) (vs.map some) Fo → Slots K R H ρ' σ F2 → AsOk K σ R0 H0 as vs G → (Fo ++ F2).Nodup →
    ∃ F3, Slots K R H (giveAs as outs ρ') σ F3 ∧ (∀ x ∈ F3, x ∈ Fo ++ F2) ∧ F3.Nodup
  | [], ρ', Fo, F2, G, vs, outs, _, _, hO, hS, hA, n => by
    refine ⟨F2, ?_, fun x hx => List.mem_append_right _ hx, (List.nodup_append.mp n).2.1⟩
    cases outs <;> exact hS
  | .val a :: as, ρ', Fo, F2, _, vs, [], _, _, hO, hS, hA, n => by
    obtain ⟨v, vr, G1, G2, rfl, rfl, h, t⟩ := hA
    obtain ⟨e, _⟩ := hO
    cases e
  | .lent i :: as, ρ', Fo, F2, G, vs, [], _, _, hO, hS, hA, n => by
    obtain ⟨v, vr, rfl, hv, t⟩ := hA
    obtain ⟨e, _⟩ := hO
    cases e
  | .val a :: as, ρ', Fo, F2, _, vs, o :: os, _, _, hO, hS, hA, n => by
    obtain ⟨v, vr, G1, G2, rfl, rfl, h, t⟩ := hA
    obtain ⟨s, d⟩ := o
    obtain ⟨v', σ', K1, K2, e1, rfl, h1, h2⟩ := hO
    simp only [List.map_cons, List.cons.injEq, Option.some.injEq] at e1
    obtain ⟨rfl, rfl⟩ := e1
    obtain ⟨F3, g1, g2, g3⟩ := give_ok (as := as) h2 hS t (by
      rw [List.append_assoc] at n
      exact (List.nodup_append.mp n).2.1)
    exact ⟨F3, g1, fun x hx => by
      rcases List.mem_append.mp (g2 x hx) with z | z
      · exact List.mem_append_left _ (List.mem_append_right _ z)
      · exact List.mem_append_right _ z, g3⟩
  | .lent i :: as, ρ', Fo, F2, G, vs, o :: os, _, _, hO, hS, hA, n => by
    obtain ⟨v, vr, rfl, hv, t⟩ := hA
    obtain ⟨s, d⟩ := o
    obtain ⟨v', σ', K1, K2, e1, rfl, h1, h2⟩ := hO
    simp only [List.map_cons, List.cons.injEq, Option.some.injEq] at e1
    obtain ⟨rfl, rfl⟩ := e1
    rw [List.append_assoc] at n
    obtain ⟨n1, n2, n3⟩ := List.nodup_append.mp n
    obtain ⟨F3, g1, g2, g3⟩ := give_ok (as := as) h2 hS t n2
    have hi : i < (giveAs as os ρ').length := by
      rw [← g1.length]
      exact (List.getElem?_eq_some_iff.mp hv).1
    obtain ⟨F4, p1, p2, p3⟩ := g1.put hi h1
    rw [set_self hv] at p1
    refine ⟨F4, p1, fun x hx => ?_, p3 (List.nodup_append.mpr ⟨n1, g3, fun a ha b hb => n3 a ha b (g2 b hb)⟩)⟩
    rcases p2 x hx with z | z
    · exact List.mem_append_left _ (List.mem_append_left _ z)
    · rcases List.mem_append.mp (g2 x z) with z | z
      · exact List.mem_append_left _ (List.mem_append_right _ z)
      · exact List.mem_append_right _ z
end

section
variable {α β γ δ : Type} {K : PySem.W.Frag} {mg : Str → Option Value} {W : WX} {A : List Nat} {rel : RelT α β} {rel' : RelT γ δ} {pu pa pb pc pd : Bool} {R R1 H H1 : Hp} {F F1 G : List Addr} {ρ ρ1 : Rho} {σ σ1 : L2.St} {Q : VK} {d : D} {ds : List D} {vs : List V} {p : Addr}

theorem asNil_ok {Q : List V → Hp → Prop} (h : tAs K mg W true dAsNil σ H Q) : tNil σ H Q := by
  obtain ⟨ρ, R, F, res, hS, hden, hQ⟩ := h
  cases hden
  exact hQ [] H R F [] hS ⟨rfl, rfl⟩ (by rw [List.append_nil]; exact hS.nd) (by rw [List.append_nil]; exact .refl) fun _ => .refl
theorem asV_ok {i : Nat} {dr : Den (List Arg)} {Q : List V → Hp → Prop} (h : tAs K mg W pb (dAsV i dr) σ H Q) : tCons (tVar i) (tAs K mg W pb dr) σ H Q := by
  obtain ⟨ρ, R, F, res, hS, hden, hQ⟩ := h
  unfold dAsV at hden
  split at hden
  · rename_i d e
    obtain ⟨v, Fi, Fr, k1, k2, k3, k4⟩ := hS.slots.pick e
    refine ⟨v, k1, ?_⟩
    refine tG_bind (rel' := AsOk K σ) hS hden hQ fun ρ1 a u H1 R1 F1 G1 e1 st q n s p => ?_
    cases e1
    exact hQ (v :: u) H1 R1 F1 G1 st ⟨v, u, [], G1, rfl, rfl, ⟨rfl, k2.2.mono s.grow⟩, q⟩ n s p
  · rename_i s0 d e
    obtain ⟨v, Fi, Fr, k1, k2, k3, k4⟩ := hS.slots.pick e
    refine ⟨v, k1, ?_⟩
    refine tG_bind (rel' := AsOk K σ) hS hden hQ fun ρ1 a u H1 R1 F1 G1 e1 st q n s p => ?_
    cases e1
    exact hQ (v :: u) H1 R1 F1 G1 st ⟨v, u, rfl, k1, q⟩ n s p
  · cases hden
theorem asC_ok {da : Den DV} {dr : Den (List Arg)} {Q : List V → Hp → Prop} (h : tAs K mg W (pa && pb) (dAsC pb da dr) σ H Q) : tCons (tE K mg W pa da) (tAs K mg W pb dr) σ H Q := by
  obtain ⟨ρ, R, F, res, hS, hden, hQ⟩ := h
  refine tG_bind hS hden hQ fun ρ1 a v H1 R1 F1 G1 e st q n s p => ?_
  cases hga : (isBo a && !pb) with
  | true => rw [if_pos hga] at e; cases e
  | false =>
    rw [if_neg (by rw [hga]; exact Bool.false_ne_true)] at e
    have sl : Step R H F R1 H1 F1 := s.less fun x hx => List.mem_append_left _ hx
    have hQ1 := hQ.step sl fun z => p (Bool.and_eq_true_iff.mp z).1
    refine tG_bind (rel' := AsOk K σ) st e hQ1 fun ρ2 b u H2 R2 F2 G2 e2 st2 q2 n2 s2 p2 => ?_
    cases e2
    obtain ⟨v2, hd⟩ := Frm.vok.behind q n s2 fun z => p2 (by rw [z] at hga; simpa using hga)
    refine hQ (v :: u) H2 R2 F2 (G1 ++ G2) st2 ⟨v, u, G1, G2, rfl, rfl, v2, q2⟩ ?_ ⟨(sl.trans s2).keep, (sl.trans s2).grow, (sl.trans s2).rnew, fun x hx => ?_, (sl.trans s2).there⟩ fun z => (p (Bool.and_eq_true_iff.mp z).1).trans (p2 (Bool.and_eq_true_iff.mp z).2)
    · rw [List.nodup_append] at n n2 ⊢
      obtain ⟨a1, a2, a3⟩ := n
      obtain ⟨b1, b2, b3⟩ := n2
      refine ⟨b1, List.nodup_append.mpr ⟨a2, b2, fun x hx y hy => ?_⟩, fun x hx y hy => ?_⟩
      · rintro rfl; exact hd x hx (List.mem_append_right _ hy)
      · rcases List.mem_append.mp hy with hy | hy
        · rintro rfl; exact hd x hy (List.mem_append_left _ hx)
        · exact b3 x hx y hy
    · rcases List.mem_append.mp hx with hx | hx
      · exact (sl.trans s2).fnew x (List.mem_append_left _ hx)
      · rcases List.mem_append.mp hx with hx | hx
        · exact s.fnew x (List.mem_append_right _ hx)
        · exact (sl.trans s2).fnew x (List.mem_append_right _ hx)

/-- behind a call: the names, what was lent is back -/
theorem given {as : List Arg} {outs : List (Sh × D)} {ρ' : Rho} {G Fa Fr Fo : List Addr} {R' H' : Hp} (hS : Sta K R H ρ σ F) (hA : AsOk K σ R H as vs G) (n : (F ++ G).Nodup)
    (h2 : Slots K R H ρ' σ Fr) (hp : (F ++ G).Perm (Fa ++ Fr)) (so : Sta K R' H' (outs.map some) (vs.map some) Fo) {Fv : List Addr} (nv : (Fo ++ Fv).Nodup) (s : Step R H Fa R' H' (Fo ++ Fv)) :
    ∃ F3, Sta K R' H' (giveAs as outs ρ') σ F3 ∧ (F3 ++ Fv).Nodup ∧ Step R H (F ++ G) R' H' (F3 ++ Fv) := by
  have nd : (Fa ++ Fr).Nodup := hp.nodup_iff.mp n
  have hd : ∀ x ∈ Fr, x ∉ Fa := fun x hx hy => (List.nodup_append.mp nd).2.2 x hy x hx rfl
  obtain ⟨k1, k2, k3⟩ := s.away (fun x hx => h2.foot x hx) hd
  have h2' := h2.frame s.grow k1 k2
  have nOr : (Fo ++ Fr).Nodup := List.nodup_append.mpr ⟨so.nd, (List.nodup_append.mp nd).2.1, fun a ha b hb => by
    rintro rfl; exact k3 a hb (List.mem_append_left _ ha)⟩
  obtain ⟨F3, g1, g2, g3⟩ := give_ok so.slots h2' hA nOr
  have hm : ∀ x ∈ Fa, x ∈ F ++ G := fun x hx => hp.mem_iff.mpr (List.mem_append_left _ hx)
  refine ⟨F3, ⟨g1, so.sub, g3⟩, ?_, ?_⟩
  · refine List.nodup_append.mpr ⟨g3, (List.nodup_append.mp nv).2.1, fun a ha b hb => ?_⟩
    rintro rfl
    rcases List.mem_append.mp (g2 a ha) with z | z
    · exact (List.nodup_append.mp nv).2.2 a z a hb rfl
    · exact k3 a z (List.mem_append_right _ hb)
  · have s1 := s.more hm
    refine ⟨s1.keep, s1.grow, s1.rnew, fun x hx => ?_, s1.there⟩
    rcases List.mem_append.mp hx with z | z
    · rcases List.mem_append.mp (g2 x z) with z | z
      · exact s1.fnew x (List.mem_append_left _ z)
      · exact .inl (hp.mem_iff.mpr (List.mem_append_right _ z))
    · exact s1.fnew x (List.mem_append_right _ z)

theorem callF_ok {n : Nat} {f : FDen} {das : Den (List Arg)} (h : tE K mg W false (dCallF n f das) σ H Q) :
    tCallS (SpD K mg n f) (fun σ c d H => W c d σ H) (tAs K mg W pa das) σ H Q := by
  obtain ⟨ρ, R, F, res, hS, hden, hQ⟩ := h
  refine tG_bind (rel := AsOk K σ) hS hden hQ fun ρ1 as vs H1 R1 F1 G1 e st q n s p => ?_
  split at e
  · cases e
  rename_i args ρ' e1
  split at e
  · cases e
  rename_i hl
  have hl' := Decidable.of_not_not hl
  obtain ⟨Fa, Fr, h1, h2, hp⟩ := take_ok st.slots q e1
  have nd := hp.nodup_iff.mp n
  have sta : Sta K R1 H1 (args.map some) (vs.map some) Fa := ⟨h1, st.sub, (List.nodup_append.mp nd).1⟩
  split at e
  · cases e
  · rename_i a outs e2
    cases e
    refine ⟨args, R1, Fa, _, sta, hl', e2, fun v H' R' F' Fv so hv nv s2 => ?_⟩
    obtain ⟨F3, g1, g2, g3⟩ := given st q n h2 hp so nv s2
    exact hQ v H' R' F3 Fv g1 hv g2 (s.trans g3) fun z => by cases z
  · rename_i x outs e2
    cases e
    refine ⟨args, R1, Fa, _, sta, hl', e2, fun c dx H' R' F' so hx s2 => ?_⟩
    obtain ⟨F3, g1, g2, g3⟩ := given (Fv := []) st q n h2 hp so (by rw [List.append_nil]; exact so.nd) (by rw [List.append_nil]; exact s2)
    rw [List.append_nil] at g3
    exact hQ c dx H' R' F3 g1 hx (s.trans g3)

/-! ### a def by its body -/
def outsOf (A : List Nat) : Nat → List (Sh × D) → Rho → Option (List (Sh × D))
  | _, [], _ => some []
  | i, a :: as, x :: ρ => if i ∈ A then (if a.1 = .im then (outsOf A (i + 1) as ρ).map (a :: ·) else none) else (match x with
    | some sd => (outsOf A (i + 1) as ρ).map (sd :: ·)
    | none => none)
  | _, _ :: _, [] => none
theorem outs_ok {R' H' : Hp} (g : Sub R R') : ∀ {i : Nat} {as : List (Sh × D)} {ρ : Rho} {vs : List V} {σ' : L2.St} {F0 F' : List Addr} {os : List (Sh × D)}, Slots K R H (as.map some) (vs.map some) F0 → Slots K R' H' ρ σ' F' →
    (∀ j, i + j ∉ A → ∀ v, vs[j]? = some v → σ'[j]? = some (some v)) → outsOf A i as ρ = some os → ∃ F2, Slots K R' H' (os.map some) (vs.map some) F2 ∧ (∀ x ∈ F2, x ∈ F') ∧ (F'.Nodup → F2.Nodup)
  | i, [], ρ, vs, σ', F0, F', os, h0, h1, k, e => by
    cases e
    obtain ⟨e1, _⟩ := h0
    refine ⟨[], ?_, (fun _ h => by cases h), (fun _ => List.nodup_nil)⟩
    rw [e1]
    exact ⟨rfl, rfl⟩
  | i, a :: as, [], vs, σ', F0, F', os, h0, h1, k, e => by cases e
  | i, (s, d) :: as, x :: ρ, vs, σ', _, F', os, ⟨v, vr, K1, K2, e1, rfl, o1, t1⟩, h1, k, e => by
    cases vs with
    | nil => cases e1
    | cons v0 vs =>
    simp only [List.map_cons, List.cons.injEq, Option.some.injEq] at e1
    obtain ⟨rfl, rfl⟩ := e1
    unfold outsOf at e
    split at e
    · rename_i hA
      split at e
      · rename_i hs
        obtain ⟨os', e2, rfl⟩ := Option.map_eq_some_iff.mp e
        have hs' : s = .im := hs
        subst hs'
        have rest : ∃ σ2 G, Slots K R' H' ρ σ2 G ∧ (∃ y, σ' = y :: σ2) ∧ (∀ x ∈ G, x ∈ F') ∧ (F'.Nodup → G.Nodup) := by
          cases x with
          | none => obtain ⟨y, σ2, rfl, t⟩ := h1; exact ⟨σ2, _, t, ⟨y, rfl⟩, fun _ h => h, id⟩
          | some sd => obtain ⟨s', d'⟩ := sd; obtain ⟨w, σ2, L1, L2, rfl, rfl, _, t⟩ := h1; exact ⟨σ2, L2, t, ⟨_, rfl⟩, fun _ h => List.mem_append_right _ h, fun n => (List.nodup_append.mp n).2.1⟩
        obtain ⟨σ2, G, t, ⟨y, rfl⟩, sub, nd⟩ := rest
        obtain ⟨F2, a1, a2, a3⟩ := outs_ok g (i := i + 1) t1 t (fun j hj w hw => by
          have := k (j + 1) (by rw [← Nat.add_assoc, Nat.add_right_comm]; exact hj) w (by simpa using hw)
          simpa using this) e2
        exact ⟨F2, ⟨v0, vs.map some, [], F2, rfl, rfl, ⟨rfl, o1.2.mono g⟩, a1⟩, fun x hx => sub x (a2 x hx), fun n => a3 (nd n)⟩
      · cases e
    · rename_i hA
      cases x with
      | none => cases e
      | some sd =>
        obtain ⟨os', e2, rfl⟩ := Option.map_eq_some_iff.mp e
        obtain ⟨s', d'⟩ := sd
        obtain ⟨w, σ2, L1, L2, rfl, rfl, o, t⟩ := h1
        have hw := k 0 (by simpa using hA) v0 (by simp)
        simp at hw
        subst hw
        obtain ⟨F2, a1, a2, a3⟩ := outs_ok g (i := i + 1) t1 t (fun j hj w hw => by
          have := k (j + 1) (by rw [← Nat.add_assoc, Nat.add_right_comm]; exact hj) w (by simpa using hw)
          simpa using this) e2
        refine ⟨L1 ++ F2, ⟨w, vs.map some, L1, F2, rfl, rfl, o, a1⟩, fun x hx => ?_, fun n => ?_⟩
        · rcases List.mem_append.mp hx with z | z
          · exact List.mem_append_left _ z
          · exact List.mem_append_right _ (a2 x z)
        · obtain ⟨n1, n2, n3⟩ := List.nodup_append.mp n
          exact List.nodup_append.mpr ⟨n1, a3 n2, fun a ha b hb => n3 a ha b (a2 b hb)⟩
def fnDen (A : List Nat) (n N : Nat) (body : DenS) : FDen := fun args => match body (args.map some ++ List.replicate (N - n) none) with
  | some (.nx ρ) => (outsOf A 0 args ρ).map fun os => .ret (.sh .im, .non) os
  | some (.rt ρ a) => (outsOf A 0 args ρ).map fun os => .ret a os
  | some (.ex ρ x) => (outsOf A 0 args ρ).map fun os => .ex x os
  | _ => none
theorem slots_pad : ∀ {ρ : Rho} {σ : L2.St} {F : List Addr} (m : Nat), Slots K R H ρ σ F → Slots K R H (ρ ++ List.replicate m none) (σ ++ List.replicate m none) F
  | [], _, _, m, ⟨e1, e2⟩ => by
    subst e1 e2
    rw [List.nil_append, List.nil_append]
    induction m with
    | zero => exact ⟨rfl, rfl⟩
    | succ m ih => exact ⟨none, _, rfl, ih⟩
  | none :: ρ, _, _, m, ⟨x, σ', e, t⟩ => by rw [e]; exact ⟨x, _, rfl, slots_pad m t⟩
  | some (s, d) :: ρ, _, _, m, ⟨v, σ', F1, F2, e, e2, h, t⟩ => by rw [e]; exact ⟨v, _, F1, F2, rfl, e2, h, slots_pad m t⟩
end
section
variable {P : Program} {w : World} {K : PySem.W.Frag} {mg : Str → Option Value} {base : Heap}
theorem fn_ok {x qual : Str} {st : Stmt} {f : Addr} {fd : FuncData} {N ps : List Str} {k : Nat} {A : List Nat} {body : DenS} (F : L2.Fun K x qual st f fd) (S : FnScope N ps (defScope st))
    (hbody : ∀ (cdv : Value) (Ar : Around) (outer : List Env) (s : Shared) (H : Hp) (E : XK), Room k (Ar.deeper (envOfC qual (defScope st) s.heap.objs.size f cdv)) →
      Takes (cxOf (L2.CX P w) P w K mg base N qual (defScope st) f cdv Ar outer s H E) (fun c d _ H => E c d H) →
      PassesOwn (model P w) (cxOf (L2.CX P w) P w K mg base N qual (defScope st) f cdv Ar outer s H E).A (cxOf (L2.CX P w) P w K mg base N qual (defScope st) f cdv Ar outer s H E).env (cxOf (L2.CX P w) P w K mg base N qual (defScope st) f cdv Ar outer s H E).xe →
      PSs (cxOf (L2.CX P w) P w K mg base N qual (defScope st) f cdv Ar outer s H E) (defBody st) (tS K mg (fun c d _ H => E c d H) A body)) :
    FnOk P w K mg base (L2.CX P w) (k + 1) f fd ps (SpD K mg ps.length (fnDen A ps.length N.length body)) := by
  refine F.okX S (fun vs H Q E h => ?_) (fun cdv Ar outer s H vs Q E hr h => ⟨_, hbody cdv Ar outer s H E hr (takes_of (X := cxOf (L2.CX P w) P w K mg base N qual (defScope st) f cdv Ar outer s H E) rfl rfl rfl rfl) (passes_of (X := cxOf (L2.CX P w) P w K mg base N qual (defScope st) f cdv Ar outer s H E) rfl), ?_⟩)
  · obtain ⟨args, R, F, r, sta, hl, _⟩ := h
    have := sta.slots.length
    rw [List.length_map, List.length_map] at this
    omega
  · obtain ⟨args, R, F, r, sta, hl, e, q⟩ := h
    have hvl : vs.length = ps.length := by
      have := sta.slots.length
      rw [List.length_map, List.length_map] at this
      omega
    unfold fnDen at e
    have pad := slots_pad (N.length - ps.length) sta.slots
    have hst : L2.start N vs = vs.map some ++ List.replicate (N.length - ps.length) none := by unfold L2.start; rw [hvl]
    have keep : ∀ {σ' : L2.St}, Kept A (L2.start N vs) σ' → ∀ j, 0 + j ∉ A → ∀ v, vs[j]? = some v → σ'[j]? = some (some v) := fun kp j hj v hv => by
      rw [kp.2 j (by simpa using hj), hst, List.getElem?_append_left (by rw [List.length_map]; exact (List.getElem?_eq_some_iff.mp hv).1), List.getElem?_map, hv]
      rfl
    split at e
    · rename_i ρ eb
      obtain ⟨os, e2, rfl⟩ := Option.map_eq_some_iff.mp e
      refine ⟨_, R, F, _, ⟨by rw [hst]; exact pad, sta.sub, sta.nd⟩, eb, fun σ' H' R' F' st' kp s' => ?_⟩
      obtain ⟨F2, a1, a2, a3⟩ := outs_ok s'.grow sta.slots st'.slots (keep kp) e2
      exact q .non H' R' F2 [] ⟨a1, st'.sub, a3 st'.nd⟩ ⟨rfl, .non⟩ (by rw [List.append_nil]; exact a3 st'.nd) (by rw [List.append_nil]; exact s'.less a2)
    · rename_i ρ a eb
      obtain ⟨os, e2, rfl⟩ := Option.map_eq_some_iff.mp e
      refine ⟨_, R, F, _, ⟨by rw [hst]; exact pad, sta.sub, sta.nd⟩, eb, fun σ' v H' R' F' Fv st' kp hv nv s' => ?_⟩
      obtain ⟨F2, a1, a2, a3⟩ := outs_ok s'.grow sta.slots st'.slots (keep kp) e2
      obtain ⟨n1, n2, n3⟩ := List.nodup_append.mp nv
      refine q v H' R' F2 Fv ⟨a1, st'.sub, a3 n1⟩ hv (List.nodup_append.mpr ⟨a3 n1, n2, fun a ha b hb => n3 a (a2 a ha) b hb⟩) (s'.less fun x hx => ?_)
      rcases List.mem_append.mp hx with z | z
      · exact List.mem_append_left _ (a2 x z)
      · exact List.mem_append_right _ z
    · rename_i ρ x eb
      obtain ⟨os, e2, rfl⟩ := Option.map_eq_some_iff.mp e
      refine ⟨_, R, F, _, ⟨by rw [hst]; exact pad, sta.sub, sta.nd⟩, eb, fun c dx σ' H' R' F' st' kp hx s' => ?_⟩
      obtain ⟨F2, a1, a2, a3⟩ := outs_ok s'.grow sta.slots st'.slots (keep kp) e2
      exact q c dx H' R' F2 ⟨a1, st'.sub, a3 st'.nd⟩ hx (s'.less a2)
    · cases e
end
end Den

/-! Comprehensions; lists that are changed. -/
namespace Den
open PySem PySem.Spec PyProof.Rows L2

def W0 : WX := fun _ _ _ _ => False
def wipeR (ρ : Rho) : List Nat → Rho
  | [] => ρ
  | v :: vs => (wipeR ρ vs).set v none
/-- the names of own as they were, the others as they are -/
def mergeR (own : List Nat) : Nat → Rho → Rho → Rho
  | i, x :: r, y :: r' => (if i ∈ own then x else y) :: mergeR own (i + 1) r r'
  | _, _, _ => []
def ownIm (own : List Nat) : Nat → Rho → Bool
  | _, [] => true
  | i, x :: r => (if i ∈ own then (match x with | some (.ow _, _) => false | _ => true) else true) && ownIm own (i + 1) r
/-- is a value of this shape taken among members of shape k -/
def kidOk (k : Sh) (m : Md) : Bool := match k, m with
  | _, .bo => false
  | .im, _ => true
  | k, .sh s => decide (k = s)
def compF (own : List Nat) (k : Sh) (tg : DenG) (tt : Den Bool) (te : Den DV) : List D → Rho → List D → Option (Rho × List D)
  | [], ρ, acc => some (ρ, acc)
  | d :: ds, ρ, acc => match tg d ρ with
    | none => none
    | some ρ1 => match tt ρ1 with
      | some (.ok ρ2 false) => compF own k tg tt te ds (wipeR ρ2 own) acc
      | some (.ok ρ2 true) => (match te ρ2 with
        | some (.ok ρ3 a) => if kidOk k a.1 = true ∧ acc.length < sizeLine then compF own k tg tt te ds (wipeR ρ3 own) (acc ++ [a.2]) else none
        | _ => none)
      | _ => none
def dComp (own : List Nat) (k : Sh) (di : Den (List D)) (tg : DenG) (tt : Den Bool) (te : Den DV) : Den DV := dBind di fun ds ρ =>
  if ownIm own 0 ρ = true then (match compF own k tg tt te ds (wipeR ρ own) [] with
    | some (ρ', acc) => some (.ok (mergeR own 0 ρ ρ') (.sh (.ow k), .lst acc))
    | none => none) else none

section
variable {α β γ δ : Type} {K : PySem.W.Frag} {mg : Str → Option Value} {W : WX} {A : List Nat} {rel : RelT α β} {rel' : RelT γ δ} {pu pa pb pc pd : Bool} {R R' R1 H H' H1 : Hp} {F F1 G : List Addr} {ρ ρ1 : Rho} {σ σ1 : L2.St} {Q : VK} {d : D} {ds : List D} {vs : List V} {p : Addr}

theorem wipe_get : ∀ {vs : List Nat} {σ : L2.St} {j : Nat}, (wipe σ vs)[j]? = if j ∈ vs ∧ j < σ.length then some none else σ[j]?
  | [], σ, j => by simp [wipe]
  | v :: vs, σ, j => by
    unfold wipe
    by_cases e : v = j
    · subst e
      by_cases hl : v < σ.length
      · rw [List.getElem?_set_self (by rw [wipe_length]; exact hl), if_pos ⟨List.mem_cons_self, hl⟩]
      · rw [List.getElem?_eq_none (by rw [List.length_set, wipe_length]; omega), if_neg (fun z => hl z.2), List.getElem?_eq_none (by omega)]
    · rw [List.getElem?_set_ne e, wipe_get]
      simp [Ne.symm e]
theorem wipe_same {vs : List Nat} {a b : L2.St} (hl : a.length = b.length) (h : ∀ j, j ∉ vs → a[j]? = b[j]?) : wipe a vs = wipe b vs := by
  apply List.ext_getElem?
  intro j
  rw [wipe_get, wipe_get, hl]
  by_cases hj : j ∈ vs
  · by_cases hb : j < b.length
    · rw [if_pos ⟨hj, hb⟩, if_pos ⟨hj, hb⟩]
    · rw [if_neg (fun z => hb z.2), if_neg (fun z => hb z.2), List.getElem?_eq_none (by omega), List.getElem?_eq_none (by omega)]
  · rw [if_neg (fun z => hj z.1), if_neg (fun z => hj z.1), h j hj]
theorem wipe_wipe {vs : List Nat} {a : L2.St} : wipe (wipe a vs) vs = wipe a vs := wipe_same (wipe_length _ _) fun j hj => by rw [wipe_get, if_neg fun z => hj z.1]
theorem Slots.wipe : ∀ {vs : List Nat} {ρ : Rho} {σ : L2.St} {F : List Addr}, Slots K R H ρ σ F → ∃ F', Slots K R H (wipeR ρ vs) (L2.wipe σ vs) F' ∧ (∀ a ∈ F', a ∈ F) ∧ (F.Nodup → F'.Nodup)
  | [], ρ, σ, F, h => ⟨F, h, fun _ h => h, id⟩
  | v :: vs, ρ, σ, F, h => by
    obtain ⟨F1, h1, h2, h3⟩ := Slots.wipe (vs := vs) h
    obtain ⟨F2, g1, g2, g3⟩ := Slots.drop (i := v) none h1
    exact ⟨F2, g1, fun a ha => h2 a (g2 a ha), fun n => g3 (h3 n)⟩
theorem Sta.wipe {vs : List Nat} (h : Sta K R H ρ σ F) : ∃ F', Sta K R H (wipeR ρ vs) (L2.wipe σ vs) F' ∧ ∀ a ∈ F', a ∈ F := by
  obtain ⟨F', h1, h2, h3⟩ := h.slots.wipe (vs := vs)
  exact ⟨F', ⟨h1, h.sub, h3 h.nd⟩, h2⟩
theorem Slots.merge {own : List Nat} (g : Sub R R') : ∀ {i : Nat} {ρ ρ' : Rho} {σ σ' : L2.St} {F F' : List Addr}, Slots K R H ρ σ F → Slots K R' H' ρ' σ' F' → σ'.length = σ.length → ownIm own i ρ = true →
    (∀ j, i + j ∉ own → σ'[j]? = σ[j]?) → ∃ F2, Slots K R' H' (mergeR own i ρ ρ') σ F2 ∧ (∀ x ∈ F2, x ∈ F') ∧ (F'.Nodup → F2.Nodup)
  | i, [], ρ', σ, σ', F, F', h0, h1, hl, ho, k => by
    obtain ⟨e, _⟩ := h0
    subst e
    refine ⟨[], ?_, (fun _ h => by cases h), (fun _ => List.nodup_nil)⟩
    unfold mergeR
    exact ⟨rfl, rfl⟩
  | i, x :: ρ, [], σ, σ', F, F', h0, h1, hl, ho, k => by
    have a := h0.length
    have b := h1.length
    rw [List.length_cons] at a
    rw [List.length_nil] at b
    omega
  | i, x :: ρ, y :: ρ', σ, σ', F, F', h0, h1, hl, ho, k => by
    unfold ownIm at ho
    rw [Bool.and_eq_true] at ho
    have r0 : ∃ v σ2 G, σ = v :: σ2 ∧ Slots K R H ρ σ2 G := by
      cases x with
      | none => obtain ⟨v, σ2, e, t⟩ := h0; exact ⟨v, σ2, _, e, t⟩
      | some sd => obtain ⟨s, d⟩ := sd; obtain ⟨v, σ2, L1, L2, e, _, _, t⟩ := h0; exact ⟨some v, σ2, L2, e, t⟩
    have r1 : ∃ v σ2 G, σ' = v :: σ2 ∧ Slots K R' H' ρ' σ2 G ∧ (∀ a ∈ G, a ∈ F') ∧ (F'.Nodup → G.Nodup) := by
      cases y with
      | none => obtain ⟨v, σ2, e, t⟩ := h1; exact ⟨v, σ2, _, e, t, fun _ h => h, id⟩
      | some sd => obtain ⟨s, d⟩ := sd; obtain ⟨v, σ2, L1, L2, e, e2, _, t⟩ := h1; subst e2; exact ⟨some v, σ2, L2, e, t, fun _ h => List.mem_append_right _ h, fun n => (List.nodup_append.mp n).2.1⟩
    obtain ⟨v0, σ2, G0, rfl, t0⟩ := r0
    obtain ⟨v1, σ3, G1, rfl, t1, sub1, nd1⟩ := r1
    obtain ⟨F2, a1, a2, a3⟩ := Slots.merge g (i := i + 1) t0 t1 (by simpa using hl) ho.2 (fun j hj => by
      have := k (j + 1) (by rw [← Nat.add_assoc, Nat.add_right_comm]; exact hj)
      simpa using this)
    unfold mergeR
    by_cases hi : i ∈ own
    · rw [if_pos hi]
      cases x with
      | none => exact ⟨F2, ⟨v0, σ2, rfl, a1⟩, fun x hx => sub1 x (a2 x hx), fun n => a3 (nd1 n)⟩
      | some sd =>
        obtain ⟨s, d⟩ := sd
        cases s with
        | ow s => have h9 := ho.1; rw [if_pos hi] at h9; cases h9
        | im =>
          obtain ⟨v, σ4, L1, L2, e, _, o, _⟩ := h0
          cases e
          exact ⟨F2, ⟨v, σ2, [], F2, rfl, rfl, ⟨rfl, o.2.mono g⟩, a1⟩, fun x hx => sub1 x (a2 x hx), fun n => a3 (nd1 n)⟩
    · rw [if_neg hi]
      have e01 : v1 = v0 := by simpa using k 0 (by simpa using hi)
      subst e01
      cases y with
      | none => exact ⟨F2, ⟨v1, σ2, rfl, a1⟩, fun x hx => sub1 x (a2 x hx), fun n => a3 (nd1 n)⟩
      | some sd =>
        obtain ⟨s, d⟩ := sd
        obtain ⟨w, σ5, L1, L2, e, rfl, o, t5⟩ := h1
        cases e
        obtain ⟨F3, b1, b2, b3⟩ := Slots.merge g (i := i + 1) t0 t5 (by simpa using hl) ho.2 (fun j hj => by
          have := k (j + 1) (by rw [← Nat.add_assoc, Nat.add_right_comm]; exact hj)
          simpa using this)
        refine ⟨L1 ++ F3, ⟨w, σ2, L1, F3, rfl, rfl, o, b1⟩, fun x hx => ?_, fun n => ?_⟩
        · rcases List.mem_append.mp hx with z | z
          · exact List.mem_append_left _ z
          · exact List.mem_append_right _ (b2 x z)
        · obtain ⟨n1, n2, n3⟩ := List.nodup_append.mp n
          exact List.nodup_append.mpr ⟨n1, b3 n2, fun a ha b hb => n3 a ha b (b2 b hb)⟩

theorem OwnL.append {f : D → V → List Addr → Prop} : ∀ {ds es : List D} {vs ws : List V} {F G : List Addr}, OwnL f ds vs F → OwnL f es ws G → OwnL f (ds ++ es) (vs ++ ws) (F ++ G)
  | [], _, _, _, _, _, ⟨e1, e2⟩, h => by rw [e1, e2]; exact h
  | d :: ds, _, _, _, _, _, ⟨v, vr, F1, F2, rfl, rfl, h1, t⟩, h => ⟨v, vr ++ _, F1, F2 ++ _, rfl, by rw [List.append_assoc], h1, OwnL.append t h⟩
theorem OwnL.foot {s : Sh} : ∀ {ds : List D} {vs : List V} {F : List Addr}, OwnL (Own K R H s) ds vs F → ∀ x ∈ F, (∃ o, H x = some o) ∧ R x = none
  | [], _, _, ⟨_, e⟩, x, hx => by rw [e] at hx; cases hx
  | d :: ds, _, _, ⟨v, vr, F1, F2, _, rfl, h1, t⟩, x, hx => by
    rcases List.mem_append.mp hx with z | z
    · exact h1.foot x z
    · exact OwnL.foot t x z
theorem OwnL.frame {s : Sh} (g : Sub R R') {ds : List D} {vs : List V} {F : List Addr} (h : OwnL (Own K R H s) ds vs F) (k : ∀ x ∈ F, H' x = H x) (n : ∀ x ∈ F, R' x = none) : OwnL (Own K R' H' s) ds vs F :=
  OwnL.imp (fun d v G hG q => q.frame g (fun x hx => k x (hG x hx)) fun x hx => n x (hG x hx)) h
/-- a value as a member of shape k: the ground may grow by it -/
theorem VOk.kid {a : DV} {v : V} {k : Sh} (g : Sub R H) (h : VOk K R H a v G) (hk : kidOk k a.1 = true) : ∃ R' G', Own K R' H k a.2 v G' ∧ Sub R R' ∧ Sub R' H ∧ (∀ x ∈ G', x ∈ G) ∧ (∀ x, x ∉ G → R' x = R x) ∧ (G.Nodup → G'.Nodup) ∧ (∀ x ∈ G', R' x = none) := by
  obtain ⟨m, d⟩ := a
  cases m with
  | bo => cases k <;> cases hk
  | sh s =>
    cases k with
    | im => exact ⟨ext R H G, [], ⟨rfl, h.freeze g (by simp)⟩, ext_sub g, sub_ext g, fun _ h => (by cases h), fun x hx => ext_out hx, fun _ => List.nodup_nil, fun _ h => (by cases h)⟩
    | ow k =>
      have e : Sh.ow k = s := of_decide_eq_true hk
      subst e
      exact ⟨R, G, h, .refl, g, fun _ h => h, fun _ _ => rfl, id, fun x hx => (h.foot x hx).2⟩

theorem comp_ok {own : List Nat} {k : Sh} {di : Den (List D)} {tg : DenG} {tt : Den Bool} {te : Den DV} (h : tE K mg W (pa && (pb && pc)) (dComp own k di tg tt te) σ H Q) :
    tLc (tI K mg W pa di) (gOf K own tg) (tT K mg W0 pb tt) (tE K mg W0 pc te) own σ H Q := by
  obtain ⟨ρ, R, F, res, hS, hden, hQ⟩ := h
  refine tG_bind hS hden hQ fun ρ1 ds J H1 R1 F1 G1 e st q n s pp => ?_
  obtain ⟨f, rfl⟩ := q
  rw [List.append_nil] at s
  have hQ1 := hQ.step s fun z => pp (Bool.and_eq_true_iff.mp z).1
  split at e
  rotate_left
  · cases e
  rename_i ho
  split at e
  rotate_left
  · cases e
  rename_i ρe acc ec
  cases e
  intro DD hDD
  obtain ⟨Fw, stw, subw⟩ := st.wipe (vs := own)
  have dF1 : DD ∉ F1 := fun hm => by
    obtain ⟨⟨u, e⟩, _⟩ := st.slots.foot DD hm
    rw [hDD] at e; cases e
  -- the invariant
  refine ⟨fun i m H2 => m = ds.length - i ∧ i ≤ ds.length ∧ ∃ ρ' R' F' acc' vs' Fk, Sta K R' H2 ρ' (L2.wipe σ own) F' ∧ compF own k tg tt te (ds.drop i) ρ' acc' = some (ρe, acc) ∧ H2 DD = some (.lst vs') ∧ R' DD = none ∧
    OwnL (Own K R' H2 k) acc' vs' Fk ∧ (F' ++ DD :: Fk).Nodup ∧ Step R1 H1 F1 R' H2 (F' ++ DD :: Fk) ∧ ((pb && pc) = true → Sub H1 H2), ⟨ds.length, by simp, Nat.zero_le _, wipeR ρ1 own, R1, Fw, [], [], [], stw.fresh hDD, ec, upd_same, st.none_of hDD, ⟨rfl, rfl⟩, ?_, ?_, ?_⟩, ?_⟩
  · exact List.nodup_append.mpr ⟨stw.nd, by simp, fun a ha b hb => by
      rw [List.mem_singleton.mp hb]; rintro rfl; exact dF1 (subw _ ha)⟩
  · exact .fresh hDD fun a ha => by
      rcases List.mem_append.mp ha with z | z
      · exact .inl (subw a z)
      · exact .inr (List.mem_singleton.mp z)
  · exact fun _ => .upd hDD
  rintro i m H2 ⟨rfl, hi, ρ', R', F', acc', vs', Fk, st', e', hD2, hRD, hO, nd, s', pu'⟩
  have f' := f.mono s'.grow
  have ndF := List.nodup_append.mp nd
  have hDF : DD ∉ F' := fun z => ndF.2.2 DD z DD List.mem_cons_self rfl
  have hDk : DD ∉ Fk := fun z => (List.nodup_cons.mp ndF.2.1).1 z
  by_cases hlt : i < ds.length
  · -- a turn
    refine .inr ⟨f'.go H2 i st'.sub hlt, fun H3 => i + 1 ≤ ds.length ∧ ∃ ρ' R' F' acc' vs' Fk, Sta K R' H3 ρ' (L2.wipe σ own) F' ∧ compF own k tg tt te (ds.drop (i + 1)) ρ' acc' = some (ρe, acc) ∧ H3 DD = some (.lst vs') ∧ R' DD = none ∧
      OwnL (Own K R' H3 k) acc' vs' Fk ∧ (F' ++ DD :: Fk).Nodup ∧ Step R1 H1 F1 R' H3 (F' ++ DD :: Fk) ∧ ((pb && pc) = true → Sub H1 H3), fun H3 h3 => ⟨ds.length - (i + 1), by omega, rfl, h3⟩, fun x H3 y => ?_⟩
    obtain ⟨d, hd, hx⟩ := f'.yld H2 i x H3 st'.sub hlt y
    have hdrop : ds.drop i = d :: ds.drop (i + 1) := by
      obtain ⟨h1, h2⟩ := List.getElem?_eq_some_iff.mp hd
      rw [List.drop_eq_getElem_cons h1, h2]
    rw [hdrop] at e'
    unfold compF at e'
    split at e'
    · cases e'
    rename_i ρ2 etg
    -- the item is plain
    obtain ⟨R2, st2, hx2, s2, sub23⟩ : ∃ R2, Sta K R2 H3 ρ' (L2.wipe σ own) F' ∧ At K R2 x d ∧ Step R' H2 F' R2 H3 F' ∧ Sub H2 H3 := by
      rcases hx with ⟨e1, h1⟩ | ⟨T, vs, es, rfl, hT, rfl, rfl, h1⟩
      · subst e1; exact ⟨R', st', h1, .refl, .refl⟩
      · exact ⟨_, st'.grow hT, .tup (.inl (.inl upd_same)) (h1.mono (.upd (st'.none_of hT))), .grown hT (st'.none_of hT), .upd hT⟩
    -- what is kept besides: the new list and its members
    have ft : ∀ x ∈ DD :: Fk, (∃ o, H2 x = some o) ∧ R' x = none := fun x hx => by
      rcases List.mem_cons.mp hx with rfl | z
      · exact ⟨⟨_, hD2⟩, hRD⟩
      · exact hO.foot x z
    have away0 : ∀ x ∈ DD :: Fk, x ∉ F' := fun x hx z => ndF.2.2 x z x hx rfl
    refine ⟨ρ', R2, F', d, ρ2, st2, hx2, etg, fun σ3 F3 st3 kp3 sub3 => ⟨?_, ?_⟩⟩
    · rw [wipe_same kp3.1 fun j hj => kp3.2 j hj, wipe_wipe]
    · have s23 : Step R' H2 F' R2 H3 F3 := s2.less sub3
      have hw3 : L2.wipe σ3 own = L2.wipe σ own := by rw [wipe_same kp3.1 fun j hj => kp3.2 j hj, wipe_wipe]
      split at e'
      · -- the test falls
        rename_i ρ4 eb
        refine ⟨ρ2, R2, F3, _, st3, eb, fun b H4 R4 F4 G4 st4 w n4 s4 p4 => ?_⟩
        obtain ⟨rfl, rfl⟩ := w
        rw [List.append_nil] at s4
        rw [if_neg Bool.false_ne_true]
        have s24 := s23.trans s4
        obtain ⟨k1, k2, k3⟩ := s24.away ft away0
        obtain ⟨F5, st5, sub5⟩ := st4.wipe (vs := own)
        rw [hw3] at st5
        refine ⟨hlt, wipeR ρ4 own, R4, F5, acc', vs', Fk, st5, e', (k1 DD List.mem_cons_self).trans hD2, k2 DD List.mem_cons_self, hO.frame s24.grow (fun x hx => k1 x (List.mem_cons_of_mem _ hx)) (fun x hx => k2 x (List.mem_cons_of_mem _ hx)), ?_, (s'.side s24).less fun x hx => ?_, fun z => (pu' z).trans (sub23.trans (p4 (Bool.and_eq_true_iff.mp z).1))⟩
        · exact List.nodup_append.mpr ⟨st5.nd, ndF.2.1, fun a ha b hb => by rintro rfl; exact k3 a hb (sub5 a ha)⟩
        · rcases List.mem_append.mp hx with z | z
          · exact List.mem_append_left _ (sub5 x z)
          · exact List.mem_append_right _ z
      · -- the test holds
        rename_i ρ4 eb
        refine ⟨ρ2, R2, F3, _, st3, eb, fun b H4 R4 F4 G4 st4 w n4 s4 p4 => ?_⟩
        obtain ⟨rfl, rfl⟩ := w
        rw [List.append_nil] at s4
        rw [if_pos rfl]
        split at e'
        rotate_left
        · cases e'
        rename_i ρ5 a ea
        split at e'
        rotate_left
        · cases e'
        rename_i hk
        refine ⟨ρ4, R4, F4, _, st4, ea, fun y H5 R5 F5 G5 st5 hv n5 s5 p5 => ?_⟩
        have s25 : Step R' H2 F' R5 H5 (F5 ++ G5) := (s23.trans s4).trans s5
        obtain ⟨k1, k2, k3⟩ := s25.away ft away0
        obtain ⟨R6, G6, o6, g1, g2, g3, g4, g5, g6⟩ := hv.kid st5.sub hk.1
        have hD5 : H5 DD = some (.lst vs') := (k1 DD List.mem_cons_self).trans hD2
        have nDG : DD ∉ G5 := fun z => k3 DD List.mem_cons_self (List.mem_append_right _ z)
        have nDF : DD ∉ F5 := fun z => k3 DD List.mem_cons_self (List.mem_append_left _ z)
        have hR6 : R6 DD = none := by rw [g4 DD nDG]; exact k2 DD List.mem_cons_self
        refine ⟨vs', hD5, by rw [OwnL.length hO]; exact hk.2, hlt, ?_⟩
        obtain ⟨F7, st7, sub7⟩ := st5.wipe (vs := own)
        have hw5 : L2.wipe σ3 own = L2.wipe σ own := hw3
        rw [hw5] at st7
        have nd5 := List.nodup_append.mp n5
        have out5 : ∀ x ∈ F7, x ∉ G5 := fun x hx z => nd5.2.2 x (sub7 x hx) x z rfl
        have ne7 : ∀ x ∈ F7, x ≠ DD := fun x hx e => nDF (e ▸ sub7 x hx)
        have ne6 : ∀ x ∈ G6, x ≠ DD := fun x hx e => nDG (e ▸ g3 x hx)
        have nek : ∀ x ∈ Fk, x ≠ DD := fun x hx e => hDk (e ▸ hx)
        have kg : ∀ x ∈ Fk, x ∉ G5 := fun x hx z => k3 x (List.mem_cons_of_mem _ hx) (List.mem_append_right _ z)
        have sub6 : Sub R6 (upd H5 DD (.lst (vs' ++ [y]))) := fun x o q => by
          have hx : x ≠ DD := fun e => by subst e; rw [hR6] at q; cases q
          rw [upd_ne hx]; exact g2 x o q
        refine ⟨wipeR ρ5 own, R6, F7, acc' ++ [a.2], vs' ++ [y], Fk ++ G6, st7.frame g1 sub6 (fun x hx => upd_ne (ne7 x hx)) (fun x hx => by rw [g4 x (out5 x hx)]; exact (st7.slots.foot x hx).2), e', upd_same, hR6, ?_, ?_, ?_, ?_⟩
        · refine OwnL.append (hO.frame (s25.grow.trans g1) (fun x hx => by rw [upd_ne (nek x hx)]; exact k1 x (List.mem_cons_of_mem _ hx)) fun x hx => by rw [g4 x (kg x hx)]; exact k2 x (List.mem_cons_of_mem _ hx)) ?_
          exact ⟨y, [], G6, [], rfl, by rw [List.append_nil], o6.frame .refl (fun x hx => upd_ne (ne6 x hx)) g6, rfl, rfl⟩
        · refine List.nodup_append.mpr ⟨st7.nd, List.nodup_cons.mpr ⟨fun z => ?_, List.nodup_append.mpr ⟨(List.nodup_cons.mp ndF.2.1).2, g5 nd5.2.1, fun a ha b hb => by rintro rfl; exact kg a ha (g3 a hb)⟩⟩, fun a ha b hb => ?_⟩
          · rcases List.mem_append.mp z with z | z
            · exact hDk z
            · exact nDG (g3 DD z)
          · rintro rfl
            rcases List.mem_cons.mp hb with z | z
            · exact ne7 a ha z
            · rcases List.mem_append.mp z with z | z
              · exact k3 a (List.mem_cons_of_mem _ z) (List.mem_append_left _ (sub7 a ha))
              · exact out5 a ha (g3 a z)
        · have s15 := s'.side s25
          have h1n : ∀ x, R6 x ≠ R5 x → x ∈ G5 := fun x hx => Decidable.byContradiction fun z => hx (g4 x z)
          refine ⟨fun x o e n => ?_, s15.grow.trans g1, fun x o q => ?_, fun x hx => ?_, fun x o e => ?_⟩
          · have hx : x ≠ DD := ne_of_none e hDD
            rw [upd_ne hx]; exact s15.keep x o e n
          · by_cases hx : x ∈ G5
            · rcases s15.fnew x (List.mem_append_left _ (List.mem_append_right _ hx)) with z | z
              · exact .inr (.inl z)
              · exact .inr (.inr z)
            · rw [g4 x hx] at q; exact s15.rnew x o q
          · rcases List.mem_append.mp hx with z | z
            · exact s15.fnew x (List.mem_append_left _ (List.mem_append_left _ (sub7 x z)))
            · rcases List.mem_cons.mp z with z | z
              · exact s15.fnew x (List.mem_append_right _ (by rw [z]; exact List.mem_cons_self))
              · rcases List.mem_append.mp z with z | z
                · exact s15.fnew x (List.mem_append_right _ (List.mem_cons_of_mem _ z))
                · exact s15.fnew x (List.mem_append_left _ (List.mem_append_right _ (g3 x z)))
          · by_cases hx : x = DD
            · subst hx; exact ⟨_, upd_same⟩
            · rw [upd_ne hx]; exact s15.there x o e
        · intro z
          have h15 := ((pu' z).trans (sub23.trans (p4 (Bool.and_eq_true_iff.mp z).1))).trans (p5 (Bool.and_eq_true_iff.mp z).2)
          intro x o e
          rw [upd_ne (ne_of_none e hDD)]
          exact h15 x o e
      · cases e'
  · have ei : i = ds.length := by omega
    subst ei
    rw [List.drop_length] at e'
    cases e'
    refine .inl ⟨f'.stop H2 _ st'.sub (Nat.le_refl _), ?_⟩
    obtain ⟨F2, a1, a2, a3⟩ := Slots.merge (own := own) (i := 0) s'.grow st.slots st'.slots (wipe_length _ _) ho fun j hj => by
      rw [wipe_get, if_neg fun z => hj (by simpa using z.1)]
    refine hQ1 (.ref DD) H2 R' F2 (DD :: Fk) ⟨a1, st'.sub, a3 st'.nd⟩ ⟨DD, vs', Fk, rfl, rfl, hD2, hRD, hO⟩ ?_ (s'.less fun x hx => ?_) fun z => pu' (Bool.and_eq_true_iff.mp z).2
    · exact List.nodup_append.mpr ⟨a3 st'.nd, ndF.2.1, fun a ha b hb => ndF.2.2 a (a2 a ha) b hb⟩
    · rcases List.mem_append.mp hx with z | z
      · exact List.mem_append_left _ (a2 x z)
      · exact List.mem_append_right _ z
end
end Den

/-! Comprehensions of two walks. -/
namespace Den
open PySem PySem.Spec PyProof.Rows L2
def comp2F (own vs1 : List Nat) (k : Sh) (tg : DenG) (tt : Den Bool) (di1 : Den (List D)) (tg1 : DenG) (tt1 : Den Bool) (te : Den DV) : List D → Rho → List D → Option (Rho × List D)
  | [], ρ, acc => some (ρ, acc)
  | d :: ds, ρ, acc => match tg d ρ with
    | none => none
    | some ρ1 => match tt ρ1 with
      | some (.ok ρ2 false) => comp2F own vs1 k tg tt di1 tg1 tt1 te ds (wipeR ρ2 own) acc
      | some (.ok ρ2 true) => (match di1 ρ2 with
        | some (.ok ρ3 ds1) => (match compF vs1 k tg1 tt1 te ds1 (wipeR ρ3 vs1) acc with
          | some (ρ4, acc') => comp2F own vs1 k tg tt di1 tg1 tt1 te ds (wipeR ρ4 own) acc'
          | none => none)
        | _ => none)
      | _ => none
def dComp2 (own vs1 : List Nat) (k : Sh) (di : Den (List D)) (tg : DenG) (tt : Den Bool) (di1 : Den (List D)) (tg1 : DenG) (tt1 : Den Bool) (te : Den DV) : Den DV := dBind di fun ds ρ =>
  if ownIm own 0 ρ = true then (match comp2F own vs1 k tg tt di1 tg1 tt1 te ds (wipeR ρ own) [] with
    | some (ρ', acc) => some (.ok (mergeR own 0 ρ ρ') (.sh (.ow k), .lst acc))
    | none => none) else none
section
variable {α β γ δ : Type} {K : PySem.W.Frag} {mg : Str → Option Value} {W : WX} {A : List Nat} {rel : RelT α β} {rel' : RelT γ δ} {pu pa pb pc pd pe pz : Bool} {R R' R1 R2 H H' H1 H2 H3 : Hp} {F F1 G : List Addr} {ρ ρ1 ρ2 ρ' : Rho} {σ σ1 σ' : L2.St} {Q : VK} {d : D} {ds acc : List D} {vs : List V} {p DD : Addr} {k : Sh}
/-- within a comprehension: the state, the new list at DD and its members besides -/
def CI (K : PySem.W.Frag) (k : Sh) (R1 H1 : Hp) (F1 : List Addr) (DD : Addr) (pz : Bool) (ρ' : Rho) (σ' : L2.St) (acc : List D) (R' H2 : Hp) : Prop := ∃ F' vs' Fk, Sta K R' H2 ρ' σ' F' ∧ H2 DD = some (.lst vs') ∧ R' DD = none ∧
  OwnL (Own K R' H2 k) acc vs' Fk ∧ (F' ++ DD :: Fk).Nodup ∧ Step R1 H1 F1 R' H2 (F' ++ DD :: Fk) ∧ (pz = true → Sub H1 H2)
theorem CI.sub (c : CI K k R1 H1 F1 DD pz ρ' σ' acc R' H2) : Sub R' H2 := by obtain ⟨_, _, _, st, _⟩ := c; exact st.sub
/-- a step of the names' own -/
theorem CI.step {F3 : List Addr} (hS : ∀ F', Sta K R' H2 ρ' σ' F' → ∃ F3, Sta K R2 H3 ρ2 σ1 F3 ∧ Step R' H2 F' R2 H3 F3 ∧ (pz = true → Sub H2 H3)) (c : CI K k R1 H1 F1 DD pz ρ' σ' acc R' H2) : CI K k R1 H1 F1 DD pz ρ2 σ1 acc R2 H3 := by
  obtain ⟨F', vs', Fk, st, hD, hR, hO, nd, s, pp⟩ := c
  obtain ⟨F3, st3, s3, p3⟩ := hS F' st
  have ndF := List.nodup_append.mp nd
  have ft : ∀ x ∈ DD :: Fk, (∃ o, H2 x = some o) ∧ R' x = none := fun x hx => by
    rcases List.mem_cons.mp hx with rfl | z
    · exact ⟨⟨_, hD⟩, hR⟩
    · exact hO.foot x z
  obtain ⟨k1, k2, k3⟩ := s3.away ft fun x hx z => ndF.2.2 x z x hx rfl
  exact ⟨F3, vs', Fk, st3, (k1 DD List.mem_cons_self).trans hD, k2 DD List.mem_cons_self, hO.frame s3.grow (fun x hx => k1 x (List.mem_cons_of_mem _ hx)) (fun x hx => k2 x (List.mem_cons_of_mem _ hx)),
    List.nodup_append.mpr ⟨st3.nd, ndF.2.1, fun a ha b hb => by rintro rfl; exact k3 a hb ha⟩, s.side s3, fun z => (pp z).trans (p3 z)⟩
theorem CI.wipe {vs : List Nat} (c : CI K k R1 H1 F1 DD pz ρ' σ' acc R' H2) : CI K k R1 H1 F1 DD pz (wipeR ρ' vs) (L2.wipe σ' vs) acc R' H2 :=
  c.step (F3 := []) fun F' st => by
    obtain ⟨F3, h1, h2⟩ := st.wipe (vs := vs)
    exact ⟨F3, h1, Step.refl.less h2, fun _ => .refl⟩
/-- a piece without what is owned -/
theorem CI.piece {den : Den α} {a : α} {Q : β → Hp → Prop} (c : CI K k R1 H1 F1 DD pz ρ' σ' acc R' H2) (e : den ρ' = some (.ok ρ2 a)) (hF : ∀ {R H a v F}, rel R H a v F → F = []) (hp : pz = true → pa = true)
    (go : ∀ v R3 H3, rel R3 H3 a v [] → CI K k R1 H1 F1 DD pz ρ2 σ' acc R3 H3 → Sub R' R3 → Q v H3) : tG K mg W0 rel pa den σ' H2 Q := by
  have c0 := c
  obtain ⟨F', vs', Fk, st, hD, hR, hO, nd, s, pp⟩ := c
  refine ⟨ρ', R', F', _, st, e, fun v H3 R3 F3 G3 st3 w n3 s3 p3 => ?_⟩
  have hg := hF w
  subst hg
  rw [List.append_nil] at s3
  have ndF := List.nodup_append.mp nd
  have ft : ∀ x ∈ DD :: Fk, (∃ o, H2 x = some o) ∧ R' x = none := fun x hx => by
    rcases List.mem_cons.mp hx with rfl | z
    · exact ⟨⟨_, hD⟩, hR⟩
    · exact hO.foot x z
  obtain ⟨k1, k2, k3⟩ := s3.away ft fun x hx z => ndF.2.2 x z x hx rfl
  exact go v R3 H3 w ⟨F3, vs', Fk, st3, (k1 DD List.mem_cons_self).trans hD, k2 DD List.mem_cons_self, hO.frame s3.grow (fun x hx => k1 x (List.mem_cons_of_mem _ hx)) (fun x hx => k2 x (List.mem_cons_of_mem _ hx)),
    List.nodup_append.mpr ⟨st3.nd, ndF.2.1, fun a ha b hb => by rintro rfl; exact k3 a hb ha⟩, s.side s3, fun z => (pp z).trans (p3 (hp z))⟩ s3.grow
theorem CI.item {J : It} {i : Nat} {x : V} (c : CI K k R1 H1 F1 DD pz ρ' σ' acc R' H2) (f : Feeds K J R' ds) (hi : i < ds.length) (y : J.yld i H2 x H3) : ∃ d R2, ds[i]? = some d ∧ CI K k R1 H1 F1 DD pz ρ' σ' acc R2 H3 ∧ At K R2 x d ∧ Sub R' R2 := by
  obtain ⟨d, hd, hx⟩ := f.yld H2 i x H3 c.sub hi y
  rcases hx with ⟨e1, h1⟩ | ⟨T, vs, es, rfl, hT, rfl, rfl, h1⟩
  · subst e1; exact ⟨d, R', hd, c, h1, .refl⟩
  · have hr : R' T = none := by
      obtain ⟨_, _, _, st, _⟩ := c
      exact st.none_of hT
    refine ⟨_, _, hd, c.step (F3 := []) fun F' st => ⟨F', st.grow hT, .grown hT hr, fun _ => .upd hT⟩, .tup (.inl (.inl upd_same)) (h1.mono (.upd hr)), .upd hr⟩
theorem CI.tgt {tg : DenG} {x : V} {Q : L2.St → Hp → Prop} (c : CI K k R1 H1 F1 DD pz ρ' σ' acc R' H2) (q : At K R' x d) (e : tg d ρ' = some ρ2) (go : ∀ σ3, CI K k R1 H1 F1 DD pz ρ2 σ3 acc R' H2 → Kept A σ' σ3 → Q σ3 H2) : gOf K A tg x σ' H2 Q := by
  have c0 := c
  obtain ⟨F', vs', Fk, st, hD, hR, hO, nd, s, pp⟩ := c
  have ndF := List.nodup_append.mp nd
  refine ⟨ρ', R', F', d, ρ2, st, q, e, fun σ3 F3 st3 kp sub => go σ3 ⟨F3, vs', Fk, st3, hD, hR, hO, List.nodup_append.mpr ⟨st3.nd, ndF.2.1, fun a ha b hb => ndF.2.2 a (sub a ha) b hb⟩, s.less fun x hx => ?_, pp⟩ kp⟩
  rcases List.mem_append.mp hx with z | z
  · exact List.mem_append_left _ (sub x z)
  · exact List.mem_append_right _ z
theorem CI.elem {te : Den DV} {a : DV} {N : Hp → Prop} (hDD : H1 DD = none) (c : CI K k R1 H1 F1 DD pz ρ' σ' acc R' H2) (ea : te ρ' = some (.ok ρ2 a)) (hk : kidOk k a.1 = true) (hl : acc.length < sizeLine) (hp : pz = true → pc = true)
    (go : ∀ R6 H6, CI K k R1 H1 F1 DD pz ρ2 σ' (acc ++ [a.2]) R6 H6 → Sub R' R6 → N H6) : tE K mg W0 pc te σ' H2 fun y H4 => ∃ acc, H4 DD = some (.lst acc) ∧ acc.length < sizeLine ∧ N (upd H4 DD (.lst (acc ++ [y]))) := by
  obtain ⟨F', vs', Fk, st', hD2, hRD, hO, nd, s', pu'⟩ := c
  have ndF := List.nodup_append.mp nd
  have hDF : DD ∉ F' := fun z => ndF.2.2 DD z DD List.mem_cons_self rfl
  have hDk : DD ∉ Fk := fun z => (List.nodup_cons.mp ndF.2.1).1 z
  have ft : ∀ x ∈ DD :: Fk, (∃ o, H2 x = some o) ∧ R' x = none := fun x hx => by
    rcases List.mem_cons.mp hx with rfl | z
    · exact ⟨⟨_, hD2⟩, hRD⟩
    · exact hO.foot x z
  refine ⟨ρ', R', F', _, st', ea, fun y H5 R5 F5 G5 st5 hv n5 s25 p5 => ?_⟩
  obtain ⟨k1, k2, k3⟩ := s25.away ft fun x hx z => ndF.2.2 x z x hx rfl
  obtain ⟨R6, G6, o6, g1, g2, g3, g4, g5, g6⟩ := hv.kid st5.sub hk
  have hD5 : H5 DD = some (.lst vs') := (k1 DD List.mem_cons_self).trans hD2
  have nDG : DD ∉ G5 := fun z => k3 DD List.mem_cons_self (List.mem_append_right _ z)
  have nDF : DD ∉ F5 := fun z => k3 DD List.mem_cons_self (List.mem_append_left _ z)
  have hR6 : R6 DD = none := by rw [g4 DD nDG]; exact k2 DD List.mem_cons_self
  refine ⟨vs', hD5, by rw [OwnL.length hO]; exact hl, go R6 _ ?_ (s25.grow.trans g1)⟩
  have nd5 := List.nodup_append.mp n5
  have out5 : ∀ x ∈ F5, x ∉ G5 := fun x hx z => nd5.2.2 x hx x z rfl
  have ne7 : ∀ x ∈ F5, x ≠ DD := fun x hx e => nDF (e ▸ hx)
  have ne6 : ∀ x ∈ G6, x ≠ DD := fun x hx e => nDG (e ▸ g3 x hx)
  have nek : ∀ x ∈ Fk, x ≠ DD := fun x hx e => hDk (e ▸ hx)
  have kg : ∀ x ∈ Fk, x ∉ G5 := fun x hx z => k3 x (List.mem_cons_of_mem _ hx) (List.mem_append_right _ z)
  have sub6 : Sub R6 (upd H5 DD (.lst (vs' ++ [y]))) := fun x o q => by
    have hx : x ≠ DD := fun e => by subst e; rw [hR6] at q; cases q
    rw [upd_ne hx]; exact g2 x o q
  refine ⟨F5, vs' ++ [y], Fk ++ G6, st5.frame g1 sub6 (fun x hx => upd_ne (ne7 x hx)) (fun x hx => by rw [g4 x (out5 x hx)]; exact (st5.slots.foot x hx).2), upd_same, hR6, ?_, ?_, ?_, ?_⟩
  · refine OwnL.append (hO.frame (s25.grow.trans g1) (fun x hx => by rw [upd_ne (nek x hx)]; exact k1 x (List.mem_cons_of_mem _ hx)) fun x hx => by rw [g4 x (kg x hx)]; exact k2 x (List.mem_cons_of_mem _ hx)) ?_
    exact ⟨y, [], G6, [], rfl, by rw [List.append_nil], o6.frame .refl (fun x hx => upd_ne (ne6 x hx)) g6, rfl, rfl⟩
  · refine List.nodup_append.mpr ⟨st5.nd, List.nodup_cons.mpr ⟨fun z => ?_, List.nodup_append.mpr ⟨(List.nodup_cons.mp ndF.2.1).2, g5 nd5.2.1, fun a ha b hb => by rintro rfl; exact kg a ha (g3 a hb)⟩⟩, fun a ha b hb => ?_⟩
    · rcases List.mem_append.mp z with z | z
      · exact hDk z
      · exact nDG (g3 DD z)
    · rintro rfl
      rcases List.mem_cons.mp hb with z | z
      · exact ne7 a ha z
      · rcases List.mem_append.mp z with z | z
        · exact k3 a (List.mem_cons_of_mem _ z) (List.mem_append_left _ ha)
        · exact out5 a ha (g3 a z)
  · have s15 := s'.side s25
    refine ⟨fun x o e n => ?_, s15.grow.trans g1, fun x o q => ?_, fun x hx => ?_, fun x o e => ?_⟩
    · have hx : x ≠ DD := ne_of_none e hDD
      rw [upd_ne hx]; exact s15.keep x o e n
    · by_cases hx : x ∈ G5
      · rcases s15.fnew x (List.mem_append_left _ (List.mem_append_right _ hx)) with z | z
        · exact .inr (.inl z)
        · exact .inr (.inr z)
      · rw [g4 x hx] at q; exact s15.rnew x o q
    · rcases List.mem_append.mp hx with z | z
      · exact s15.fnew x (List.mem_append_left _ (List.mem_append_left _ z))
      · rcases List.mem_cons.mp z with z | z
        · exact s15.fnew x (List.mem_append_right _ (by rw [z]; exact List.mem_cons_self))
        · rcases List.mem_append.mp z with z | z
          · exact s15.fnew x (List.mem_append_right _ (List.mem_cons_of_mem _ z))
          · exact s15.fnew x (List.mem_append_left _ (List.mem_append_right _ (g3 x z)))
    · by_cases hx : x = DD
      · subst hx; exact ⟨_, upd_same⟩
      · rw [upd_ne hx]; exact s15.there x o e
  · intro z
    have h15 := (pu' z).trans (p5 (hp z))
    intro x o e
    rw [upd_ne (ne_of_none e hDD)]
    exact h15 x o e
theorem drop_at {i : Nat} (hd : ds[i]? = some d) : ds.drop i = d :: ds.drop (i + 1) := by
  obtain ⟨h1, h2⟩ := List.getElem?_eq_some_iff.mp hd
  rw [List.drop_eq_getElem_cons h1, h2]
theorem comp2_ok {own vs1 : List Nat} {k : Sh} {di di1 : Den (List D)} {tg tg1 : DenG} {tt tt1 : Den Bool} {te : Den DV} (hv : ∀ i ∈ vs1, i ∈ own) (h : tE K mg W (pa && (pb && (pc && (pd && pe)))) (dComp2 own vs1 k di tg tt di1 tg1 tt1 te) σ H Q) :
    tLc2 (tI K mg W pa di) (gOf K own tg) (tT K mg W0 pb tt) (tI K mg W0 pc di1) (gOf K vs1 tg1) (tT K mg W0 pd tt1) (tE K mg W0 pe te) own vs1 σ H Q := by
  obtain ⟨ρ, R, F, res, hS, hden, hQ⟩ := h
  refine tG_bind hS hden hQ fun ρ1 ds J H1 R1 F1 G1 e st q n s pp => ?_
  obtain ⟨f, rfl⟩ := q
  rw [List.append_nil] at s
  have hQ1 := hQ.step s fun z => pp (Bool.and_eq_true_iff.mp z).1
  split at e
  rotate_left
  · cases e
  rename_i ho
  split at e
  rotate_left
  · cases e
  rename_i ρe acc ec
  cases e
  intro DD hDD
  obtain ⟨Fw, stw, subw⟩ := st.wipe (vs := own)
  have dF1 : DD ∉ F1 := fun hm => by
    obtain ⟨⟨u, e⟩, _⟩ := st.slots.foot DD hm
    rw [hDD] at e; cases e
  have c0 : CI K k R1 H1 F1 DD (pb && (pc && (pd && pe))) (wipeR ρ1 own) (L2.wipe σ own) [] R1 (upd H1 DD (.lst [])) := by
    refine ⟨Fw, [], [], stw.fresh hDD, upd_same, st.none_of hDD, ⟨rfl, rfl⟩, ?_, ?_, fun _ => .upd hDD⟩
    · exact List.nodup_append.mpr ⟨stw.nd, by simp, fun a ha b hb => by
        rw [List.mem_singleton.mp hb]; rintro rfl; exact dF1 (subw _ ha)⟩
    · exact .fresh hDD fun a ha => by
        rcases List.mem_append.mp ha with z | z
        · exact .inl (subw a z)
        · exact .inr (List.mem_singleton.mp z)
  have pB : (pb && (pc && (pd && pe))) = true → pb = true ∧ pc = true ∧ pd = true ∧ pe = true := fun z => by
    simpa [Bool.and_eq_true] using z
  refine ⟨fun i m H2 => m = ds.length - i ∧ i ≤ ds.length ∧ ∃ ρ' R' acc', CI K k R1 H1 F1 DD (pb && (pc && (pd && pe))) ρ' (L2.wipe σ own) acc' R' H2 ∧ Sub R1 R' ∧ comp2F own vs1 k tg tt di1 tg1 tt1 te (ds.drop i) ρ' acc' = some (ρe, acc),
    ⟨ds.length, by simp, Nat.zero_le _, _, R1, [], c0, .refl, ec⟩, ?_⟩
  rintro i m H2 ⟨rfl, hi, ρ', R', acc', c, g, e'⟩
  have f' := f.mono g
  by_cases hlt : i < ds.length
  · refine .inr ⟨f'.go H2 i c.sub hlt, fun H3 => i + 1 ≤ ds.length ∧ ∃ ρ' R' acc', CI K k R1 H1 F1 DD (pb && (pc && (pd && pe))) ρ' (L2.wipe σ own) acc' R' H3 ∧ Sub R1 R' ∧ comp2F own vs1 k tg tt di1 tg1 tt1 te (ds.drop (i + 1)) ρ' acc' = some (ρe, acc), fun H3 h3 => ⟨ds.length - (i + 1), by omega, rfl, h3⟩, fun x H3 y => ?_⟩
    obtain ⟨d, R2, hd, c2, qx, g2⟩ := c.item f' hlt y
    rw [drop_at hd] at e'
    unfold comp2F at e'
    split at e'
    · cases e'
    rename_i ρ2 etg
    refine c2.tgt qx etg fun σ3 c3 kp => ⟨by rw [wipe_same kp.1 fun j hj => kp.2 j hj, wipe_wipe], ?_⟩
    have hw3 : L2.wipe σ3 own = L2.wipe σ own := by rw [wipe_same kp.1 fun j hj => kp.2 j hj, wipe_wipe]
    split at e'
    · rename_i ρ4 eb
      refine c3.piece eb (fun h => h.2) (fun z => (pB z).1) fun b R4 H4 w c4 g4 => ?_
      obtain ⟨rfl, _⟩ := w
      rw [if_neg Bool.false_ne_true]
      exact ⟨hlt, _, R4, acc', by rw [← hw3]; exact c4.wipe, (g.trans g2).trans g4, e'⟩
    · rename_i ρ4 eb
      refine c3.piece eb (fun h => h.2) (fun z => (pB z).1) fun b R4 H4 w c4 g4 => ?_
      obtain ⟨rfl, _⟩ := w
      rw [if_pos rfl]
      split at e'
      rotate_left
      · cases e'
      rename_i ρ5 ds1 e5
      split at e'
      rotate_left
      · cases e'
      rename_i ρ6 acc6 e6
      refine c4.piece e5 (fun h => h.2) (fun z => (pB z).2.1) fun J1 R5 H5 f5 c5 g5 => ?_
      have f5' := f5.1
      -- the inner walk
      refine ⟨fun i1 m1 H6 => m1 = ds1.length - i1 ∧ i1 ≤ ds1.length ∧ ∃ ρ7 R7 acc7, CI K k R1 H1 F1 DD (pb && (pc && (pd && pe))) ρ7 (L2.wipe σ3 vs1) acc7 R7 H6 ∧ Sub R5 R7 ∧ compF vs1 k tg1 tt1 te (ds1.drop i1) ρ7 acc7 = some (ρ6, acc6),
        ⟨ds1.length, by simp, Nat.zero_le _, _, R5, acc', c5.wipe, .refl, e6⟩, ?_⟩
      rintro i1 m1 H6 ⟨rfl, hi1, ρ7, R7, acc7, c7, g7, e7⟩
      have f7 := f5'.mono g7
      have gR : Sub R1 R7 := (((g.trans g2).trans g4).trans g5).trans g7
      by_cases hlt1 : i1 < ds1.length
      · refine .inr ⟨f7.go H6 i1 c7.sub hlt1, fun H8 => i1 + 1 ≤ ds1.length ∧ ∃ ρ7 R7 acc7, CI K k R1 H1 F1 DD (pb && (pc && (pd && pe))) ρ7 (L2.wipe σ3 vs1) acc7 R7 H8 ∧ Sub R5 R7 ∧ compF vs1 k tg1 tt1 te (ds1.drop (i1 + 1)) ρ7 acc7 = some (ρ6, acc6), fun H8 h8 => ⟨ds1.length - (i1 + 1), by omega, rfl, h8⟩, fun x1 H8 y1 => ?_⟩
        obtain ⟨d1, R8, hd1, c8, qx1, g8⟩ := c7.item f7 hlt1 y1
        rw [drop_at hd1] at e7
        unfold compF at e7
        split at e7
        · cases e7
        rename_i ρ9 etg1
        refine c8.tgt qx1 etg1 fun σ9 c9 kp9 => ⟨by rw [wipe_same kp9.1 fun j hj => kp9.2 j hj, wipe_wipe], ?_⟩
        have hw9 : L2.wipe σ9 vs1 = L2.wipe σ3 vs1 := by rw [wipe_same kp9.1 fun j hj => kp9.2 j hj, wipe_wipe]
        split at e7
        · rename_i ρ10 eb1
          refine c9.piece eb1 (fun h => h.2) (fun z => (pB z).2.2.1) fun b R10 H10 w c10 g10 => ?_
          obtain ⟨rfl, _⟩ := w
          rw [if_neg Bool.false_ne_true]
          exact ⟨hlt1, _, R10, acc7, by rw [← hw9]; exact c10.wipe, (g7.trans g8).trans g10, e7⟩
        · rename_i ρ10 eb1
          refine c9.piece eb1 (fun h => h.2) (fun z => (pB z).2.2.1) fun b R10 H10 w c10 g10 => ?_
          obtain ⟨rfl, _⟩ := w
          rw [if_pos rfl]
          split at e7
          rotate_left
          · cases e7
          rename_i ρ11 a ea
          split at e7
          rotate_left
          · cases e7
          rename_i hk
          exact CI.elem (N := fun H8 => i1 + 1 ≤ ds1.length ∧ ∃ ρ7 R7 acc7, CI K k R1 H1 F1 DD (pb && (pc && (pd && pe))) ρ7 (L2.wipe σ3 vs1) acc7 R7 H8 ∧ Sub R5 R7 ∧ compF vs1 k tg1 tt1 te (ds1.drop (i1 + 1)) ρ7 acc7 = some (ρ6, acc6)) hDD c10 ea hk.1 hk.2 (fun z => (pB z).2.2.2) fun R12 H12 c12 g12 => ⟨hlt1, _, R12, _, by rw [← hw9]; exact c12.wipe, ((g7.trans g8).trans g10).trans g12, e7⟩
        · cases e7
      · have ei : i1 = ds1.length := by omega
        subst ei
        rw [List.drop_length] at e7
        cases e7
        refine .inl ⟨f7.stop H6 _ c7.sub (Nat.le_refl _), hlt, _, R7, _, ?_, gR, e'⟩
        have cw := c7.wipe (vs := own)
        have hww : L2.wipe (L2.wipe σ3 vs1) own = L2.wipe σ own := by
          rw [← hw3]
          exact wipe_same (wipe_length _ _) fun j hj => by rw [wipe_get, if_neg fun z => hj (hv j z.1)]
        rw [hww] at cw
        exact cw
    · cases e'
  · have ei : i = ds.length := by omega
    subst ei
    rw [List.drop_length] at e'
    cases e'
    refine .inl ⟨f'.stop H2 _ c.sub (Nat.le_refl _), ?_⟩
    obtain ⟨F', vs', Fk, st', hD2, hRD, hO, nd, s', pu'⟩ := c
    have ndF := List.nodup_append.mp nd
    obtain ⟨F2, a1, a2, a3⟩ := Slots.merge (own := own) (i := 0) s'.grow st.slots st'.slots (wipe_length _ _) ho fun j hj => by
      rw [wipe_get, if_neg fun z => hj (by simpa using z.1)]
    refine hQ1 (.ref DD) H2 R' F2 (DD :: Fk) ⟨a1, st'.sub, a3 st'.nd⟩ ⟨DD, vs', Fk, rfl, rfl, hD2, hRD, hO⟩ ?_ (s'.less fun x hx => ?_) fun z => pu' (Bool.and_eq_true_iff.mp z).2
    · exact List.nodup_append.mpr ⟨a3 st'.nd, ndF.2.1, fun a ha b hb => ndF.2.2 a (a2 a ha) b hb⟩
    · rcases List.mem_append.mp hx with z | z
      · exact List.mem_append_left _ (a2 x z)
      · exact List.mem_append_right _ z
end
end Den

/-! Lists that are changed. -/
namespace Den
open PySem PySem.Spec PyProof.Rows L2
section
variable {α β γ δ : Type} {K : PySem.W.Frag} {mg : Str → Option Value} {W : WX} {A : List Nat} {rel : RelT α β} {rel' : RelT γ δ} {pu pa pb pc pd : Bool} {R R' R1 H H' H1 : Hp} {F F1 G : List Addr} {ρ ρ1 : Rho} {σ σ1 : L2.St} {Q : VK} {d : D} {ds : List D} {vs : List V} {p : Addr} {T : Ends}
/-- an owned list of a name, to be changed -/
theorem Sta.relist {i : Nat} {k : Sh} (hS : Sta K R H ρ σ F) (e : ρ[i]? = some (some (.ow k, .lst ds))) :
    ∃ (p : Addr) (vs : List V) (Fk Fr : List Addr), σ[i]? = some (some (.ref p)) ∧ H p = some (.lst vs) ∧ R p = none ∧ p ∈ F ∧ OwnL (Own K R H k) ds vs Fk ∧ (∀ x ∈ Fk, x ∈ F) ∧ (p :: Fk).Nodup ∧ (∀ x ∈ Fr, x ∈ F) ∧ (∀ x ∈ p :: Fk, x ∉ Fr) ∧
      ∀ (R' : Hp) (k' : Sh) (ds' : List D) (vs' : List V) (G : List Addr), Sub R R' → Sub R' H → R' p = none → (∀ x ∈ Fr, R' x = none) → OwnL (Own K R' (upd H p (.lst vs')) k') ds' vs' G → (p :: G).Nodup → (∀ x ∈ G, x ∉ Fr) →
        ∃ F', Sta K R' (upd H p (.lst vs')) (ρ.set i (some (.ow k', .lst ds'))) σ F' ∧ ∀ x ∈ F', x ∈ F ∨ x ∈ G := by
  obtain ⟨v, F1, Fr, h1, h2, h3, h4⟩ := hS.slots.pick e
  obtain ⟨p, vs, Fk, rfl, rfl, hp, hn, hO⟩ := h2
  have nd := h4.nodup_iff.mp hS.nd
  have mem : ∀ x, x ∈ F ↔ x ∈ p :: Fk ++ Fr := fun x => h4.mem_iff
  have dis : ∀ x ∈ p :: Fk, x ∉ Fr := fun x hx hy => (List.nodup_append.mp nd).2.2 x hx x hy rfl
  refine ⟨p, vs, Fk, Fr, h1, hp, hn, (mem p).mpr (by simp), hO, fun x hx => (mem x).mpr (by simp [hx]), (List.nodup_append.mp nd).1, fun x hx => (mem x).mpr (by simp [hx]), dis, ?_⟩
  intro R' k' ds' vs' G g1 g2 hR hr hO' nG dG
  have hpr : p ∉ Fr := dis p List.mem_cons_self
  have st : Sta K R' (upd H p (.lst vs')) (ρ.set i none) σ Fr := by
    refine ⟨h3.frame g1 (fun a ha => upd_ne fun z => hpr (z ▸ ha)) hr, fun a o q => ?_, (List.nodup_append.mp nd).2.1⟩
    have : a ≠ p := fun z => by subst z; rw [hR] at q; cases q
    rw [upd_ne this]; exact g2 a o q
  have hi : i < (ρ.set i none).length := by rw [List.length_set]; exact (List.getElem?_eq_some_iff.mp e).1
  obtain ⟨F', p1, p2, p3⟩ := st.slots.put (s := .ow k') (d := .lst ds') (v := .ref p) (G := p :: G) hi ⟨p, vs', G, rfl, rfl, upd_same, hR, hO'⟩
  rw [set_set, set_self h1] at p1
  refine ⟨F', ⟨p1, st.sub, p3 (List.nodup_append.mpr ⟨nG, st.nd, fun a ha b hb => ?_⟩)⟩, fun x hx => ?_⟩
  · rintro rfl
    rcases List.mem_cons.mp ha with z | z
    · exact hpr (z ▸ hb)
    · exact dG a z hb
  · rcases p2 x hx with z | z
    · rcases List.mem_cons.mp z with z | z
      · exact .inl (z ▸ (mem p).mpr (by simp))
      · exact .inr z
    · exact .inl ((mem x).mpr (by simp [z]))
theorem Step.relist {F' : List Addr} {vs' : List V} (hp : p ∈ F) (g : Sub R R') (hn : ∀ x o, R' x = some o → R x = some o ∨ x ∈ F) (hf : ∀ x ∈ F', x ∈ F) {o : HO} (hH : H p = some o) : Step R H F R' (upd H p (.lst vs')) F' where
  keep := fun a u e n => by
    have z : a ≠ p := fun z => n (z ▸ hp)
    rw [upd_ne z]; exact e
  grow := g
  rnew := fun a u e => (hn a u e).imp id .inl
  fnew := fun a ha => .inl (hf a ha)
  there := fun a u e => by
    by_cases z : a = p
    · subst z; exact ⟨_, upd_same⟩
    · exact ⟨u, by rw [upd_ne z]; exact e⟩

/-! ### append -/
def sAppend (ks : Sh) (i : Nat) (da : Den DV) : DenS := fun ρ => match ρ[i]? with
  | some (some (.ow _, .lst _)) => sBind da (fun a ρ1 => match ρ1[i]? with
    | some (some (.ow k, .lst ds)) => if kidOk ks a.1 = true ∧ ds.length < sizeLine ∧ (k = ks ∨ ds = []) then some (.nx (ρ1.set i (some (.ow ks, .lst (ds ++ [a.2]))))) else none
    | _ => none) ρ
  | _ => none
theorem append_ok {ks : Sh} {i : Nat} {da : Den DV} (h : tS K mg W A (sAppend ks i da) T σ H) : tDrop (tBM K "list" rAppend (tVar i) (tCons (tE K mg W pa da) tNil)) T σ H := by
  obtain ⟨ρ, R, F, o, hS, hden, hQ⟩ := h
  unfold sAppend at hden
  split at hden
  rotate_left
  · cases hden
  rename_i k0 ds0 e0
  obtain ⟨v0, La, Lb, a1, a2, _⟩ := hS.slots.pick e0
  refine ⟨v0, a1, ?_, ?_⟩
  · obtain ⟨p, vs, F2, rfl, _, h, _⟩ := a2
    exact .inl ⟨rfl, vs, SqL.of h⟩
  refine tS_bind hS hden hQ fun ρ1 a v H1 R1 F1 G1 e st q n s pp => ?_
  split at e
  rotate_left
  · cases e
  rename_i k ds e1
  split at e
  rotate_left
  · cases e
  rename_i hc
  cases e
  obtain ⟨hk, hl, hks⟩ := hc
  obtain ⟨p, vs, Fk, Fr, h1, h2, h3, h4, h5, h6, h7, h8, h9, put⟩ := st.relist e1
  rw [a1] at h1; cases h1
  obtain ⟨R6, G6, o6, g1, g2, g3, g4, g5, g6⟩ := q.kid st.sub hk
  have dG : ∀ x ∈ G1, x ∉ F1 := nd_out n
  have nd := List.nodup_append.mp n
  have pG : p ∉ G1 := fun z => dG p z h4
  have hO : OwnL (Own K R6 (upd H1 p (.lst (vs ++ [v]))) ks) (ds ++ [a.2]) (vs ++ [v]) (Fk ++ G6) := by
    have o6' := o6.frame .refl (H' := upd H1 p (.lst (vs ++ [v]))) (fun x hx => upd_ne fun z => pG (z ▸ g3 x hx)) g6
    rcases hks with rfl | rfl
    · refine OwnL.append (h5.frame g1 (fun x hx => upd_ne fun z => (List.nodup_cons.mp h7).1 (z ▸ hx)) fun x hx => ?_) ⟨v, [], G6, [], rfl, by rw [List.append_nil], o6', rfl, rfl⟩
      rw [g4 x fun z => dG x z (h6 x hx)]; exact (h5.foot x hx).2
    · obtain ⟨rfl, rfl⟩ := h5
      exact ⟨v, [], G6, [], rfl, by simp, o6', rfl, rfl⟩
  obtain ⟨F', st', sub'⟩ := put R6 ks (ds ++ [a.2]) (vs ++ [v]) (Fk ++ G6) g1 g2 (by rw [g4 p pG]; exact h3) (fun x hx => by rw [g4 x fun z => dG x z (h8 x hx)]; exact (st.slots.foot x (h8 x hx)).2) hO (by
      obtain ⟨n1, n2⟩ := List.nodup_cons.mp h7
      refine List.nodup_cons.mpr ⟨fun z => ?_, List.nodup_append.mpr ⟨n2, g5 nd.2.1, fun a ha b hb => ?_⟩⟩
      · rcases List.mem_append.mp z with z | z
        · exact n1 z
        · exact pG (g3 p z)
      · rintro rfl; exact dG a (g3 a hb) (h6 a ha)) (fun x hx => by
      rcases List.mem_append.mp hx with z | z
      · exact h9 x (List.mem_cons_of_mem _ z)
      · exact fun w => dG x (g3 x z) (h8 x w))
  refine ⟨p, vs, v, rfl, rfl, h2, by rw [OwnL.length h5]; exact hl, ?_⟩
  refine hQ σ _ R6 F' st' .refl (s.trans (.relist (List.mem_append_left _ h4) g1 (fun x o q => ?_) (fun x hx => ?_) h2))
  · by_cases hx : x ∈ G1
    · exact .inr (List.mem_append_right _ hx)
    · rw [g4 x hx] at q; exact .inl q
  · rcases sub' x hx with z | z
    · exact List.mem_append_left _ z
    · rcases List.mem_append.mp z with z | z
      · exact List.mem_append_left _ (h6 x z)
      · exact List.mem_append_right _ (g3 x z)

/-! ### pop, of plain members -/
theorem kids_im : ∀ {ds : List D} {vs : List V} {F : List Addr}, OwnL (Own K R H .im) ds vs F → F = [] ∧ AtAll K R vs ds
  | [], _, _, ⟨e1, e2⟩ => by rw [e1, e2]; exact ⟨rfl, .nil⟩
  | d :: ds, _, _, ⟨v, vr, F1, F2, rfl, rfl, ⟨e1, h1⟩, t⟩ => by
    obtain ⟨e2, h2⟩ := kids_im t
    rw [e1, e2]; exact ⟨rfl, .cons h1 h2⟩
theorem kids_of : ∀ {ds : List D} {vs : List V}, AtAll K R vs ds → OwnL (Own K R H .im) ds vs []
  | [], _, .nil => ⟨rfl, rfl⟩
  | d :: ds, _, .cons h1 h2 => ⟨_, _, [], [], rfl, rfl, ⟨rfl, h1⟩, kids_of h2⟩
/-- the list of plain members at a name, changed to other plain members -/
theorem Sta.recast {i : Nat} (hS : Sta K R H ρ σ F) (e : ρ[i]? = some (some (.ow .im, .lst ds))) :
    ∃ (p : Addr) (vs : List V), σ[i]? = some (some (.ref p)) ∧ H p = some (.lst vs) ∧ AtAll K R vs ds ∧
      ∀ (ds' : List D) (vs' : List V), AtAll K R vs' ds' → ∃ F', Sta K R (upd H p (.lst vs')) (ρ.set i (some (.ow .im, .lst ds'))) σ F' ∧ Step R H F R (upd H p (.lst vs')) F' := by
  obtain ⟨p, vs, Fk, Fr, h1, h2, h3, h4, h5, h6, h7, h8, h9, put⟩ := hS.relist e
  obtain ⟨rfl, q⟩ := kids_im h5
  refine ⟨p, vs, h1, h2, q, fun ds' vs' q' => ?_⟩
  obtain ⟨F', st', sub'⟩ := put R .im ds' vs' [] .refl hS.sub h3 (fun x hx => (hS.slots.foot x (h8 x hx)).2) (kids_of q') (by simp) (fun x hx => by cases hx)
  exact ⟨F', st', .relist h4 .refl (fun x o q => .inl q) (fun x hx => (sub' x hx).elim id fun z => by cases z) h2⟩
theorem AtAll.dropLast : ∀ {vs : List V} {ds : List D}, AtAll K R vs ds → AtAll K R vs.dropLast ds.dropLast
  | _, _, .nil => .nil
  | _, _, .cons _ .nil => .nil
  | _, _, .cons r (.cons r2 t) => .cons r (AtAll.dropLast (.cons r2 t))
theorem AtAll.eraseIdx : ∀ {vs : List V} {ds : List D} (n : Nat), AtAll K R vs ds → AtAll K R (vs.eraseIdx n) (ds.eraseIdx n)
  | _, _, _, .nil => .nil
  | _, _, 0, .cons _ t => t
  | _, _, n + 1, .cons r t => .cons r (AtAll.eraseIdx n t)
def dPop (i : Nat) : Den DV := fun ρ => match ρ[i]? with
  | some (some (.ow .im, .lst ds)) => (match ds[ds.length - 1]? with
    | some d => some (.ok (ρ.set i (some (.ow .im, .lst ds.dropLast))) (.sh .im, d))
    | none => none)
  | _ => none
theorem tyL {v : V} {F : List Addr} {k : Sh} (h : Own K R H (.ow k) (.lst ds) v F) : tyV K "list" v H := by
  obtain ⟨p, vs, F2, rfl, _, h, _⟩ := h
  exact .inl ⟨rfl, vs, SqL.of h⟩
theorem pop_ok {i : Nat} (h : tE K mg W false (dPop i) σ H Q) : tBM0 K "list" rPop (tVar i) σ H Q := by
  obtain ⟨ρ, R, F, res, hS, hden, hQ⟩ := h
  unfold dPop at hden
  split at hden
  rotate_left
  · cases hden
  rename_i ds e
  split at hden
  rotate_left
  · cases hden
  rename_i d ed
  cases hden
  obtain ⟨v0, La, Lb, a1, a2, _⟩ := hS.slots.pick e
  obtain ⟨p, vs, h1, h2, q, put⟩ := hS.recast e
  rw [a1] at h1; cases h1
  obtain ⟨y, hy, qy⟩ := q.get ed
  obtain ⟨F', st', s'⟩ := put _ _ q.dropLast
  refine ⟨.ref p, a1, tyL a2, p, vs, y, rfl, rfl, h2, by rw [q.length]; exact hy, ?_⟩
  exact (hQ.step (pc := false) s' fun z => by cases z).im st' qy
def dPopAt (i : Nat) (da : Den DV) : Den DV := fun ρ => match ρ[i]? with
  | some (some (.ow _, .lst _)) => dBind da (fun a ρ1 => match ρ1[i]?, a.2 with
    | some (some (.ow .im, .lst ds)), .int j => if -(2 ^ 63) ≤ j ∧ j < 2 ^ 63 then (match seqIndex? j ds.length with
      | some k => (match ds[k]? with
        | some d => some (.ok (ρ1.set i (some (.ow .im, .lst (ds.eraseIdx k)))) (.sh .im, d))
        | none => none)
      | none => none) else none
    | _, _ => none) ρ
  | _ => none
theorem popAt_ok {i : Nat} {da : Den DV} (h : tE K mg W false (dPopAt i da) σ H Q) : tBM K "list" rPopAt (tVar i) (tCons (tE K mg W pa da) tNil) σ H Q := by
  obtain ⟨ρ, R, F, res, hS, hden, hQ⟩ := h
  unfold dPopAt at hden
  split at hden
  rotate_left
  · cases hden
  rename_i k0 ds0 e0
  obtain ⟨v0, La, Lb, a1, a2, _⟩ := hS.slots.pick e0
  refine ⟨v0, a1, tyL a2, ?_⟩
  refine tG_bind hS hden hQ fun ρ1 a v H1 R1 F1 G1 e st q n s pp => ?_
  split at e
  rotate_left
  · cases e
  rename_i ds j e1 ej
  split at e
  rotate_left
  · cases e
  rename_i hj
  split at e
  rotate_left
  · cases e
  rename_i k ek
  split at e
  rotate_left
  · cases e
  rename_i d ed
  cases e
  have hv : v = .int j := by
    have := q.at st.sub
    rw [ej] at this
    exact this.scal rfl
  obtain ⟨p, vs, h1, h2, qq, put⟩ := st.recast e1
  rw [a1] at h1; cases h1
  obtain ⟨y, hy, qy⟩ := qq.get ed
  obtain ⟨F', st', s'⟩ := put _ _ (qq.eraseIdx k)
  refine ⟨p, vs, j, k, y, rfl, by rw [hv], h2, hj.1, hj.2, by rw [qq.length]; exact ek, hy, ?_⟩
  exact ((hQ.step s fun z => by cases z).drop.step s' fun z => by cases z).im st' qy

/-! ### stores to items -/
/-- x[e] = v, x a name with an owned list of plain members -/
def sSetItem (i : Nat) (da dx : Den DV) : DenS := sBind da fun a => if isBo a = true then (fun _ => none) else fun ρ1 => match ρ1[i]? with
  | some (some (.ow _, .lst _)) => sBind dx (fun b ρ2 => match ρ2[i]?, b.2 with
    | some (some (.ow .im, .lst ds)), .int j => (match ixN ds.length j with
      | some k => some (.nx (ρ2.set i (some (.ow .im, .lst (ds.set k a.2)))))
      | none => none)
    | _, _ => none) ρ1
  | _ => none
theorem setItem_ok {i : Nat} {da dx : Den DV} (h : tS K mg W A (sSetItem i da dx) T σ H) : tAsg (tE K mg W pa da) (gSub (tVar i) (tE K mg W pb dx) rSetL) T σ H := by
  obtain ⟨ρ, R, F, o, hS, hden, hQ⟩ := h
  refine tS_bind hS hden hQ fun ρ1 a v H1 R1 F1 G1 e st q n s pp => ?_
  cases hb : isBo a with
  | true => rw [if_pos hb] at e; cases e
  | false =>
  rw [if_neg (by rw [hb]; exact Bool.false_ne_true)] at e
  have st' := st.freeze (nd_out n)
  have q' := q.freeze st.sub (not_bo hb)
  have hQ1 := hQ.step (s.trans (.freeze st.sub)) .refl
  split at e
  rotate_left
  · cases e
  rename_i k0 ds0 e0
  obtain ⟨v0, La, Lb, a1, a2, _⟩ := st'.slots.pick e0
  refine ⟨v0, a1, ?_⟩
  refine tS_bind st' e hQ1 fun ρ2 b u H2 R2 F2 G2 e2 st2 q2 n2 s2 p2 => ?_
  split at e2
  rotate_left
  · cases e2
  rename_i ds j e1 ej
  split at e2
  rotate_left
  · cases e2
  rename_i k ek
  cases e2
  have hu : u = .int j := by
    have := q2.at st2.sub
    rw [ej] at this
    exact this.scal rfl
  obtain ⟨p, vs, h1, h2, qq, put⟩ := st2.recast e1
  rw [a1] at h1; cases h1
  obtain ⟨F', st3, s3⟩ := put _ _ (qq.set k (q'.mono s2.grow))
  refine ⟨p, vs, j, k, rfl, hu, h2, by rw [qq.length]; exact ek, ?_⟩
  exact (hQ1.step s2 .refl).drop σ _ _ F' st3 .refl s3

/-- x[e][e'] = v: an owned list of owned lists of plain members -/
theorem kids_set : ∀ {ds : List D} {vs : List V} {Fk : List Addr} {j : Nat} {es : List D}, OwnL (Own K R H (.ow .im)) ds vs Fk → ds[j]? = some (.lst es) → Fk.Nodup →
    ∃ (q : Addr) (ws : List V), vs[j]? = some (.ref q) ∧ H q = some (.lst ws) ∧ q ∈ Fk ∧ AtAll K R ws es ∧ ∀ (ws' : List V) (es' : List D), AtAll K R ws' es' → OwnL (Own K R (upd H q (.lst ws')) (.ow .im)) (ds.set j (.lst es')) vs Fk
  | [], _, _, _, _, _, e, _ => by simp at e
  | d :: ds, _, _, 0, es, ⟨v, vr, F1, F2, rfl, rfl, h1, t⟩, e, nd => by
    simp at e
    subst e
    obtain ⟨q, ws, F3, rfl, rfl, hq, hn, ho⟩ := h1
    obtain ⟨rfl, qa⟩ := kids_im ho
    obtain ⟨n1, n2, n3⟩ := List.nodup_append.mp nd
    have hq2 : ∀ x ∈ F2, x ≠ q := fun x hx z => n3 q List.mem_cons_self x hx z.symm
    refine ⟨q, ws, rfl, hq, by simp, qa, fun ws' es' qa' => ?_⟩
    exact ⟨.ref q, vr, [q], F2, rfl, rfl, ⟨q, ws', [], rfl, rfl, upd_same, hn, kids_of qa'⟩, OwnL.frame .refl t (fun x hx => upd_ne (hq2 x hx)) fun x hx => (OwnL.foot t x hx).2⟩
  | d :: ds, _, _, j + 1, es, ⟨v, vr, F1, F2, rfl, rfl, h1, t⟩, e, nd => by
    obtain ⟨n1, n2, n3⟩ := List.nodup_append.mp nd
    obtain ⟨q, ws, h2, h3, h4, h5, h6⟩ := kids_set (j := j) t (by simpa using e) n2
    have hq1 : ∀ x ∈ F1, x ≠ q := fun x hx z => n3 x hx q h4 z
    refine ⟨q, ws, by simpa using h2, h3, List.mem_append_right _ h4, h5, fun ws' es' qa' => ?_⟩
    exact ⟨v, vr, F1, F2, rfl, rfl, h1.frame .refl (fun x hx => upd_ne (hq1 x hx)) fun x hx => (h1.foot x hx).2, h6 ws' es' qa'⟩
def sSetItem2 (i : Nat) (da dx dy : Den DV) : DenS := sBind da fun a => if isBo a = true then (fun _ => none) else fun ρ1 => match ρ1[i]? with
  | some (some (.ow (.ow .im), .lst _)) => sBind dx (fun b ρ2 => match ρ2[i]?, b.2 with
    | some (some (.ow (.ow .im), .lst ds)), .int j => (match ixN ds.length j with
      | some k => (match ds[k]? with
        | some (.lst _) => sBind dy (fun c ρ3 => match ρ3[i]?, c.2 with
          | some (some (.ow (.ow .im), .lst ds3)), .int j' => (match ds3[k]? with
            | some (.lst es) => (match ixN es.length j' with
              | some k' => some (.nx (ρ3.set i (some (.ow (.ow .im), .lst (ds3.set k (.lst (es.set k' a.2)))))))
              | none => none)
            | _ => none)
          | _, _ => none) ρ2
        | _ => none)
      | none => none)
    | _, _ => none) ρ1
  | _ => none
theorem setItem2_ok {i : Nat} {da dx dy : Den DV} (h : tS K mg W A (sSetItem2 i da dx dy) T σ H) : tAsg (tE K mg W pa da) (gSub (tOp (rIx K) (tVar i) (tE K mg W pb dx)) (tE K mg W true dy) rSetL) T σ H := by
  obtain ⟨ρ, R, F, o, hS, hden, hQ⟩ := h
  refine tS_bind hS hden hQ fun ρ1 a v H1 R1 F1 G1 e st q n s pp => ?_
  cases hb : isBo a with
  | true => rw [if_pos hb] at e; cases e
  | false =>
  rw [if_neg (by rw [hb]; exact Bool.false_ne_true)] at e
  have st' := st.freeze (nd_out n)
  have q' := q.freeze st.sub (not_bo hb)
  have hQ1 := hQ.step (s.trans (.freeze st.sub)) .refl
  split at e
  rotate_left
  · cases e
  rename_i ds0 e0
  obtain ⟨v0, La, Lb, a1, a2, _⟩ := st'.slots.pick e0
  obtain ⟨p0, vs0, Lk, rfl, _, hp0, _, _⟩ := a2
  refine ⟨_, a1, ?_⟩
  refine tS_bind st' e hQ1 fun ρ2 b u H2 R2 F2 G2 e2 st2 q2 n2 s2 p2 => ?_
  have hQ2 := (hQ1.step s2 .refl).drop
  split at e2
  rotate_left
  · cases e2
  rename_i ds j e1 ej
  split at e2
  rotate_left
  · cases e2
  rename_i k ek
  split at e2
  rotate_left
  · cases e2
  rename_i es0 ee0
  have hu : u = .int j := by
    have := q2.at st2.sub
    rw [ej] at this
    exact this.scal rfl
  obtain ⟨p, vs2, Fk2, Fr2, h1, h2, h3, h4, h5, h6, h7, h8, h9, put2⟩ := st2.relist e1
  rw [a1] at h1; cases h1
  obtain ⟨q0, ws0, k1, k2, k3, k4, k5⟩ := kids_set h5 ee0 (List.nodup_cons.mp h7).2
  refine .inl ⟨p0, vs2, j, .ref q0, rfl, hu, SqL.of h2, ?_, ?_⟩
  · unfold L2.atI
    rw [OwnL.length h5, ek]
    exact k1
  refine tS_bind st2 e2 hQ2 fun ρ3 c w H3 R3 F3 G3 e3 st3 q3 n3 s3 p3 => ?_
  have sub3 := p3 rfl
  have hQ3 := (hQ2.step s3 .refl).drop
  split at e3
  rotate_left
  · cases e3
  rename_i ds3 j' e4 ej'
  split at e3
  rotate_left
  · cases e3
  rename_i es ees
  split at e3
  rotate_left
  · cases e3
  rename_i k' ek'
  cases e3
  have hw : w = .int j' := by
    have := q3.at st3.sub
    rw [ej'] at this
    exact this.scal rfl
  obtain ⟨p', vs3, Fk3, Fr3, g1, g2, g3, g4, g5, g6, g7, g8, g9, put3⟩ := st3.relist e4
  rw [a1] at g1; cases g1
  have hvs : vs3 = vs2 := by
    have := sub3 _ _ h2
    rw [g2] at this
    cases this; rfl
  subst hvs
  obtain ⟨q1, ws, m1, m2, m3, m4, m5⟩ := kids_set g5 ees (List.nodup_cons.mp g7).2
  rw [k1] at m1; cases m1
  refine ⟨q0, ws, j', k', rfl, hw, m2, by rw [m4.length]; exact ek', ?_⟩
  have hqp : q0 ≠ p0 := fun z => (List.nodup_cons.mp g7).1 (z ▸ m3)
  have O' := m5 (ws.set k' v) (es.set k' a.2) (m4.set k' ((q'.mono s2.grow).mono s3.grow))
  -- the outer list stands as it is
  have hH : upd (upd H3 q0 (.lst (ws.set k' v))) p0 (.lst vs3) = upd H3 q0 (.lst (ws.set k' v)) := by
    funext x
    by_cases hx : x = p0
    · subst hx; rw [upd_same, upd_ne hqp.symm, g2]
    · rw [upd_ne hx]
  have q0F : q0 ∈ F3 := g6 q0 m3
  have hq0r : R3 q0 = none := (st3.slots.foot q0 q0F).2
  -- the state with the item changed
  have fin : ∃ F', Sta K R3 (upd H3 q0 (.lst (ws.set k' v))) (ρ3.set i (some (.ow (.ow .im), .lst (ds3.set k (.lst (es.set k' a.2)))))) σ F' ∧ ∀ x ∈ F', x ∈ F3 := by
    obtain ⟨v9, L8, L9, b1, b2, b3, b4⟩ := st3.slots.pick e4
    rw [a1] at b1; cases b1
    obtain ⟨p8, vs8, F8, e8, rfl, b5, b6, b7⟩ := b2
    cases e8
    rw [g2] at b5; cases b5
    have nd := b4.nodup_iff.mp st3.nd
    obtain ⟨nd1, nd2, nd3⟩ := List.nodup_append.mp nd
    have q0F8 : q0 ∈ F8 := by
      obtain ⟨r0, rws, r1, r2, r3, _, _⟩ := kids_set b7 ees (List.nodup_cons.mp nd1).2
      rw [k1] at r1; cases r1; exact r3
    obtain ⟨r0, rws, r1, r2, r3, r4, r5⟩ := kids_set b7 ees (List.nodup_cons.mp nd1).2
    rw [k1] at r1; cases r1
    rw [m2] at r2; cases r2
    have O8 := r5 (ws.set k' v) (es.set k' a.2) (m4.set k' ((q'.mono s2.grow).mono s3.grow))
    have stn : Sta K R3 (upd H3 q0 (.lst (ws.set k' v))) (ρ3.set i none) σ L9 := by
      refine ⟨b3.frame .refl (fun x hx => upd_ne fun z => nd3 q0 (List.mem_cons_of_mem _ q0F8) x hx z.symm) fun x hx => (b3.foot x hx).2, fun x o q => ?_, nd2⟩
      have hx : x ≠ q0 := fun z => by subst z; rw [hq0r] at q; cases q
      rw [upd_ne hx]; exact st3.sub x o q
    have hi : i < (ρ3.set i none).length := by rw [List.length_set]; exact (List.getElem?_eq_some_iff.mp e4).1
    obtain ⟨F', c1, c2, c3⟩ := stn.slots.put (s := .ow (.ow .im)) (d := .lst (ds3.set k (.lst (es.set k' a.2)))) (v := .ref p0) (G := p0 :: F8) hi ⟨p0, vs3, F8, rfl, rfl, by rw [upd_ne hqp.symm]; exact g2, b6, O8⟩
    rw [set_set, set_self a1] at c1
    exact ⟨F', ⟨c1, stn.sub, c3 nd⟩, fun x hx => b4.mem_iff.mpr (List.mem_append.mpr (c2 x hx))⟩
  obtain ⟨F', st4, sub4⟩ := fin
  exact hQ3 σ _ R3 F' st4 .refl (.relist q0F .refl (fun x o q => .inl q) sub4 m2)
end
end Den

/-! What is built in; what is walked. -/
namespace Den
open PySem PySem.Spec PyProof.Rows L2
section
variable {α β γ δ : Type} {K : PySem.W.Frag} {mg : Str → Option Value} {W : WX} {A : List Nat} {rel : RelT α β} {rel' : RelT γ δ} {pu pa pb pc pd : Bool} {R R' R1 H H' H1 : Hp} {F F1 G : List Addr} {ρ ρ1 : Rho} {σ σ1 : L2.St} {Q : VK} {d : D} {ds : List D} {vs : List V} {p : Addr} {T : Ends} {X : Cx}

/-! ### calls -/
def lenOp : List D → Option OR
  | [.lst ds] => some (.s (.int ds.length))
  | [.tup ds] => some (.s (.int ds.length))
  | [.str z] => if z.length ≤ sizeLine then some (.s (.int z.length)) else none
  | _ => none
def rLenA (K : PySem.W.Frag) : List V → Hp → VK → Prop := fun xs H Q => (∃ p ys, xs = [.ref p] ∧ (SqL K H p ys ∨ SqT K H p ys) ∧ Q (.int ys.length) H) ∨ ∃ z, xs = [.str z] ∧ z.length ≤ sizeLine ∧ Q (.int z.length) H
theorem cr_len : CallR X (.builtin "len") (rLenA X.K) := call_len_seq.or call_len_str
theorem cx_len : CallX K lenOp (rLenA K) := by
  intro ds o vs R H Q ho hs hv
  unfold lenOp at ho
  split at ho
  · cases ho
    cases hv with | cons h1 h2 => cases h2; cases h1 with | lst a b =>
    exact ⟨rfl, fun w => .inl ⟨_, _, rfl, .inl a, by rw [b.length]; exact w.2⟩⟩
  · cases ho
    cases hv with | cons h1 h2 => cases h2; cases h1 with | tup a b =>
    exact ⟨rfl, fun w => .inl ⟨_, _, rfl, .inr a, by rw [b.length]; exact w.2⟩⟩
  · split at ho
    · cases ho
      cases hv with | cons h1 h2 => cases h2; cases h1; exact ⟨rfl, fun w => .inr ⟨_, rfl, by assumption, w.2⟩⟩
    · cases ho
  · cases ho
def int1Op : List D → Option OR
  | [.int i] => some (.s (.int i))
  | [.bl k] => some (.s (.int (if k then 1 else 0)))
  | _ => none
def rInt1 : List V → Hp → VK → Prop := fun xs H Q => (∃ i, xs = [.int i] ∧ Q (.int i) H) ∨ ∃ k, xs = [.bl k] ∧ Q (.int (if k then 1 else 0)) H
theorem cx_int1 : CallX K int1Op rInt1 := by
  intro ds o vs R H Q ho hs hv
  unfold int1Op at ho
  split at ho
  · cases ho
    cases hv with | cons h1 h2 => cases h2; cases h1; exact ⟨rfl, fun w => .inl ⟨_, rfl, w.2⟩⟩
  · cases ho
    cases hv with | cons h1 h2 => cases h2; cases h1; exact ⟨rfl, fun w => .inr ⟨_, rfl, w.2⟩⟩
  · cases ho
def tyName : D → Option String
  | .non => some "NoneType"
  | .bl _ => some "bool"
  | .int _ => some "int"
  | .str _ => some "str"
  | .lst _ => some "list"
  | .tup _ => some "tuple"
  | _ => none
/-- isinstance of the types that data has -/
def isiB (a b : String) : Option Bool := if a ∈ ["NoneType", "bool", "int", "str", "list", "tuple", "dict"] ∧ b ∈ ["bool", "int", "str", "list", "tuple", "dict"] then some (decide (a = b) || (decide (a = "bool") && decide (b = "int"))) else none
def isiOp : List D → Option OR
  | [d, .ty n] => (match tyName d with
    | some a => (isiB a n).map fun b => .s (.bl b)
    | none => none)
  | _ => none
theorem kitB_ok : ∀ a ∈ ["NoneType", "bool", "int", "str", "list", "tuple", "dict"], ∀ b ∈ ["bool", "int", "str", "list", "tuple", "dict"], kitB a b = some (decide (a = b) || (decide (a = "bool") && decide (b = "int"))) := by decide +kernel
theorem isiB_ok {a b : String} {r : Bool} (h : isiB a b = some r) : PySem.W.kitOne K (.type a) (.type b) = some r := by
  unfold isiB at h
  split at h
  · rename_i c
    cases h
    exact kit_ty (kitB_ok a c.1 b c.2)
  · cases h
theorem rd_lst {R : Hp} {a : Addr} {xs : List V} (h : SqL K R a xs) : TyX K R (.ref a) (.type "list") := by
  rcases h with (h | ⟨o, h⟩) | ⟨o, its, n, h1, h2, _⟩
  · exact .base (.lst h)
  · exact .base (.frz h)
  · exact .kList h1 h2
theorem rd_tup {R : Hp} {a : Addr} {xs : List V} (h : SqT K R a xs) : TyX K R (.ref a) (.type "tuple") := by
  rcases h with (h | ⟨o, h⟩) | ⟨o, its, n, h1, h2, _⟩
  · exact .base (.tup h)
  · exact .fTuple h
  · exact .kTuple h1 h2
theorem ty_at {d : D} {v : V} {a : String} (h : tyName d = some a) (q : At K H v d) : TyX K H v (.type a) := by
  cases q with
  | non => cases h; exact .base .non
  | bl b => cases h; exact .base (.bl b)
  | int i => cases h; exact .base (.int i)
  | str x => cases h; exact .base (.str x)
  | ty n => cases h
  | lst h1 h2 => cases h; exact rd_lst h1
  | tup h1 h2 => cases h; exact rd_tup h1
theorem cx_isi : CallX K isiOp (rIsi K) := by
  intro ds o vs R H Q ho hs hv
  unfold isiOp at ho
  split at ho
  · rename_i d n
    split at ho
    · rename_i a ea
      obtain ⟨b, e1, rfl⟩ := Option.map_eq_some_iff.mp ho
      cases hv with | cons h1 h2 => cases h2 with | cons h3 h4 => cases h4; cases h3; exact ⟨rfl, fun w => ⟨_, _, _, _, b, rfl, .ty n, ty_at ea h1, isiB_ok e1, w.2⟩⟩
    · cases ho
  · cases ho
def intsOf : List D → Option (List Int)
  | [] => some []
  | .int i :: ds => (intsOf ds).map (i :: ·)
  | _ => none
def blsOf : List D → Option (List Bool)
  | [] => some []
  | .bl i :: ds => (blsOf ds).map (i :: ·)
  | _ => none
theorem ints_at : ∀ {ds : List D} {ns : List Int} {vs : List V}, intsOf ds = some ns → AtAll K R vs ds → vs = ns.map V.int
  | [], _, _, e, h => by cases e; cases h; rfl
  | d :: ds, ns, _, e, h => by
    cases h with | cons h1 h2 =>
    cases d with
    | int i =>
      obtain ⟨ms, e1, rfl⟩ := Option.map_eq_some_iff.mp (show (intsOf ds).map (i :: ·) = some ns from e)
      cases h1
      rw [ints_at e1 h2]; rfl
    | _ => cases e
theorem bls_at : ∀ {ds : List D} {ns : List Bool} {vs : List V}, blsOf ds = some ns → AtAll K R vs ds → vs = ns.map V.bl
  | [], _, _, e, h => by cases e; cases h; rfl
  | d :: ds, ns, _, e, h => by
    cases h with | cons h1 h2 =>
    cases d with
    | bl i =>
      obtain ⟨ms, e1, rfl⟩ := Option.map_eq_some_iff.mp (show (blsOf ds).map (i :: ·) = some ns from e)
      cases h1
      rw [bls_at e1 h2]; rfl
    | _ => cases e
def sumOp : List D → Option OR
  | [.lst ds] => (intsOf ds).map fun ns => .s (.int ns.sum)
  | _ => none
theorem cx_sum : CallX K sumOp (rSum K) := by
  intro ds o vs R H Q ho hs hv
  unfold sumOp at ho
  split at ho
  · obtain ⟨ns, e1, rfl⟩ := Option.map_eq_some_iff.mp ho
    cases hv with | cons h1 h2 => cases h2; cases h1 with | lst a b =>
    exact ⟨rfl, fun w => ⟨_, ns, rfl, by rw [← ints_at e1 b]; exact a, w.2⟩⟩
  · cases ho
def allOp : List D → Option OR
  | [.lst ds] => (blsOf ds).map fun ns => .s (.bl (ns.all id))
  | _ => none
def anyOp : List D → Option OR
  | [.lst ds] => (blsOf ds).map fun ns => .s (.bl (ns.any id))
  | _ => none
theorem cx_all : CallX K allOp (rAll K) := by
  intro ds o vs R H Q ho hs hv
  unfold allOp at ho
  split at ho
  · obtain ⟨ns, e1, rfl⟩ := Option.map_eq_some_iff.mp ho
    cases hv with | cons h1 h2 => cases h2; cases h1 with | lst a b =>
    exact ⟨rfl, fun w => ⟨_, ns, rfl, by rw [← bls_at e1 b]; exact a, w.2⟩⟩
  · cases ho
theorem cx_any : CallX K anyOp (rAny K) := by
  intro ds o vs R H Q ho hs hv
  unfold anyOp at ho
  split at ho
  · obtain ⟨ns, e1, rfl⟩ := Option.map_eq_some_iff.mp ho
    cases hv with | cons h1 h2 => cases h2; cases h1 with | lst a b =>
    exact ⟨rfl, fun w => ⟨_, ns, rfl, by rw [← bls_at e1 b]; exact a, w.2⟩⟩
  · cases ho
def listOp : List D → Option OR
  | [.lst ds] => some (.l ds)
  | [.tup ds] => some (.l ds)
  | _ => none
def rListA (K : PySem.W.Frag) : List V → Hp → VK → Prop := fun xs H Q => ∃ p ys, xs = [.ref p] ∧ (SqL K H p ys ∨ SqT K H p ys) ∧ ∀ l, H l = none → Q (.ref l) (upd H l (.lst ys))
theorem cx_list : CallX K listOp (rListA K) := by
  intro ds o vs R H Q ho hs hv
  unfold listOp at ho
  split at ho
  · cases ho
    cases hv with | cons h1 h2 => cases h2; cases h1 with | lst a b =>
    exact ⟨rfl, fun w => ⟨_, _, rfl, .inl (hs.sqL a), fun l hl => w _ l b hl⟩⟩
  · cases ho
    cases hv with | cons h1 h2 => cases h2; cases h1 with | tup a b =>
    exact ⟨rfl, fun w => ⟨_, _, rfl, .inr (hs.sqT a), fun l hl => w _ l b hl⟩⟩
  · cases ho
def tupleOp : List D → Option OR
  | [.lst ds] => some (.a (.tup ds))
  | [.tup ds] => some (.a (.tup ds))
  | _ => none
def rTupleA (K : PySem.W.Frag) : List V → Hp → VK → Prop := fun xs H Q => ∃ p ys, xs = [.ref p] ∧ ((SqL K H p ys ∧ ∀ l, H l = none → Q (.ref l) (upd H l (.tup ys))) ∨ (SqT K H p ys ∧ Q (.ref p) H))
theorem cx_tuple : CallX K tupleOp (rTupleA K) := by
  intro ds o vs R H Q ho hs hv
  unfold tupleOp at ho
  split at ho
  · cases ho
    cases hv with | cons h1 h2 => cases h2; cases h1 with | lst a b =>
    exact ⟨rfl, fun w => ⟨_, _, rfl, .inl ⟨hs.sqL a, fun l hl => w.2 _ _ l rfl b hl⟩⟩⟩
  · cases ho
    cases hv with | cons h1 h2 => cases h2; cases h1 with | tup a b =>
    exact ⟨rfl, fun w => ⟨_, _, rfl, .inr ⟨hs.sqT a, w.1 _ (.tup a b)⟩⟩⟩
  · cases ho
def strOp : List D → Option OR
  | [.int i] => if i.natAbs.log2 < 1920 then some (.s (.str (toString i))) else none
  | [.str x] => some (.s (.str x))
  | _ => none
def rStrA : List V → Hp → VK → Prop := fun xs H Q => (∃ i, xs = [.int i] ∧ i.natAbs.log2 < 1920 ∧ Q (.str (toString i)) H) ∨ ∃ a, xs = [.str a] ∧ Q (.str a) H
theorem cr_str : CallR X (.type "str") rStrA := call_str_int.or SkE.call_str_str
theorem cx_str : CallX K strOp rStrA := by
  intro ds o vs R H Q ho hs hv
  unfold strOp at ho
  split at ho
  · split at ho
    · cases ho
      cases hv with | cons h1 h2 => cases h2; cases h1; exact ⟨rfl, fun w => .inl ⟨_, rfl, by assumption, w.2⟩⟩
    · cases ho
  · cases ho
    cases hv with | cons h1 h2 => cases h2; cases h1; exact ⟨rfl, fun w => .inr ⟨_, rfl, w.2⟩⟩
  · cases ho
def absOp : List D → Option OR
  | [.int i] => some (.s (.int (if i < 0 then -i else i)))
  | _ => none
theorem cx_abs : CallX K absOp (fun xs H Q => ∃ i, xs = [.int i] ∧ Q (.int (if i < 0 then -i else i)) H) := by
  intro ds o vs R H Q ho hs hv
  unfold absOp at ho
  split at ho
  · cases ho
    cases hv with | cons h1 h2 => cases h2; cases h1; exact ⟨rfl, fun w => ⟨_, rfl, w.2⟩⟩
  · cases ho
def maxL : List Int → Int
  | [] => 0
  | [x] => x
  | x :: y :: r => max x (maxL (y :: r))
def minL : List Int → Int
  | [] => 0
  | [x] => x
  | x :: y :: r => min x (minL (y :: r))
theorem maxL_ok : ∀ {ns : List Int}, ns ≠ [] → maxL ns ∈ ns ∧ ∀ y ∈ ns, y ≤ maxL ns
  | [], h => absurd rfl h
  | [x], _ => by simp [maxL]
  | x :: y :: r, _ => by
    obtain ⟨h1, h2⟩ := maxL_ok (ns := y :: r) (by simp)
    simp only [maxL]
    refine ⟨?_, fun z hz => ?_⟩
    · rcases Int.le_total x (maxL (y :: r)) with h | h
      · rw [Int.max_eq_right h]; exact List.mem_cons_of_mem _ h1
      · rw [Int.max_eq_left h]; exact List.mem_cons_self
    · rcases List.mem_cons.mp hz with rfl | hz
      · omega
      · have := h2 z hz; omega
theorem minL_ok : ∀ {ns : List Int}, ns ≠ [] → minL ns ∈ ns ∧ ∀ y ∈ ns, minL ns ≤ y
  | [], h => absurd rfl h
  | [x], _ => by simp [minL]
  | x :: y :: r, _ => by
    obtain ⟨h1, h2⟩ := minL_ok (ns := y :: r) (by simp)
    simp only [minL]
    refine ⟨?_, fun z hz => ?_⟩
    · rcases Int.le_total x (minL (y :: r)) with h | h
      · rw [Int.min_eq_left h]; exact List.mem_cons_self
      · rw [Int.min_eq_right h]; exact List.mem_cons_of_mem _ h1
    · rcases List.mem_cons.mp hz with rfl | hz
      · omega
      · have := h2 z hz; omega
def maxOp : List D → Option OR
  | [.int i, .int j] => some (.s (.int (max i j)))
  | [.lst ds] => (match intsOf ds with
    | some (n :: ns) => some (.s (.int (maxL (n :: ns))))
    | _ => none)
  | _ => none
def minOp : List D → Option OR
  | [.int i, .int j] => some (.s (.int (min i j)))
  | [.lst ds] => (match intsOf ds with
    | some (n :: ns) => some (.s (.int (minL (n :: ns))))
    | _ => none)
  | _ => none
def rMaxA (K : PySem.W.Frag) : List V → Hp → VK → Prop := fun xs H Q => (∃ i j, xs = [.int i, .int j] ∧ Q (.int (if j > i then j else i)) H) ∨ rMax K xs H Q
def rMinA (K : PySem.W.Frag) : List V → Hp → VK → Prop := fun xs H Q => (∃ i j, xs = [.int i, .int j] ∧ Q (.int (if j < i then j else i)) H) ∨ rMin K xs H Q
theorem cr_maxA (hc : X.calm = true) : CallR X (.builtin "max") (rMaxA X.K) := (call_max2 hc).or (cr_max hc)
theorem cr_minA (hc : X.calm = true) : CallR X (.builtin "min") (rMinA X.K) := (call_min2 hc).or (cr_min hc)
theorem cx_max : CallX K maxOp (rMaxA K) := by
  intro ds o vs R H Q ho hs hv
  unfold maxOp at ho
  split at ho
  · rename_i i j
    cases ho
    have e : (if j > i then j else i) = max i j := by split <;> omega
    cases hv with | cons h1 h2 => cases h2 with | cons h3 h4 => cases h4; cases h3; cases h1; exact ⟨rfl, fun w => .inl ⟨_, _, rfl, by rw [e]; exact w.2⟩⟩
  · split at ho
    · rename_i n ns e1
      cases ho
      cases hv with | cons h1 h2 => cases h2; cases h1 with | lst a b =>
      refine ⟨rfl, fun w => .inr ⟨_, n :: ns, rfl, by rw [← ints_at e1 b]; exact a, by simp, fun m h1 h2 => ?_⟩⟩
      obtain ⟨g1, g2⟩ := maxL_ok (ns := n :: ns) (by simp)
      have : m = maxL (n :: ns) := Int.le_antisymm (g2 m h1) (h2 _ g1)
      rw [this]; exact w.2
    · cases ho
  · cases ho
theorem cx_min : CallX K minOp (rMinA K) := by
  intro ds o vs R H Q ho hs hv
  unfold minOp at ho
  split at ho
  · rename_i i j
    cases ho
    have e : (if j < i then j else i) = min i j := by split <;> omega
    cases hv with | cons h1 h2 => cases h2 with | cons h3 h4 => cases h4; cases h3; cases h1; exact ⟨rfl, fun w => .inl ⟨_, _, rfl, by rw [e]; exact w.2⟩⟩
  · split at ho
    · rename_i n ns e1
      cases ho
      cases hv with | cons h1 h2 => cases h2; cases h1 with | lst a b =>
      refine ⟨rfl, fun w => .inr ⟨_, n :: ns, rfl, by rw [← ints_at e1 b]; exact a, by simp, fun m h1 h2 => ?_⟩⟩
      obtain ⟨g1, g2⟩ := minL_ok (ns := n :: ns) (by simp)
      have : m = minL (n :: ns) := Int.le_antisymm (h2 _ g1) (g2 m h1)
      rw [this]; exact w.2
    · cases ho
  · cases ho

/-! ### what is walked -/
theorem PI.or {tg e : Expr} {wi wi' : TI} (h : PI X tg e wi) (h' : PI X tg e wi') : PI X tg e (fun σ H R => wi σ H R ∨ wi' σ H R) :=
  ⟨fun pins s σ H R I q => q.elim (h.run pins s σ H R I) (h'.run pins s σ H R I)⟩
theorem PI.imp {tg e : Expr} {t t' : TI} (h : PI X tg e t) (i : ∀ σ H Q, t' σ H Q → t σ H Q) : PI X tg e t' := ⟨fun pins s σ H Q I q => h.run pins s σ H Q I (i σ H Q q)⟩
theorem PG.orX {e : Expr} {t t' : TG} (h : PG X e t) (h' : PG X e t') : PG X e (fun v σ H Q => t v σ H Q ∨ t' v σ H Q) := ⟨fun pins s σ H v u Q I r q => q.elim (h.run pins s σ H v u Q I r) (h'.run pins s σ H v u Q I r)⟩
theorem PG.imp {e : Expr} {t t' : TG} (h : PG X e t) (i : ∀ v σ H Q, t' v σ H Q → t v σ H Q) : PG X e t' := ⟨fun pins s σ H v u Q I r q => h.run pins s σ H v u Q I r (i v σ H Q q)⟩
theorem PGs.imp {e : List Expr} {t t' : TGs} (h : PGs X e t) (i : ∀ v σ H Q, t' v σ H Q → t v σ H Q) : PGs X e t' := ⟨fun pins s σ H v u Q I r q => h.run pins s σ H v u Q I r (i v σ H Q q)⟩
theorem _root_.L2.PO.impD {e : Option Expr} {t t' : TO} (h : PO X e t) (i : ∀ σ H Q, t' σ H Q → t σ H Q) : PO X e t' := ⟨fun pins s σ H Q I q => h.run pins s σ H Q I (i σ H Q q)⟩
theorem _root_.L2.PTs.impD {e : List Expr} {t t' : TT} (h : PTs X e t) (i : ∀ σ H Q, t' σ H Q → t σ H Q) : PTs X e t' := ⟨fun pins s σ H Q I q => h.run pins s σ H Q I (i σ H Q q)⟩
def strItems (z : Str) : List D := z.cps.toList.map fun c => .str ⟨#[c]⟩
theorem feeds_str {z : Str} : Feeds K (Its z) R (strItems z) where
  stop := fun H i s hi => by
    have : z.cps.size ≤ i := by simpa [strItems] using hi
    exact this
  go := fun H i s hi => by
    have : i < z.cps.size := by simpa [strItems] using hi
    exact this
  yld := fun H i x H' s hi y => by
    obtain ⟨e, c, h1, rfl⟩ := y
    refine ⟨.str ⟨#[c]⟩, ?_, .inl ⟨e, .str _⟩⟩
    unfold strItems
    rw [List.getElem?_map, Array.getElem?_toList, h1]
    rfl
/-- the items of a list, a tuple, a text -/
def itemsOf : D → Option (List D)
  | .lst ds => some ds
  | .tup ds => some ds
  | .str z => some (strItems z)
  | _ => none
def dItems (da : Den DV) : Den (List D) := dBind da fun a => if isBo a = true then dFail else dLift (itemsOf a.2) dRet
def iAny (K : PySem.W.Frag) (te : TE) : TI := fun σ H R => iList K te σ H R ∨ iTup K te σ H R ∨ iStr te σ H R
theorem pi_any {tg e : Expr} {te : TE} (h : PE X e te) : PI X tg e (iAny X.K te) := PI.or (pi_list h) (PI.or (pi_tup h) (pi_str h))
theorem items_ok {da : Den DV} {Q : It → Hp → Prop} (h : tI K mg W pa (dItems da) σ H Q) : iAny K (tE K mg W pa da) σ H Q := by
  obtain ⟨ρ, R, F, res, hS, hden, hQ⟩ := h
  have hd := hden
  unfold dItems dBind at hd
  split at hd
  · cases hd
  · -- an exception
    rename_i ρ' x e0
    cases hd
    exact .inl ⟨ρ, R, F, _, hS, e0, fun c dx H' R' F' st q s => hQ c dx H' R' F' st q s⟩
  · rename_i ρ1 a e0
    dsimp only at hd
    split at hd
    · cases hd
    · rename_i hb
      obtain ⟨m, d⟩ := a
      unfold dLift at hd
      split at hd
      · cases hd
      · rename_i ds ei
        cases hd
        have key : ∀ {T : V → Hp → Prop}, (∀ v H2 R2 F2, Sta K R2 H2 ρ1 σ F2 → At K R2 v d → PostR K mg W (RI K) pa R2 H2 F2 σ Q (.ok ρ1 ds) → T v H2) → tE K mg W pa da σ H T := fun {T} k =>
          ⟨ρ, R, F, _, hS, e0, fun v H1 R1 F1 Fv st q n s p => k v H1 (ext R1 H1 Fv) F1 (st.freeze (nd_out n)) (q.freeze st.sub (not_bo (ff_of hb))) ((hQ.step s p).step (.freeze st.sub) fun _ => .refl)⟩
        cases d with
        | lst es => cases ei; exact .inl (key fun v H2 R2 F2 st q hQ2 => by cases q with | lst h1 h2 => exact ⟨_, rfl, ⟨_, st.sub.sqL h1⟩, hQ2.ri st (feeds_list h1 h2)⟩)
        | tup es => cases ei; exact .inr (.inl (key fun v H2 R2 F2 st q hQ2 => by cases q with | tup h1 h2 => exact ⟨_, rfl, ⟨_, st.sub.sqT h1⟩, hQ2.ri st (feeds_tup h1 h2)⟩))
        | str z => cases ei; exact .inr (.inr (key fun v H2 R2 F2 st q hQ2 => by cases q; exact ⟨z, rfl, hQ2.ri st feeds_str⟩))
        | _ => cases ei
/-- range(n), range(a, b) -/
def rngOf : List D → Option (List D)
  | [.int j] => if -(2 ^ 62) ≤ j ∧ j < 2 ^ 62 then some (rangeD 0 j.toNat) else none
  | _ => none
def rng2Of : List D → Option (List D)
  | [.int i, .int j] => if -(2 ^ 62) ≤ i ∧ i < 2 ^ 62 ∧ -(2 ^ 62) ≤ j ∧ j < 2 ^ 62 then some (rangeD i (j - i).toNat) else none
  | _ => none
def dRange (da : Den (List DV)) : Den (List D) := dBind da fun as => dLift (rngOf (as.map (·.2))) dRet
def dRange2 (da : Den (List DV)) : Den (List D) := dBind da fun as => dLift (rng2Of (as.map (·.2))) dRet
theorem range_ok {da : Den (List DV)} {Q : It → Hp → Prop} (h : tI K mg W pa (dRange da) σ H Q) : iRng1 (tA K mg W pa da) σ H Q := by
  obtain ⟨ρ, R, F, res, hS, hden, hQ⟩ := h
  refine tG_bind hS hden hQ fun ρ1 a v H1 R1 F1 G1 e st q n s p => ?_
  obtain ⟨ds, e1, e2⟩ := lift_some e
  have qa := q.at st.sub
  unfold rngOf at e1
  split at e1
  · rename_i j ej
    split at e1
    · rename_i hj
      cases e1; cases e2
      rw [ej] at qa
      cases qa with | cons h1 h2 => cases h2; cases h1; exact ⟨j, rfl, hj.1, hj.2, (hQ.step s p).drop.ri st feeds_range⟩
    · cases e1
  · cases e1
theorem range2_ok {da : Den (List DV)} {Q : It → Hp → Prop} (h : tI K mg W pa (dRange2 da) σ H Q) : iRng2 (tA K mg W pa da) σ H Q := by
  obtain ⟨ρ, R, F, res, hS, hden, hQ⟩ := h
  refine tG_bind hS hden hQ fun ρ1 a v H1 R1 F1 G1 e st q n s p => ?_
  obtain ⟨ds, e1, e2⟩ := lift_some e
  have qa := q.at st.sub
  unfold rng2Of at e1
  split at e1
  · rename_i i j ej
    split at e1
    · rename_i hj
      cases e1; cases e2
      rw [ej] at qa
      cases qa with | cons h1 h2 => cases h2 with | cons h3 h4 => cases h4; cases h3; cases h1; exact ⟨i, j, rfl, hj, (hQ.step s p).drop.ri st feeds_range⟩
    · cases e1
  · cases e1
/-- enumerate(xs), zip(xs, ys), of lists -/
def enumD : Nat → List D → List D
  | _, [] => []
  | i, d :: ds => .tup [.int i, d] :: enumD (i + 1) ds
theorem enumD_get : ∀ {k : Nat} {ds : List D} {i : Nat} {d : D}, ds[i]? = some d → (enumD k ds)[i]? = some (.tup [.int ((k + i : Nat) : Int), d])
  | k, [], i, d, e => by simp at e
  | k, x :: ds, 0, d, e => by simp at e; subst e; simp [enumD]
  | k, x :: ds, i + 1, d, e => by
    have := enumD_get (k := k + 1) (ds := ds) (i := i) (d := d) (by simpa using e)
    simp only [enumD, List.getElem?_cons_succ, this]
    congr 5
    omega
theorem enumD_len : ∀ {k : Nat} {ds : List D}, (enumD k ds).length = ds.length
  | _, [] => rfl
  | k, x :: ds => by simp [enumD, enumD_len (k := k + 1) (ds := ds)]
theorem feeds_enum {a : Addr} (h : SqL K R a vs) (q : AtAll K R vs ds) : Feeds K (Ite K a) R (enumD 0 ds) where
  stop := fun H i s hi => ⟨vs, s.sqL h, by rw [q.length]; rw [enumD_len] at hi; exact hi⟩
  go := fun H i s hi => by
    rw [enumD_len] at hi
    have hv : i < vs.length := by rw [q.length]; exact hi
    exact ⟨vs, vs[i], s.sqL h, List.getElem?_eq_getElem hv⟩
  yld := fun H i x H' s hi y => by
    obtain ⟨T, x', rfl, hT, rfl, f⟩ := y
    obtain ⟨d, h1, h2⟩ := q.get' (f vs (s.sqL h))
    refine ⟨_, enumD_get h1, .inr ⟨T, _, _, rfl, hT, rfl, rfl, .cons ?_ (.cons h2 .nil)⟩⟩
    rw [Nat.zero_add]; exact .int _
def enumOf : List D → Option (List D)
  | [.lst ds] => some (enumD 0 ds)
  | _ => none
def dEnum (da : Den (List DV)) : Den (List D) := dBind da fun as => if as.any isBo = true then dFail else dLift (enumOf (as.map (·.2))) dRet
theorem enum_ok {da : Den (List DV)} {Q : It → Hp → Prop} (h : tI K mg W pa (dEnum da) σ H Q) : iEnum K (tA K mg W pa da) σ H Q := by
  obtain ⟨ρ, R, F, res, hS, hden, hQ⟩ := h
  refine argsIm hS hden hQ fun ρ2 as vs H2 R2 F2 e st q hQ2 => ?_
  obtain ⟨ds, e1, e2⟩ := lift_some e
  unfold enumOf at e1
  split at e1
  · rename_i es ej
    cases e1; cases e2
    rw [ej] at q
    cases q with | cons h1 h2 => cases h2; cases h1 with | lst a b =>
    exact ⟨_, _, rfl, st.sub.sqL a, hQ2.ri st (feeds_enum a b)⟩
  · cases e1
def zipD : List D → List D → List D
  | x :: xs, y :: ys => .tup [x, y] :: zipD xs ys
  | _, _ => []
theorem zipD_get : ∀ {xs ys : List D} {i : Nat} {x y : D}, xs[i]? = some x → ys[i]? = some y → (zipD xs ys)[i]? = some (.tup [x, y])
  | [], _, _, _, _, e, _ => by simp at e
  | _ :: _, [], _, _, _, _, e => by simp at e
  | a :: xs, b :: ys, 0, x, y, e, e2 => by simp at e e2; subst e e2; rfl
  | a :: xs, b :: ys, i + 1, x, y, e, e2 => by simpa [zipD] using zipD_get (xs := xs) (ys := ys) (i := i) (by simpa using e) (by simpa using e2)
theorem zipD_len : ∀ {xs ys : List D}, (zipD xs ys).length = min xs.length ys.length
  | [], _ => by simp [zipD]
  | _ :: _, [] => by simp [zipD]
  | a :: xs, b :: ys => by simp only [zipD, List.length_cons, zipD_len (xs := xs) (ys := ys)]; omega
theorem feeds_zip {a b : Addr} {ws : List V} {es : List D} (h : SqL K R a vs) (q : AtAll K R vs ds) (h' : SqL K R b ws) (q' : AtAll K R ws es) : Feeds K (Itz K a b) R (zipD ds es) where
  stop := fun H i s hi => ⟨vs, ws, s.sqL h, s.sqL h', by rw [zipD_len] at hi; rw [q.length, q'.length]; omega⟩
  go := fun H i s hi => by
    rw [zipD_len] at hi
    have hv : i < vs.length := by rw [q.length]; omega
    have hw : i < ws.length := by rw [q'.length]; omega
    exact ⟨vs, ws, vs[i], ws[i], s.sqL h, s.sqL h', List.getElem?_eq_getElem hv, List.getElem?_eq_getElem hw⟩
  yld := fun H i x H' s hi y => by
    obtain ⟨T, x', y', rfl, hT, rfl, f, g⟩ := y
    obtain ⟨d, h1, h2⟩ := q.get' (f vs (s.sqL h))
    obtain ⟨e, h3, h4⟩ := q'.get' (g ws (s.sqL h'))
    exact ⟨_, zipD_get h1 h3, .inr ⟨T, _, _, rfl, hT, rfl, rfl, .cons h2 (.cons h4 .nil)⟩⟩
def zipOf : List D → Option (List D)
  | [.lst ds, .lst es] => some (zipD ds es)
  | _ => none
def dZip (da : Den (List DV)) : Den (List D) := dBind da fun as => if as.any isBo = true then dFail else dLift (zipOf (as.map (·.2))) dRet
theorem zip_ok {da : Den (List DV)} {Q : It → Hp → Prop} (h : tI K mg W pa (dZip da) σ H Q) : iZip K (tA K mg W pa da) σ H Q := by
  obtain ⟨ρ, R, F, res, hS, hden, hQ⟩ := h
  refine argsIm hS hden hQ fun ρ2 as vs H2 R2 F2 e st q hQ2 => ?_
  obtain ⟨ds, e1, e2⟩ := lift_some e
  unfold zipOf at e1
  split at e1
  · rename_i es fs ej
    cases e1; cases e2
    rw [ej] at q
    cases q with | cons h1 h2 => cases h2 with | cons h3 h4 => cases h4; cases h1 with | lst a b => cases h3 with | lst c d =>
    exact ⟨_, _, _, _, rfl, st.sub.sqL a, st.sub.sqL c, hQ2.ri st (feeds_zip a b c d)⟩
  · cases e1
end
end Den

/-! One rule a construct: its syntax has its meaning. -/
namespace Den
open PySem PySem.Spec PyProof.Rows L2
section
variable {X : Cx} {W : WX} {pa pb pc : Bool} {a b c : Expr} {pos : Pos} {da db dc : Den DV} {ta tb tc : Den Bool} {es : List Expr} {das : Den (List DV)} {e : Expr}
abbrev RE (X : Cx) (W : WX) (pu : Bool) (e : Expr) (d : Den DV) : Prop := PE X e (tE X.K X.mg W pu d)
abbrev RT (X : Cx) (W : WX) (pu : Bool) (e : Expr) (d : Den Bool) : Prop := PT X e (tT X.K X.mg W pu d)
abbrev RW (X : Cx) (W : WX) (pu : Bool) (e : Expr) (d : Den Bool) : Prop := PW X e (tT X.K X.mg W pu d)
abbrev RA (X : Cx) (W : WX) (pu : Bool) (e : List Expr) (d : Den (List DV)) : Prop := PA X e (tA X.K X.mg W pu d)
abbrev RAs (X : Cx) (W : WX) (pu : Bool) (e : List Expr) (d : Den (List Arg)) : Prop := PA X e (tAs X.K X.mg W pu d)
abbrev RIt (X : Cx) (W : WX) (pu : Bool) (tg e : Expr) (d : Den (List D)) : Prop := PI X tg e (tI X.K X.mg W pu d)
abbrev RG (X : Cx) (A : List Nat) (e : Expr) (d : DenG) : Prop := PG X e (gOf X.K A d)
abbrev RGs (X : Cx) (A : List Nat) (e : List Expr) (d : List D → Rho → Option Rho) : Prop := PGs X e (gsOf X.K A d)
abbrev RS (X : Cx) (W : WX) (A : List Nat) (s : Stmt) (d : DenS) : Prop := PS X s (tS X.K X.mg W A d)
abbrev RSs (X : Cx) (W : WX) (A : List Nat) (s : List Stmt) (d : DenS) : Prop := PSs X s (tS X.K X.mg W A d)
abbrev ROp (X : Cx) (W : WX) (pu : Bool) (e : Option Expr) (d : Den (Option Int)) : Prop := PO X e (tO X.K X.mg W pu d)

/-! expressions -/
theorem e_var {i : Nat} {x : Str} (h : PE X (.Name x pos) (tVar i)) : RE X W true (.Name x pos) (dVar i) := h.impD fun _ _ _ => var_ok
theorem e_varF {i : Nat} {x : Str} (h : PE X (.Name x pos) (tVar i)) : RE X W true (.Name x pos) (dVarF i) := h.impD fun _ _ _ => varF_ok
theorem e_varM {i : Nat} {x : Str} (h : PE X (.Name x pos) (tVar i)) : RE X W true (.Name x pos) (dVarM i) := h.impD fun _ _ _ => varM_ok
theorem e_int {i : Int} {j} : RE X W true (.Constant (.int i) j pos) (dC (.int i)) := pe_int.impD fun _ _ _ h => const_ok (d := .int i) rfl h
theorem e_bl {i : Bool} {j} : RE X W true (.Constant (.bool i) j pos) (dC (.bl i)) := pe_bl.impD fun _ _ _ h => const_ok (d := .bl i) rfl h
theorem e_non {j} : RE X W true (.Constant .none j pos) (dC .non) := pe_non.impD fun _ _ _ h => const_ok (d := .non) rfl h
theorem e_str {i : Str} {j} : RE X W true (.Constant (.str i) j pos) (dC (.str i)) := pe_str.impD fun _ _ _ h => const_ok (d := .str i) rfl h
/-- a built-in type as a value -/
theorem e_ty {x : Str} {n : String} (hg : Gl X x) (hm : X.mg x = none) (hv : bootBuiltins x = some (.type n)) (hn : x ≠ "__name__" := by decide) (hd : (x == ("__debug__" : Str)) = false := by decide) : RE X W true (.Name x pos) (dC (.ty n)) :=
  (pe_bltn (v := .ty n) hg hm hv rfl hn hd).impD fun _ _ _ h => const_ok (d := .ty n) rfl h
/-- what is not served: it is never come to -/
def dStuck {α : Type} : Den α := fun _ => none
theorem e_stuck {e : Expr} : RE X W pa e dStuck := ⟨fun _ _ _ _ _ _ h => by obtain ⟨_, _, _, _, _, e, _⟩ := h; cases e⟩
theorem t_stuck {e : Expr} : RT X W pa e dStuck := ⟨fun _ _ _ _ _ _ h => by obtain ⟨_, _, _, _, _, e, _⟩ := h; cases e⟩
def sStuck : DenS := fun _ => none
theorem s_stuck {A : List Nat} {s : Stmt} : RS X W A s sStuck := ⟨fun _ _ _ _ _ _ h => by obtain ⟨_, _, _, _, _, e, _⟩ := h; cases e⟩
theorem b_stuck {A : List Nat} {s : List Stmt} : RSs X W A s sStuck := ⟨fun _ _ _ _ _ _ h => by obtain ⟨_, _, _, _, _, e, _⟩ := h; cases e⟩
theorem e_bin {op : Operator} {f : D → D → Option OR} {r : R2} (ho : OpR X (binaryOp op) r) (hx : OpX X.K f r) (ha : RE X W pa a da) (hb : RE X W pb b db) : RE X W (pa && pb) (.BinOp a op b pos) (dBin pb f da db) := (pe_op ho ha hb).impD fun _ _ _ h => bin_ok hx h
theorem e_add (ha : RE X W pa a da) (hb : RE X W pb b db) : RE X W (pa && pb) (.BinOp a .Add b pos) (dBin pb addOp da db) := e_bin or_add ox_add ha hb
theorem e_sub (ha : RE X W pa a da) (hb : RE X W pb b db) : RE X W (pa && pb) (.BinOp a .Sub b pos) (dBin pb subOp da db) := e_bin op_sub ox_sub ha hb
theorem e_mul (ha : RE X W pa a da) (hb : RE X W pb b db) : RE X W (pa && pb) (.BinOp a .Mult b pos) (dBin pb mulOp da db) := e_bin or_mul ox_mul ha hb
theorem e_fdiv (ha : RE X W pa a da) (hb : RE X W pb b db) : RE X W (pa && pb) (.BinOp a .FloorDiv b pos) (dBin pb fdivOp da db) := e_bin op_fdivW ox_fdiv ha hb
theorem e_mod (ha : RE X W pa a da) (hb : RE X W pb b db) : RE X W (pa && pb) (.BinOp a .Mod b pos) (dBin pb modOp da db) := e_bin op_mod ox_mod ha hb
theorem e_pow (ha : RE X W pa a da) (hb : RE X W pb b db) : RE X W (pa && pb) (.BinOp a .Pow b pos) (dBin pb powOp da db) := e_bin op_pow ox_pow ha hb
theorem e_shl (ha : RE X W pa a da) (hb : RE X W pb b db) : RE X W (pa && pb) (.BinOp a .LShift b pos) (dBin pb shlOp da db) := e_bin op_shl ox_shl ha hb
theorem e_shr (ha : RE X W pa a da) (hb : RE X W pb b db) : RE X W (pa && pb) (.BinOp a .RShift b pos) (dBin pb shrOp da db) := e_bin op_shr ox_shr ha hb
theorem e_and (ha : RE X W pa a da) (hb : RE X W pb b db) : RE X W (pa && pb) (.BinOp a .BitAnd b pos) (dBin pb andOp da db) := e_bin op_and ox_and ha hb
theorem e_bor (ha : RE X W pa a da) (hb : RE X W pb b db) : RE X W (pa && pb) (.BinOp a .BitOr b pos) (dBin pb borOp da db) := e_bin op_or ox_bor ha hb
theorem e_neg (ha : RE X W pa a da) : RE X W pa (.UnaryOp .USub a pos) (dUn negOp da) := (pe_un un_neg ha).impD fun _ _ _ h => un_ok ux_neg h
theorem e_cmp {op : CmpOp} {f : D → D → Option OR} {r : R2} (ho : OpR X (compareOp op) r) (hx : OpX X.K f r) (ha : RE X W pa a da) (hb : RE X W pb b db) (hm : behindInMarks op b = false) : RE X W (pa && pb) (.Compare a [op] [b] pos) (dBin pb f da db) := (pe_cmpR ho ha hb hm).impD fun _ _ _ h => bin_ok hx h
theorem t_cmp {op : CmpOp} {f : D → D → Option OR} {r : R2} (ho : OpR X (compareOp op) r) (hx : OpX X.K f r) (ha : RE X W pa a da) (hb : RE X W pb b db) (hm : behindInMarks op b = false) : RT X W (pa && pb) (.Compare a [op] [b] pos) (dTst (dBin pb f da db)) :=
  (pt_cmpR ho ha hb hm).impD fun σ H Q h => by
    obtain ⟨ρ, R, F, r, h1, h2, h3⟩ := tst_ok h
    exact bin_ok hx ⟨ρ, R, F, r, h1, h2, h3⟩
theorem e_chain {op op' : CmpOp} {f f' : D → D → Option OR} {r r' : R2} (ho : OpR X (compareOp op) r) (hx : OpX X.K f r) (ho' : OpR X (compareOp op') r') (hx' : OpX X.K f' r') (ha : RE X W pa a da) (hb : RE X W pb b db) (hc : RE X W pc c dc)
    (hm : lastMarks [op, op'] [b, c] = false := by with_unfolding_all rfl) : RE X W (pa && (pb && pc)) (.Compare a [op, op'] [b, c] pos) (dChain f f' da db dc) := (pe_chain ho ho' ha hb hc hm).impD fun _ _ _ h => chain_ok hx hx' h
theorem t_chain {op op' : CmpOp} {f f' : D → D → Option OR} {r r' : R2} (ho : OpR X (compareOp op) r) (hx : OpX X.K f r) (ho' : OpR X (compareOp op') r') (hx' : OpX X.K f' r') (ha : RE X W pa a da) (hb : RE X W pb b db) (hc : RE X W pc c dc)
    (hm : lastMarks [op, op'] [b, c] = false := by with_unfolding_all rfl) : RT X W (pa && (pb && pc)) (.Compare a [op, op'] [b, c] pos) (dTst (dChain f f' da db dc)) := (pt_chain ho ho' ha hb hc hm).impD fun σ H Q h => by
    obtain ⟨ρ, R, F, r, h1, h2, h3⟩ := tst_ok h
    exact chain_ok hx hx' ⟨ρ, R, F, r, h1, h2, h3⟩
/-- a call, a name, a constant as a test: a bool -/
theorem t_val (ha : RE X W pa a da) (he : ∀ whole, isTrue a X.env whole = (do let v ← whole; standAt a.pos; holding [v] (truthy v)) := by intro _; rfl) : RT X W pa a (dTst da) := (pt_val ha he).impD fun _ _ _ h => tst_ok h
/-- .. anything, by its truth -/
theorem t_truth (ha : RE X W pa a da) (he : ∀ whole, isTrue a X.env whole = (do let v ← whole; standAt a.pos; holding [v] (truthy v)) := by intro _; rfl) : RT X W pa a (dTruth da) := (pt_truth ha he).impD fun _ _ _ h => truth_ok h
theorem w_and1 (ha : RT X W pa a ta) : RW X W pa (.BoolOp .And [a] pos) ta := pw_and1 ha
theorem w_or1 (ha : RT X W pa a ta) : RW X W pa (.BoolOp .Or [a] pos) ta := pw_or1 ha
theorem w_and (ha : RT X W pa a ta) (hb : RW X W pb (.BoolOp .And (b :: es) pos) tb) : RW X W (pa && pb) (.BoolOp .And (a :: b :: es) pos) (dAnd ta tb) := (pw_and ha hb).impD fun _ _ _ h => and_ok h
theorem w_or (ha : RT X W pa a ta) (hb : RW X W pb (.BoolOp .Or (b :: es) pos) tb) : RW X W (pa && pb) (.BoolOp .Or (a :: b :: es) pos) (dOr ta tb) := (pw_or ha hb).impD fun _ _ _ h => or_ok h
theorem t_w (h : RW X W pa a ta) : RT X W pa a ta := PW.pt h
theorem t_not (ha : RT X W pa a ta) : RT X W pa (.UnaryOp .Not a pos) (dNot ta) := (pt_not ha).impD fun _ _ _ h => not_ok h
theorem e_and1 {op} (ha : RE X W pa a da) : RE X W pa (.BoolOp op [a] pos) da := pe_one ha
theorem e_andV (ha : RE X W pa a da) (hb : RE X W pb (.BoolOp .And (b :: es) pos) db) : RE X W (pa && pb) (.BoolOp .And (a :: b :: es) pos) (dAndV da db) := (pe_and ha hb).impD fun _ _ _ h => andV_ok h
theorem e_orV (ha : RE X W pa a da) (hb : RE X W pb (.BoolOp .Or (b :: es) pos) db) : RE X W (pa && pb) (.BoolOp .Or (a :: b :: es) pos) (dOrV da db) := (pe_or ha hb).impD fun _ _ _ h => orV_ok h
theorem e_notV (ha : RE X W pa a da) : RE X W pa (.UnaryOp .Not a pos) (dNotV da) := (pe_not ha).impD fun _ _ _ h => notV_ok h
theorem e_if (hc : RT X W pc c tc) (ha : RE X W pa a da) (hb : RE X W pb b db) : RE X W (pc && (pa && pb)) (.IfExp c a b pos) (dIf tc da db) := (pe_ifExp hc ha hb).impD fun _ _ _ h => ifE_ok h
theorem e_idx (ha : RE X W pa a da) (hb : RE X W pb b db) (hs : PlainIx b := by exact fun _ _ => rfl) : RE X W (pa && pb) (.Subscript a b pos) (dIdx pb da db) := (pe_ix ix_seq ha hb hs).impD fun _ _ _ h => index_ok h
theorem o_none : ROp X W true none dNoPart := po_none.impD fun _ _ _ h => noPart_ok h
theorem o_some (ha : RE X W pa a da) : ROp X W pa (some a) (dPart da) := (po_some ha).impD fun _ _ _ h => part_ok h
theorem e_sl {lo hi : Option Expr} {dl dh : Den (Option Int)} {p2 : Pos} (ha : RE X W pa a da) (hl : ROp X W pb lo dl) (hh : ROp X W pc hi dh) : RE X W (pa && (pb && pc)) (.Subscript a (.Slice lo hi none p2) pos) (dSl (pb && pc) da dl dh) := (pe_slice sl_any ha hl hh).impD fun _ _ _ h => sl_ok h
theorem a_nil : RA X W true [] dNil := pa_nil.impD fun _ _ _ h => args_nil h
theorem a_cons (ha : RE X W pa e da) (hr : RA X W pb es das) (hs : starEach (e :: es) X.env = (false, eval e X.env) :: starEach es X.env := by rfl) : RA X W (pa && pb) (e :: es) (dCons pb da das) := (pa_cons ha hr hs).impD fun _ _ _ h => args_cons h
theorem e_tup {x1} (h : RA X W pa es das) : RE X W pa (.Tuple es x1 pos) (dTup das) := (pe_tup h).impD fun _ _ _ h => disp_tup h
theorem e_lst (h : RA X W pa es das) : RE X W pa (.List es pos) (dLst das) := (pe_lst h).impD fun _ _ _ h => disp_lst h
theorem e_callB {id : String} {r : List V → Hp → VK → Prop} {f : List D → Option OR} {x : Str} {p : Pos} (hc : CallR X (.builtin id) r) (hx : CallX X.K f r) (hg : Gl X x) (hm : X.mg x = none) (hv : bootBuiltins x = some (.builtin id)) (ha : RA X W pa (e :: es) das) (hn : x ≠ "__name__" := by decide) (hdb : (x == ("__debug__" : Str)) = false := by decide)
    (he : starEach (e :: es) X.env = (false, eval e X.env) :: starEach es X.env := by rfl) (hpl : (backTo pos (starEach es X.env)).any (·.1) = false := by rfl) : RE X W pa (.Call (.Name x p) (e :: es) [] pos) (dCall f das) := (pe_callB hc hg hm hv ha hn hdb he hpl).impD fun _ _ _ h => call_ok hx h
theorem e_callT {T : String} {r : List V → Hp → VK → Prop} {f : List D → Option OR} {x : Str} {p : Pos} (hc : CallR X (.type T) r) (hx : CallX X.K f r) (hg : Gl X x) (hm : X.mg x = none) (hv : bootBuiltins x = some (.type T)) (ha : RA X W pa (e :: es) das) (hn : x ≠ "__name__" := by decide) (hdb : (x == ("__debug__" : Str)) = false := by decide)
    (he : starEach (e :: es) X.env = (false, eval e X.env) :: starEach es X.env := by rfl) (hpl : (backTo pos (starEach es X.env)).any (·.1) = false := by rfl) : RE X W pa (.Call (.Name x p) (e :: es) [] pos) (dCall f das) := (pe_callTy hc hg hm hv ha hn hdb he hpl).impD fun _ _ _ h => call_ok hx h
theorem x_nil : RAs X W true [] dAsNil := pa_nil.impD fun _ _ _ h => asNil_ok h
theorem x_var {i : Nat} {x : Str} {p : Pos} {dr : Den (List Arg)} (h : PE X (.Name x p) (tVar i)) (hr : RAs X W pb es dr) (hs : starEach (.Name x p :: es) X.env = (false, eval (.Name x p) X.env) :: starEach es X.env := by rfl) : RAs X W pb (.Name x p :: es) (dAsV i dr) := (pa_cons h hr hs).impD fun _ _ _ h => asV_ok h
theorem x_cons {dr : Den (List Arg)} (ha : RE X W pa e da) (hr : RAs X W pb es dr) (hs : starEach (e :: es) X.env = (false, eval e X.env) :: starEach es X.env := by rfl) : RAs X W (pa && pb) (e :: es) (dAsC pb da dr) := (pa_cons ha hr hs).impD fun _ _ _ h => asC_ok h
theorem e_call {k n : Nat} {f : Addr} {fd : FuncData} {ps : List Str} {fden : FDen} {x : Str} {p : Pos} {dr : Den (List Arg)} (F : FnOk X.prog X.w X.K X.mg X.base (L2.CX X.prog X.w) k f fd ps (SpD X.K X.mg n fden)) (tk : Takes X W) (hr : Room k X.A) (hg : Gl X x) (hm : X.mg x = some (.ref f)) (hk : PySem.W.keepIn X.K (.ref f) = true) (hb : L2.Binds X.K fd ps [])
    (ha : RAs X W pa (e :: es) dr) (hdb : (x == ("__debug__" : Str)) = false := by decide) (he : starEach (e :: es) X.env = (false, eval e X.env) :: starEach es X.env := by rfl) (hpl : (backTo pos (starEach es X.env)).any (·.1) = false := by rfl) :
    RE X W false (.Call (.Name x p) (e :: es) [] pos) (dCallF n fden dr) := (pe_callS F hr hg hm hk hb (fun σ => passAt tk σ) ha hdb he hpl).impD fun _ _ _ h => callF_ok h

/-! what is walked -/
theorem i_any {tg : Expr} (h : RE X W pa e da) : RIt X W pa tg e (dItems da) := PI.imp (pi_any h) fun _ _ _ h => items_ok h
theorem i_range {tg : Expr} {p : Pos} (hg : Gl X "range") (hm : X.mg "range" = none) (ha : RA X W pa [a] das) (hs : starEach [a] X.env = [(false, eval a X.env)] := by rfl) : RIt X W pa tg (.Call (.Name "range" p) [a] [] pos) (dRange das) := PI.imp (pi_range1 hg hm ha hs) fun _ _ _ h => range_ok h
theorem i_range2 {tg : Expr} {p : Pos} (hg : Gl X "range") (hm : X.mg "range" = none) (ha : RA X W pa [a, b] das) (hs : starEach [a, b] X.env = [(false, eval a X.env), (false, eval b X.env)] := by rfl) (hs2 : starEach [b] X.env = [(false, eval b X.env)] := by rfl) : RIt X W pa tg (.Call (.Name "range" p) [a, b] [] pos) (dRange2 das) := PI.imp (pi_range2 hg hm ha hs hs2) fun _ _ _ h => range2_ok h
theorem i_enum {p tpos : Pos} {elts : List Expr} {kk : Nat} (hg : Gl X "enumerate") (hm : X.mg "enumerate" = none) (ha : RA X W pa [e] das) (hs : starEach [e] X.env = [(false, eval e X.env)] := by rfl) : RIt X W pa (.Tuple elts kk tpos) (.Call (.Name "enumerate" p) [e] [] pos) (dEnum das) := PI.imp (pi_enum hg hm ha hs) fun _ _ _ h => enum_ok h
theorem i_zip {p tpos : Pos} {elts : List Expr} {kk : Nat} (hg : Gl X "zip") (hm : X.mg "zip" = none) (ha : RA X W pa [a, b] das) (hs : starEach [a, b] X.env = (false, eval a X.env) :: starEach [b] X.env := by rfl) (hpl : (backTo pos (starEach [b] X.env)).any (·.1) = false := by rfl) : RIt X W pa (.Tuple elts kk tpos) (.Call (.Name "zip" p) [a, b] [] pos) (dZip das) := PI.imp (pi_zip hg hm ha hs hpl) fun _ _ _ h => zip_ok h

/-! targets -/
variable {A : List Nat}
theorem g_name {i : Nat} {x : Str} (h : PG X (.Name x pos) (gName i)) (hi : i ∈ A) : RG X A (.Name x pos) (gSet i) := PG.imp h fun _ _ _ _ => gname_ok hi
theorem gs_nil : RGs X A [] gsNil := PGs.imp pgs_nil fun _ _ _ _ => gsnil_ok
theorem gs_cons {t : DenG} {u : List D → Rho → Option Rho} (h : RG X A e t) (hr : RGs X A es u) (hs : (assignEach (e :: es) X.env).map (·.2) = assign e X.env :: (assignEach es X.env).map (·.2) := by rfl) : RGs X A (e :: es) (gsCons t u) := PGs.imp (pgs_cons h hr hs) fun _ _ _ _ => gscons_ok
theorem g_tup {k n : Nat} {u : List D → Rho → Option Rho} (hc : X.calm = true) (h : RGs X A es u) (hn : (assignEach es X.env).length = n := by rfl) (hst : (assignEach es X.env).findIdx? (·.1) = none := by rfl) : RG X A (.Tuple es k pos) (gTupD n u) := PG.imp (PG.orX (pg_tup hc h hn hst) (pg_lst hc h hn hst)) fun _ _ _ _ => gtup_ok

/-! comprehensions -/
theorem ts_nil : PTs X [] (tT X.K X.mg W true (dRet true)) := L2.PTs.impD pts_nil fun σ H Q h => by
  obtain ⟨ρ, R, F, res, hS, hden, hQ⟩ := h
  cases hden
  exact hQ.rb hS
theorem ts_one {c : Expr} {t : Den Bool} (h : RT X W pa c t) : PTs X [c] (tT X.K X.mg W pa t) := pts_one h
theorem e_comp {elt tg iter : Expr} {ifs : List Expr} {scope : Scope} {own : List (Str × Nat)} {k : Sh} {di : Den (List D)} {dg : DenG} {tt : Den Bool} {te : Den DV} (hc : X.calm = true) (hN : X.N.Nodup) (hi : RIt X W pa tg iter di) (ok : BlkOk X.N X.env.scope scope own)
    (hg : ∀ (s : Shared) (H : Hp) (C : Addr) (cl : List (Str × Addr)) (fp : List Addr), RG (X.blk s H scope (compEnvC scope cl C X.env) fp) (own.map (·.2)) tg dg) (ht : ∀ (s : Shared) (H : Hp) (C : Addr) (cl : List (Str × Addr)) (fp : List Addr), PTs (X.blk s H scope (compEnvC scope cl C X.env) fp) ifs (tT X.K X.mg W0 pb tt))
    (he : ∀ (s : Shared) (H : Hp) (C : Addr) (cl : List (Str × Addr)) (fp : List Addr), RE (X.blk s H scope (compEnvC scope cl C X.env) fp) W0 pc elt te) (hs : ∀ x, foldedSetIterable iter X.env x = pure x := by intro _; rfl) :
    RE X W (pa && (pb && pc)) (.ListComp elt [⟨tg, iter, ifs, 0⟩] scope pos) (dComp (own.map (·.2)) k di dg tt te) := (pe_lc hc hN hi ok hg ht he hs).impD fun _ _ _ h => comp_ok h
theorem s_setLc {i : Nat} {y : Str} {py spos : Pos} {elt tg iter : Expr} {ifs : List Expr} {scope : Scope} {own : List (Str × Nat)} {k : Sh} {di : Den (List D)} {dg : DenG} {tt : Den Bool} {te : Den DV} (hA : i ∈ A) (hc : X.calm = true) (hN : X.N.Nodup) (hy : X.N[i]? = some y) (hyl : X.env.scope.names.lookup y = some .local)
    (hsw : swapsWith (.ListComp elt [⟨tg, iter, ifs, 0⟩] scope pos) (some (.Name y py)) spos.line X.env = pure true) (hi : RIt X W pa tg iter di) (ok : BlkOk X.N X.env.scope scope own)
    (hg : ∀ (s : Shared) (H : Hp) (C : Addr) (cl : List (Str × Addr)) (fp : List Addr), RG (X.blk s H scope (compEnvC scope cl C X.env) fp) (own.map (·.2)) tg dg) (ht : ∀ (s : Shared) (H : Hp) (C : Addr) (cl : List (Str × Addr)) (fp : List Addr), PTs (X.blk s H scope (compEnvC scope cl C X.env) fp) ifs (tT X.K X.mg W0 pb tt))
    (he : ∀ (s : Shared) (H : Hp) (C : Addr) (cl : List (Str × Addr)) (fp : List Addr), RE (X.blk s H scope (compEnvC scope cl C X.env) fp) W0 pc elt te) (hs : ∀ x, foldedSetIterable iter X.env x = pure x := by intro _; rfl) :
    RS X W A (.Assign [.Name y py] (.ListComp elt [⟨tg, iter, ifs, 0⟩] scope pos) spos) (sSet i (dComp (own.map (·.2)) k di dg tt te)) :=
  (ps_setLc hc hN hy hyl hsw hi ok hg ht he hs).impD fun D σ H h => comp_ok (set_ok (pa := pa && (pb && pc)) hA h)

theorem e_comp2 {elt tg iter tg1 iter1 : Expr} {ifs ifs1 : List Expr} {scope : Scope} {own : List (Str × Nat)} {vs1 : List Nat} {pd pe : Bool} {k : Sh} {di di1 : Den (List D)} {dg dg1 : DenG} {tt tt1 : Den Bool} {te : Den DV} (hc : X.calm = true) (hN : X.N.Nodup) (hv : ∀ i ∈ vs1, i ∈ own.map (·.2)) (hi : RIt X W pa tg iter di) (ok : BlkOk X.N X.env.scope scope own)
    (hg : ∀ (s : Shared) (H : Hp) (C : Addr) (cl : List (Str × Addr)) (fp : List Addr), RG (X.blk s H scope (compEnvC scope cl C X.env) fp) (own.map (·.2)) tg dg) (ht : ∀ (s : Shared) (H : Hp) (C : Addr) (cl : List (Str × Addr)) (fp : List Addr), PTs (X.blk s H scope (compEnvC scope cl C X.env) fp) ifs (tT X.K X.mg W0 pb tt))
    (hi1 : ∀ (s : Shared) (H : Hp) (C : Addr) (cl : List (Str × Addr)) (fp : List Addr), RIt (X.blk s H scope (compEnvC scope cl C X.env) fp) W0 pc tg1 iter1 di1)
    (hg1 : ∀ (s : Shared) (H : Hp) (C : Addr) (cl : List (Str × Addr)) (fp : List Addr), RG (X.blk s H scope (compEnvC scope cl C X.env) fp) vs1 tg1 dg1) (ht1 : ∀ (s : Shared) (H : Hp) (C : Addr) (cl : List (Str × Addr)) (fp : List Addr), PTs (X.blk s H scope (compEnvC scope cl C X.env) fp) ifs1 (tT X.K X.mg W0 pd tt1))
    (he : ∀ (s : Shared) (H : Hp) (C : Addr) (cl : List (Str × Addr)) (fp : List Addr), RE (X.blk s H scope (compEnvC scope cl C X.env) fp) W0 pe elt te) (hs : ∀ x, foldedSetIterable iter X.env x = pure x := by intro _; rfl) (hs1 : ∀ env x, foldedSetIterable iter1 env x = pure x := by intro _ _; rfl) :
    RE X W (pa && (pb && (pc && (pd && pe)))) (.ListComp elt [⟨tg, iter, ifs, 0⟩, ⟨tg1, iter1, ifs1, 0⟩] scope pos) (dComp2 (own.map (·.2)) vs1 k di dg tt di1 dg1 tt1 te) := (pe_lc2 hc hN hi ok hv hg ht hi1 hg1 ht1 he hs hs1).impD fun _ _ _ h => comp2_ok hv h

/-! statements -/
variable {st : Stmt} {rest : List Stmt} {ds dr : DenS}
theorem b_nil : RSs X W A [] sNil := pss_nil.impD fun _ _ _ h => nil_ok h
theorem b_cons (h : RS X W A st ds) (hr : RSs X W A rest dr) : RSs X W A (st :: rest) (sSeq ds dr) := (pss_cons h hr).impD fun _ _ _ h => seq_ok h
theorem b_one (h : RS X W A st ds) : RSs X W A [st] ds := pss_one h
theorem s_pass : RS X W A (.Pass pos) sNil := ps_pass.impD fun _ _ _ h => nil_ok h
theorem s_break : RS X W A (.Break pos) sBreak := ps_break.impD fun _ _ _ h => break_ok h
theorem s_cont : RS X W A (.Continue pos) sCont := ps_continue.impD fun _ _ _ h => cont_ok h
theorem s_if {bs cs : List Stmt} (hc : RT X W pc c tc) (ha : RSs X W A bs ds) (hb : RSs X W A cs dr) : RS X W A (.If c bs cs pos) (sIf tc ds dr) := (ps_if hc ha hb).impD fun _ _ _ h => ifS_ok h
theorem s_expr (ha : RE X W pa e da) (hs : swapsWith e none pos.line X.env = pure false := by rfl) : RS X W A (.Expr e pos) (sExpr da) := (ps_expr ha hs).impD fun _ _ _ h => expr_ok h
theorem s_ret (ha : RE X W pa e da) : RS X W A (.Return (some e) pos) (sRet da) := (ps_ret ha).impD fun _ _ _ h => ret_ok h
theorem s_retN : RS X W A (.Return none pos) sRetN := ps_retN.impD fun _ _ _ h => retN_ok h
theorem s_set {i : Nat} {x : Str} {pos' : Pos} (hA : i ∈ A) (hN : X.N.Nodup) (hi : X.N[i]? = some x) (hx : Loc X.env.scope x) (he : RE X W pa e da) (hs : swapsWith e (some (.Name x pos')) pos.line X.env = pure false := by rfl) (hf : X.fn x = true ∨ X.env.scope.names.lookup x = some .local := by first | exact .inl rfl | exact .inr rfl) :
    RS X W A (.Assign [.Name x pos'] e pos) (sSet i da) := (ps_set hN hi hx he hs hf).impD fun _ _ _ h => set_ok hA h
theorem s_asg {tg : Expr} {g : DenG} (he : RE X W pa e da) (hg : RG X A tg g) (hs : swapsWithSole [tg] e pos.line X.env = pure false := by rfl) (hw : swappedStores [tg] e X.env = pure none := by rfl) (h1 : (assignEach [tg] X.env).map (·.2) = [assign tg X.env] := by rfl) :
    RS X W A (.Assign [tg] e pos) (sAsg da g) := (ps_asg he hg hs hw h1).impD fun _ _ _ h => asg_ok h
theorem s_par {i j : Nat} {x y : Str} {px py pt : Pos} {kt k2 pt2} (hAi : i ∈ A) (hAj : j ∈ A) (hc : X.calm = true) (hN : X.N.Nodup) (hi : X.N[i]? = some x) (hj : X.N[j]? = some y) (hij : i ≠ j) (hx : X.env.scope.names.lookup x = some .local) (hy : X.env.scope.names.lookup y = some .local) (ha : RA X W pa [a, b] das)
    (hw : swappedStores [.Tuple [.Name x px, .Name y py] kt pt] (.Tuple [a, b] k2 pt2) X.env = pure (some [x, y]) := by rfl) (hs : swapsWithSole [.Tuple [.Name x px, .Name y py] kt pt] (.Tuple [a, b] k2 pt2) pos.line X.env = pure false := by rfl) :
    RS X W A (.Assign [.Tuple [.Name x px, .Name y py] kt pt] (.Tuple [a, b] k2 pt2) pos) (sPar i j das) := (ps_par hc hN hi hj hij hx hy ha hw hs).impD fun _ _ _ h => par_ok hAi hAj h
theorem s_for {tg iter : Expr} {body : List Stmt} {di : Den (List D)} {g : DenG} (hp : PassesOwn (model X.prog X.w) X.A X.env X.xe) (hc : X.calm = true) (hi : RIt X W pa tg iter di) (hg : RG X A tg g) (hb : RSs X W A body ds) (hs : ∀ x, foldedSetIterable iter X.env x = pure x := by intro _; rfl) :
    RS X W A (.For tg iter body [] pos) (sFor di g ds) := (ps_for hp hc hi hg hb hs).impD fun _ _ _ h => for_ok h
theorem s_while {body : List Stmt} {n : Nat} (hp : PassesOwn (model X.prog X.w) X.A X.env X.xe) (hc : RT X W pc c tc) (hb : RSs X W A body ds) : RS X W A (.While c body [] pos) (whileF tc ds n) := (ps_while hp hc hb).impD fun _ _ _ h => while_ok h
theorem s_append {ks : Sh} {i : Nat} {x : Str} {px apos cpos : Pos} (h : PE X (.Name x px) (tVar i)) (ha : RE X W pa e da) (hline : (apos.endLine == cpos.line) = true := by rfl)
    (hbase : attributeBase (.Name x px) "append" X.env (eval (.Name x px) X.env) = eval (.Name x px) X.env := by rfl) (hfew : ((backTo cpos (starEach [e] X.env)).all (fun x => !x.1) && (backToKw cpos (keywordEach [] X.env)).all (fun x => x.1.isSome) && decide (([e] : List Expr).length + ([] : List Keyword).length + (if ([] : List Keyword).isEmpty then 0 else 1) < 30)) = true := by rfl)
    (hst : starEach [e] X.env = (false, eval e X.env) :: starEach [] X.env := by rfl) (hplain : (backTo cpos (starEach [] X.env)).any (·.1) = false := by rfl) (hs : swapsWith (.Call (.Attribute (.Name x px) "append" apos) [e] [] cpos) none pos.line X.env = pure false := by rfl) :
    RS X W A (.Expr (.Call (.Attribute (.Name x px) "append" apos) [e] [] cpos) pos) (sAppend ks i da) :=
  (ps_expr (pe_bm PySem.F.plainAttrs_list PySem.F.slot_list_append PySem.F.type_list_append mt_append h (pa_cons ha pa_nil hst) hbase hfew hline hst hplain) hs).impD fun _ _ _ h => append_ok h
theorem e_pop {i : Nat} {x : Str} {px apos cpos : Pos} (h : PE X (.Name x px) (tVar i)) (hbase : attributeBase (.Name x px) "pop" X.env (eval (.Name x px) X.env) = eval (.Name x px) X.env := by rfl) (hline : (apos.endLine == cpos.line) = true := by rfl) :
    RE X W false (.Call (.Attribute (.Name x px) "pop" apos) [] [] cpos) (dPop i) := (pe_bm0 PySem.F.plainAttrs_list PySem.F.slot_list_pop PySem.F.type_list_pop mt_pop h hbase hline).impD fun _ _ _ h => pop_ok h
theorem e_popAt {i : Nat} {x : Str} {px apos cpos : Pos} (h : PE X (.Name x px) (tVar i)) (ha : RE X W pa e da) (hline : (apos.endLine == cpos.line) = true := by rfl)
    (hbase : attributeBase (.Name x px) "pop" X.env (eval (.Name x px) X.env) = eval (.Name x px) X.env := by rfl) (hfew : ((backTo cpos (starEach [e] X.env)).all (fun x => !x.1) && (backToKw cpos (keywordEach [] X.env)).all (fun x => x.1.isSome) && decide (([e] : List Expr).length + ([] : List Keyword).length + (if ([] : List Keyword).isEmpty then 0 else 1) < 30)) = true := by rfl)
    (hst : starEach [e] X.env = (false, eval e X.env) :: starEach [] X.env := by rfl) (hplain : (backTo cpos (starEach [] X.env)).any (·.1) = false := by rfl) :
    RE X W false (.Call (.Attribute (.Name x px) "pop" apos) [e] [] cpos) (dPopAt i da) := (pe_bm PySem.F.plainAttrs_list PySem.F.slot_list_pop PySem.F.type_list_pop mt_popAt h (pa_cons ha pa_nil hst) hbase hfew hline hst hplain).impD fun _ _ _ h => popAt_ok h
theorem s_setItem {i : Nat} {x : Str} {px tpos : Pos} {ix : Expr} (h : PE X (.Name x px) (tVar i)) (hi : RE X W pb ix db) (he : RE X W pa e da) (hs : swapsWithSole [.Subscript (.Name x px) ix tpos] e pos.line X.env = pure false := by rfl) (hw : swappedStores [.Subscript (.Name x px) ix tpos] e X.env = pure none := by rfl)
    (h1 : (assignEach [.Subscript (.Name x px) ix tpos] X.env).map (·.2) = [assign (.Subscript (.Name x px) ix tpos) X.env] := by rfl) (hsub : ∀ v, assign (.Subscript (.Name x px) ix tpos) X.env v = (do
      let ov ← holding [v] (eval (.Name x px) X.env)
      let iv ← holding [v, ov] (eval ix X.env)
      standAt tpos
      holding [v, ov, iv] (setItem ov iv v)
      release [v, ov, iv] []) := by intro _; rfl) : RS X W A (.Assign [.Subscript (.Name x px) ix tpos] e pos) (sSetItem i da db) := (ps_asg he (pg_sub h hi set_list hsub) hs hw h1).impD fun _ _ _ h => setItem_ok h
theorem s_setItem2 {i : Nat} {x : Str} {px ppos tpos : Pos} {ix iy : Expr} (h : PE X (.Name x px) (tVar i)) (hx : RE X W pb ix db) (hy : RE X W true iy dc) (he : RE X W pa e da) (hpl : PlainIx ix := by exact fun _ _ => rfl) (hs : swapsWithSole [.Subscript (.Subscript (.Name x px) ix ppos) iy tpos] e pos.line X.env = pure false := by rfl) (hw : swappedStores [.Subscript (.Subscript (.Name x px) ix ppos) iy tpos] e X.env = pure none := by rfl)
    (h1 : (assignEach [.Subscript (.Subscript (.Name x px) ix ppos) iy tpos] X.env).map (·.2) = [assign (.Subscript (.Subscript (.Name x px) ix ppos) iy tpos) X.env] := by rfl) (hsub : ∀ v, assign (.Subscript (.Subscript (.Name x px) ix ppos) iy tpos) X.env v = (do
      let ov ← holding [v] (eval (.Subscript (.Name x px) ix ppos) X.env)
      let iv ← holding [v, ov] (eval iy X.env)
      standAt tpos
      holding [v, ov, iv] (setItem ov iv v)
      release [v, ov, iv] []) := by intro _; rfl) : RS X W A (.Assign [.Subscript (.Subscript (.Name x px) ix ppos) iy tpos] e pos) (sSetItem2 i da db dc) := (ps_asg he (pg_sub (pe_ix ix_seq h hx hpl) hy set_list hsub) hs hw h1).impD fun _ _ _ h => setItem2_ok h
end
end Den

namespace Den
open PySem PySem.Spec PyProof.Rows L2
theorem fn_none {P : Program} {w : World} {K : PySem.W.Frag} {mg : Str → Option Value} {base : Heap} {CX : CXT} {k n : Nat} {f : Addr} {fd : FuncData} {ps : List Str} : FnOk P w K mg base CX k f fd ps (SpD K mg n fun _ => none) :=
  ⟨fun vs H Q E h => (by obtain ⟨_, _, _, _, _, _, e, _⟩ := h; cases e), fun A outer s H args us vs Q E hr he hb hv h => (by obtain ⟨_, _, _, _, _, _, e, _⟩ := h; cases e)⟩
theorem room65 {k : Nat} {A : Around} (r : Room k A) : A.units + 65 < cLine := by have := r.un; omega
/-- a while's turns at most (never counted) -/
def WN : Nat := 1000000000000
end Den
namespace Den
open PySem PySem.Spec PyProof.Rows L2
theorem ints_all {K : PySem.W.Frag} {R : Hp} : ∀ ns : List Int, AtAll K R (ns.map V.int) (ns.map D.int)
  | [] => .nil
  | n :: ns => .cons (.int n) (ints_all ns)
theorem cx_false {P : Program} {w : World} {H : Hp} {s s' : Shared} {e : Value} {l : List PySem.Env} (h : L2.CX P w l H s (fun _ _ _ => False) e s') : False := by
  obtain ⟨_, _, _, _, _, _, _, _, _, _, _, _, z⟩ := h
  exact z
end Den

namespace Den
open PySem PySem.Spec PyProof.Rows L2
/-! what waits: nothing is done in it -/
inductive Tag {α : Sort u} (a : α) : Type where
  | mk
def tgz {α : Sort u} (a : α) : Tag a := .mk
def Lz {α : Sort u} {f : α} (_ : Tag f) : α := f
@[simp ↓] theorem Lz_1 {α : Sort u} {β : Sort v} {f : α → β} {t : Tag f} {x : α} : Lz t x = f x := id rfl
@[simp ↓] theorem Lz_2 {α : Sort u} {β : Sort v} {γ : Sort w} {f : α → β → γ} {t : Tag f} {x : α} {y : β} : Lz t x y = f x y := id rfl
/-! what is wanted of a meaning -/
def wO {α : Type} (o : Option α) (k : α → Prop) : Prop := match o with
  | none => False
  | some a => k a
def uE {α : Type} (m : Den α) (Q : Rho → α → Prop) (X : Rho → Exn → Prop) (ρ : Rho) : Prop := match m ρ with
  | none => False
  | some (.ok ρ' a) => Q ρ' a
  | some (.ex ρ' x) => X ρ' x
def uS (s : DenS) (N : Rho → Prop) (T : Rho → DV → Prop) (B C : Rho → Prop) (X : Rho → Exn → Prop) (ρ : Rho) : Prop := match s ρ with
  | none => False
  | some (.nx ρ') => N ρ'
  | some (.rt ρ' a) => T ρ' a
  | some (.bk ρ') => B ρ'
  | some (.ct ρ') => C ρ'
  | some (.ex ρ' x) => X ρ' x
def uF (f : FDen) (Q : DV → List (Sh × D) → Prop) (X : Exn → List (Sh × D) → Prop) (args : List (Sh × D)) : Prop := match f args with
  | none => False
  | some (.ret a os) => Q a os
  | some (.ex x os) => X x os
theorem wO_congr {α : Type} {o o' : Option α} {k : α → Prop} (h : o = o') : wO o k = wO o' k := by rw [h]
theorem uE_congr {α : Type} {m : Den α} {Q : Rho → α → Prop} {X : Rho → Exn → Prop} {ρ ρ' : Rho} (h : ρ = ρ') : uE m Q X ρ = uE m Q X ρ' := by rw [h]
theorem uS_congrR {m : DenS} {N : Rho → Prop} {T : Rho → DV → Prop} {B C : Rho → Prop} {X : Rho → Exn → Prop} {ρ ρ' : Rho} (h : ρ = ρ') : uS m N T B C X ρ = uS m N T B C X ρ' := by rw [h]
theorem uF_congr {f : FDen} {Q : DV → List (Sh × D) → Prop} {X : Exn → List (Sh × D) → Prop} {a a' : List (Sh × D)} (h : a = a') : uF f Q X a = uF f Q X a' := by rw [h]
section
variable {α β : Type} {Q : Rho → α → Prop} {X : Rho → Exn → Prop} {ρ : Rho}
@[simp] theorem wO_some {α : Type} {a : α} {k : α → Prop} : wO (some a) k = k a := id rfl
@[simp] theorem wO_none {α : Type} {k : α → Prop} : wO none k = False := id rfl
theorem wO_map {α β : Type} {f : α → β} {o : Option α} {k : β → Prop} : wO (o.map f) k = wO o (fun a => k (f a)) := by cases o <;> rfl
@[simp] theorem wO_map_z {α β : Type} {f : α → β} {o : Option α} {k : β → Prop} : wO (o.map f) k = wO o ((Lz (tgz fun a => k (f a)))) := wO_map
@[simp] theorem wO_ite {α : Type} {c : Prop} [Decidable c] {a b : Option α} {k : α → Prop} : wO (if c then a else b) k = if c then wO a k else wO b k := by split <;> rfl
theorem uE_bind {m : Den β} {f : β → Den α} : uE (dBind m f) Q X ρ = uE m (fun ρ a => uE (f a) Q X ρ) X ρ := by
  unfold uE dBind; cases m ρ with
  | none => rfl
  | some r => cases r <;> rfl
@[simp ↓] theorem uE_ret {a : α} : uE (dRet a) Q X ρ = Q ρ a := id rfl
@[simp ↓] theorem uE_fail : uE dFail Q X ρ = False := id rfl
theorem uE_lift {o : Option β} {f : β → Den α} : uE (dLift o f) Q X ρ = wO o (fun a => uE (f a) Q X ρ) := by
  unfold uE dLift; cases o <;> rfl
theorem uE_ite {c : Prop} [Decidable c] {a b : Den α} : uE (if c then a else b) Q X ρ = if c then uE a Q X ρ else uE b Q X ρ := by split <;> rfl
end
section
variable {Q : Rho → DV → Prop} {X : Rho → Exn → Prop} {ρ : Rho}
def rdM : Sh → Md
  | .im => .sh .im
  | .ow _ => .bo
@[simp] theorem rdM_im : rdM .im = .sh .im := id rfl
@[simp] theorem rdM_ow {k : Sh} : rdM (.ow k) = .bo := id rfl
def wSlot (o : Option Slot) (k : Sh → D → Prop) : Prop := match o with
  | some (some (s, d)) => k s d
  | _ => False
@[simp ↓] theorem wSlot_some {s : Sh} {d : D} {k : Sh → D → Prop} : wSlot (some (some (s, d))) k = k s d := id rfl
@[simp ↓] theorem uE_C {d : D} : uE (dC d) Q X ρ = Q ρ (.sh .im, d) := id rfl
theorem uE_var {i : Nat} : uE (dVar i) Q X ρ = wSlot ρ[i]? fun s d => Q ρ (rdM s, d) := by
  unfold uE dVar; cases ρ[i]? with
  | none => rfl
  | some o => cases o with
    | none => rfl
    | some sd => obtain ⟨s, d⟩ := sd; cases s <;> rfl
@[simp ↓] theorem uE_var_z {i : Nat} : uE (dVar i) Q X ρ = wSlot ρ[i]? (Lz (tgz fun s d => Q ρ (rdM s, d))) := uE_var
theorem set_same {α : Type} {ρ : List α} {i : Nat} {x : α} (h : ρ[i]? = some x) : ρ.set i x = ρ := by
  apply List.ext_getElem?; intro j
  rw [List.getElem?_set]
  split
  · rename_i e; subst e; obtain ⟨hl, e⟩ := List.getElem?_eq_some_iff.1 h; simp [hl, ← e]
  · rfl
theorem uE_varF {i : Nat} : uE (dVarF i) Q X ρ = wSlot ρ[i]? fun _ d => Q (ρ.set i (some (.im, d))) (.sh .im, d) := by
  unfold uE dVarF; cases h : ρ[i]? with
  | none => rfl
  | some o => cases o with
    | none => rfl
    | some sd => obtain ⟨s, d⟩ := sd; cases s with
      | im => simp only [wSlot_some]; rw [set_same h]
      | ow k => rfl
@[simp ↓] theorem uE_varF_z {i : Nat} : uE (dVarF i) Q X ρ = wSlot ρ[i]? (Lz (tgz fun _ d => Q (ρ.set i (some (.im, d))) (.sh .im, d))) := uE_varF
theorem uE_varM {i : Nat} : uE (dVarM i) Q X ρ = wSlot ρ[i]? fun s d => Q (ρ.set i none) (.sh s, d) := by
  unfold uE dVarM; cases ρ[i]? with
  | none => rfl
  | some o => cases o with
    | none => rfl
    | some sd => rfl
@[simp ↓] theorem uE_varM_z {i : Nat} : uE (dVarM i) Q X ρ = wSlot ρ[i]? (Lz (tgz fun s d => Q (ρ.set i none) (.sh s, d))) := uE_varM
@[simp] theorem isBo_sh {s : Sh} {d : D} : isBo (.sh s, d) = false := id rfl
@[simp] theorem isBo_bo {d : D} : isBo (.bo, d) = true := id rfl
@[simp] theorem lent_s {d : D} : OR.lent (.s d) = true := id rfl
@[simp] theorem lent_l {d : List D} : OR.lent (.l d) = false := id rfl
@[simp] theorem lent_a {d : D} : OR.lent (.a d) = false := id rfl
@[simp] theorem val_s {d : D} : OR.val (.s d) = (.sh .im, d) := id rfl
@[simp] theorem val_l {d : List D} : OR.val (.l d) = (.sh (.ow .im), .lst d) := id rfl
@[simp] theorem val_a {d : D} : OR.val (.a d) = (.sh .im, d) := id rfl
theorem notC (c : Bool) (p q : Prop) : (if c = true then p else q) ↔ (if c = true then p else q) := Iff.rfl
theorem uE_bin {pb : Bool} {op : D → D → Option OR} {da db : Den DV} : uE (dBin pb op da db) Q X ρ = uE da (fun ρ a => (isBo a && !pb) = false ∧ uE db (fun ρ b => wO (op a.2 b.2) fun o => (!o.lent && (isBo a || isBo b)) = false ∧ Q ρ o.val) X ρ) X ρ := by
  unfold dBin; rw [uE_bind]; congr 1; funext ρ a
  rw [uE_ite]; split
  · rename_i h; simp [h]
  · rename_i h; rw [uE_bind, eq_true (Bool.eq_false_iff.2 h), true_and]; congr 1; funext ρ b; rw [uE_lift]; congr 1; funext o
    rw [uE_ite]; split
    · rename_i h; simp [h]
    · rename_i h; rw [eq_true (Bool.eq_false_iff.2 h), true_and]; rfl
@[simp ↓] theorem uE_bin_z {pb : Bool} {op : D → D → Option OR} {da db : Den DV} : uE (dBin pb op da db) Q X ρ = uE da ((Lz (tgz fun ρ a => (isBo a && !pb) = false ∧ uE db ((Lz (tgz fun ρ b => wO (op a.2 b.2) (Lz (tgz fun o => (!o.lent && (isBo a || isBo b)) = false ∧ Q ρ o.val))))) X ρ))) X ρ := uE_bin
theorem uE_un {op : D → Option OR} {da : Den DV} : uE (dUn op da) Q X ρ = uE da (fun ρ a => wO (op a.2) fun o => (!o.lent && isBo a) = false ∧ Q ρ o.val) X ρ := by
  unfold dUn; rw [uE_bind]; congr 1; funext ρ a
  rw [uE_lift]; congr 1; funext o
  rw [uE_ite]; split
  · rename_i h; simp [h]
  · rename_i h; rw [eq_true (Bool.eq_false_iff.2 h), true_and]; rfl
@[simp ↓] theorem uE_un_z {op : D → Option OR} {da : Den DV} : uE (dUn op da) Q X ρ = uE da ((Lz (tgz fun ρ a => wO (op a.2) (Lz (tgz fun o => (!o.lent && isBo a) = false ∧ Q ρ o.val))))) X ρ := uE_un
@[simp ↓] theorem uE_nil {Q : Rho → List DV → Prop} : uE dNil Q X ρ = Q ρ [] := id rfl
theorem uE_cons {pr : Bool} {da : Den DV} {dr : Den (List DV)} {Q : Rho → List DV → Prop} : uE (dCons pr da dr) Q X ρ = uE da (fun ρ a => (isBo a && !pr) = false ∧ uE dr (fun ρ as => Q ρ (a :: as)) X ρ) X ρ := by
  unfold dCons; rw [uE_bind]; congr 1; funext ρ a
  rw [uE_ite]; split
  · rename_i h; simp [h]
  · rename_i h; rw [eq_true (Bool.eq_false_iff.2 h), true_and, uE_bind]; rfl
@[simp ↓] theorem uE_cons_z {pr : Bool} {da : Den DV} {dr : Den (List DV)} {Q : Rho → List DV → Prop} : uE (dCons pr da dr) Q X ρ = uE da ((Lz (tgz fun ρ a => (isBo a && !pr) = false ∧ uE dr ((Lz (tgz fun ρ as => Q ρ (a :: as)))) X ρ))) X ρ := uE_cons
def noBo : List DV → Bool
  | [] => true
  | a :: as => !isBo a && noBo as
@[simp] theorem noBo_nil : noBo [] = true := id rfl
@[simp] theorem noBo_cons {a : DV} {as : List DV} : noBo (a :: as) = (!isBo a && noBo as) := id rfl
theorem noBo_eq : ∀ as : List DV, as.any isBo = !noBo as
  | [] => (rfl)
  | a :: as => by rw [List.any_cons, noBo_eq as, noBo_cons]; cases isBo a <;> simp
theorem uE_call {op : List D → Option OR} {da : Den (List DV)} : uE (dCall op da) Q X ρ = uE da (fun ρ as => wO (op (as.map (·.2))) fun o => (!o.lent && !noBo as) = false ∧ Q ρ o.val) X ρ := by
  simp only [← noBo_eq]
  unfold dCall; rw [uE_bind]; congr 1; funext ρ as
  rw [uE_lift]; congr 1; funext o
  rw [uE_ite]; split
  · rename_i h; simp [h]
  · rename_i h; rw [eq_true (Bool.eq_false_iff.2 h), true_and]; rfl
@[simp ↓] theorem uE_call_z {op : List D → Option OR} {da : Den (List DV)} : uE (dCall op da) Q X ρ = uE da ((Lz (tgz fun ρ as => wO (op (as.map (·.2))) (Lz (tgz fun o => (!o.lent && !noBo as) = false ∧ Q ρ o.val))))) X ρ := uE_call
theorem uE_tup {da : Den (List DV)} : uE (dTup da) Q X ρ = uE da (fun ρ as => noBo as = true ∧ as.length ≤ sizeLine ∧ Q ρ (.sh .im, .tup (as.map (·.2)))) X ρ := by
  have e : ∀ as, (noBo as = true) = (as.any isBo = false) := fun as => by rw [noBo_eq]; cases noBo as <;> simp
  simp only [e]
  unfold dTup; rw [uE_bind]; congr 1; funext ρ as
  rw [uE_ite]; split
  · rename_i h; simp [h]
  · rename_i h; rw [eq_true (Bool.eq_false_iff.2 h), true_and, uE_ite]; split
    · rename_i h; rw [eq_true h, true_and]; rfl
    · rename_i h; rw [eq_false h, false_and]; rfl
@[simp ↓] theorem uE_tup_z {da : Den (List DV)} : uE (dTup da) Q X ρ = uE da ((Lz (tgz fun ρ as => noBo as = true ∧ as.length ≤ sizeLine ∧ Q ρ (.sh .im, .tup (as.map (·.2)))))) X ρ := uE_tup
theorem uE_lst {da : Den (List DV)} : uE (dLst da) Q X ρ = uE da (fun ρ as => noBo as = true ∧ as.length ≤ sizeLine ∧ Q ρ (.sh (.ow .im), .lst (as.map (·.2)))) X ρ := by
  have e : ∀ as, (noBo as = true) = (as.any isBo = false) := fun as => by rw [noBo_eq]; cases noBo as <;> simp
  simp only [e]
  unfold dLst; rw [uE_bind]; congr 1; funext ρ as
  rw [uE_ite]; split
  · rename_i h; simp [h]
  · rename_i h; rw [eq_true (Bool.eq_false_iff.2 h), true_and, uE_ite]; split
    · rename_i h; rw [eq_true h, true_and]; rfl
    · rename_i h; rw [eq_false h, false_and]; rfl
@[simp ↓] theorem uE_lst_z {da : Den (List DV)} : uE (dLst da) Q X ρ = uE da ((Lz (tgz fun ρ as => noBo as = true ∧ as.length ≤ sizeLine ∧ Q ρ (.sh (.ow .im), .lst (as.map (·.2)))))) X ρ := uE_lst
def wBl (d : D) (k : Bool → Prop) : Prop := match d with
  | .bl b => k b
  | _ => False
theorem wBl_congr {o o' : D} {k : Bool → Prop} (h : o = o') : wBl o k = wBl o' k := by rw [h]
@[simp] theorem wBl_bl {b : Bool} {k : Bool → Prop} : wBl (.bl b) k = k b := id rfl
def wInt (d : D) (k : Int → Prop) : Prop := match d with
  | .int b => k b
  | _ => False
theorem wInt_congr {o o' : D} {k : Int → Prop} (h : o = o') : wInt o k = wInt o' k := by rw [h]
@[simp] theorem wInt_int {b : Int} {k : Int → Prop} : wInt (.int b) k = k b := id rfl
section
variable {Q : Rho → Bool → Prop}
theorem uE_tst {da : Den DV} : uE (dTst da) Q X ρ = uE da (fun ρ a => wBl a.2 (Q ρ)) X ρ := by
  unfold dTst; rw [uE_bind]; congr 1; funext ρ a; obtain ⟨m, d⟩ := a; cases d <;> rfl
@[simp ↓] theorem uE_tst_z {da : Den DV} : uE (dTst da) Q X ρ = uE da ((Lz (tgz fun ρ a => wBl a.2 (Q ρ)))) X ρ := uE_tst
theorem uE_truth {da : Den DV} : uE (dTruth da) Q X ρ = uE da (fun ρ a => wO (truthD a.2) (Q ρ)) X ρ := by
  unfold dTruth; rw [uE_bind]; congr 1; funext ρ a; rw [uE_lift]; rfl
@[simp ↓] theorem uE_truth_z {da : Den DV} : uE (dTruth da) Q X ρ = uE da ((Lz (tgz fun ρ a => wO (truthD a.2) (Q ρ)))) X ρ := uE_truth
theorem uE_and {da db : Den Bool} : uE (dAnd da db) Q X ρ = uE da (fun ρ c => if c = true then uE db Q X ρ else Q ρ false) X ρ := by
  unfold dAnd; rw [uE_bind]; congr 1; funext ρ c; rw [uE_ite]; rfl
@[simp ↓] theorem uE_and_z {da db : Den Bool} : uE (dAnd da db) Q X ρ = uE da ((Lz (tgz fun ρ c => if c = true then uE db Q X ρ else Q ρ false))) X ρ := uE_and
theorem uE_or {da db : Den Bool} : uE (dOr da db) Q X ρ = uE da (fun ρ c => if c = true then Q ρ true else uE db Q X ρ) X ρ := by
  unfold dOr; rw [uE_bind]; congr 1; funext ρ c; rw [uE_ite]; rfl
@[simp ↓] theorem uE_or_z {da db : Den Bool} : uE (dOr da db) Q X ρ = uE da ((Lz (tgz fun ρ c => if c = true then Q ρ true else uE db Q X ρ))) X ρ := uE_or
theorem uE_not {da : Den Bool} : uE (dNot da) Q X ρ = uE da (fun ρ c => Q ρ (!c)) X ρ := by
  unfold dNot; rw [uE_bind]; rfl
@[simp ↓] theorem uE_not_z {da : Den Bool} : uE (dNot da) Q X ρ = uE da ((Lz (tgz fun ρ c => Q ρ (!c)))) X ρ := uE_not
end
theorem uE_if {α : Type} {Q : Rho → α → Prop} {dc : Den Bool} {da db : Den α} : uE (dIf dc da db) Q X ρ = uE dc (fun ρ c => if c = true then uE da Q X ρ else uE db Q X ρ) X ρ := by
  unfold dIf; rw [uE_bind]; congr 1; funext ρ c; rw [uE_ite]
@[simp ↓] theorem uE_if_z {α : Type} {Q : Rho → α → Prop} {dc : Den Bool} {da db : Den α} : uE (dIf dc da db) Q X ρ = uE dc ((Lz (tgz fun ρ c => if c = true then uE da Q X ρ else uE db Q X ρ))) X ρ := uE_if
theorem uE_andV {da db : Den DV} : uE (dAndV da db) Q X ρ = uE da (fun ρ a => wBl a.2 fun b => if b = true then uE db Q X ρ else Q ρ (.sh .im, .bl false)) X ρ := by
  unfold dAndV; rw [uE_bind]; congr 1; funext ρ a; obtain ⟨m, d⟩ := a; cases d with
  | bl b => cases b <;> rfl
  | _ => rfl
@[simp ↓] theorem uE_andV_z {da db : Den DV} : uE (dAndV da db) Q X ρ = uE da ((Lz (tgz fun ρ a => wBl a.2 (Lz (tgz fun b => if b = true then uE db Q X ρ else Q ρ (.sh .im, .bl false)))))) X ρ := uE_andV
theorem uE_orV {da db : Den DV} : uE (dOrV da db) Q X ρ = uE da (fun ρ a => wBl a.2 fun b => if b = true then Q ρ (.sh .im, .bl true) else uE db Q X ρ) X ρ := by
  unfold dOrV; rw [uE_bind]; congr 1; funext ρ a; obtain ⟨m, d⟩ := a; cases d with
  | bl b => cases b <;> rfl
  | _ => rfl
@[simp ↓] theorem uE_orV_z {da db : Den DV} : uE (dOrV da db) Q X ρ = uE da ((Lz (tgz fun ρ a => wBl a.2 (Lz (tgz fun b => if b = true then Q ρ (.sh .im, .bl true) else uE db Q X ρ))))) X ρ := uE_orV
theorem uE_notV {da : Den DV} : uE (dNotV da) Q X ρ = uE da (fun ρ a => wBl a.2 fun b => Q ρ (.sh .im, .bl (!b))) X ρ := by
  unfold dNotV; rw [uE_bind]; congr 1; funext ρ a; obtain ⟨m, d⟩ := a; cases d <;> rfl
@[simp ↓] theorem uE_notV_z {da : Den DV} : uE (dNotV da) Q X ρ = uE da ((Lz (tgz fun ρ a => wBl a.2 (Lz (tgz fun b => Q ρ (.sh .im, .bl (!b))))))) X ρ := uE_notV
theorem uE_idx {pb : Bool} {da db : Den DV} : uE (dIdx pb da db) Q X ρ = uE da (fun ρ a => (isBo a && !pb) = false ∧ uE db (fun ρ b => isBo b = false ∧ wO (idxD a.2 b.2) fun d => Q ρ (itemMd a d)) X ρ) X ρ := by
  unfold dIdx; rw [uE_bind]; congr 1; funext ρ a
  rw [uE_ite]; split
  · rename_i h; simp [h]
  · rename_i h; rw [eq_true (Bool.eq_false_iff.2 h), true_and, uE_bind]; congr 1; funext ρ b; rw [uE_lift]
    cases isBo b <;> simp
@[simp ↓] theorem uE_idx_z {pb : Bool} {da db : Den DV} : uE (dIdx pb da db) Q X ρ = uE da ((Lz (tgz fun ρ a => (isBo a && !pb) = false ∧ uE db ((Lz (tgz fun ρ b => isBo b = false ∧ wO (idxD a.2 b.2) (Lz (tgz fun d => Q ρ (itemMd a d)))))) X ρ))) X ρ := uE_idx
@[simp ↓] theorem uE_noPart {Q : Rho → Option Int → Prop} : uE dNoPart Q X ρ = Q ρ none := id rfl
theorem uE_part {da : Den DV} {Q : Rho → Option Int → Prop} : uE (dPart da) Q X ρ = uE da (fun ρ a => wInt a.2 fun i => Q ρ (some i)) X ρ := by
  unfold dPart; rw [uE_bind]; congr 1; funext ρ a; obtain ⟨m, d⟩ := a; cases d <;> rfl
@[simp ↓] theorem uE_part_z {da : Den DV} {Q : Rho → Option Int → Prop} : uE (dPart da) Q X ρ = uE da ((Lz (tgz fun ρ a => wInt a.2 (Lz (tgz fun i => Q ρ (some i)))))) X ρ := uE_part
theorem uE_sl {pl : Bool} {da : Den DV} {dl dh : Den (Option Int)} : uE (dSl pl da dl dh) Q X ρ = uE da (fun ρ a => (isBo a && !pl) = false ∧ uE dl (fun ρ lo => uE dh (fun ρ hi => wO (sliceOp a.2 lo hi) fun o => (!o.lent && isBo a) = false ∧ Q ρ o.val) X ρ) X ρ) X ρ := by
  unfold dSl; rw [uE_bind]; congr 1; funext ρ a
  rw [uE_ite]; split
  · rename_i h; simp [h]
  · rename_i h; rw [eq_true (Bool.eq_false_iff.2 h), true_and, uE_bind]; congr 1; funext ρ lo; rw [uE_bind]; congr 1; funext ρ hi; rw [uE_lift]; congr 1; funext o
    rw [uE_ite]; split
    · rename_i h; simp [h]
    · rename_i h; rw [eq_true (Bool.eq_false_iff.2 h), true_and]; rfl
@[simp ↓] theorem uE_sl_z {pl : Bool} {da : Den DV} {dl dh : Den (Option Int)} : uE (dSl pl da dl dh) Q X ρ = uE da ((Lz (tgz fun ρ a => (isBo a && !pl) = false ∧ uE dl ((Lz (tgz fun ρ lo => uE dh ((Lz (tgz fun ρ hi => wO (sliceOp a.2 lo hi) (Lz (tgz fun o => (!o.lent && isBo a) = false ∧ Q ρ o.val))))) X ρ))) X ρ))) X ρ := uE_sl
/-! calls -/
def wSl2 (o : Option Slot) (k : Sh × D → Prop) : Prop := match o with
  | some (some sd) => k sd
  | _ => False
@[simp ↓] theorem uE_asNil {Q : Rho → List Arg → Prop} : uE dAsNil Q X ρ = Q ρ [] := id rfl
def asM (i : Nat) (d : D) : Sh → Arg
  | .im => .val (.sh .im, d)
  | .ow _ => .lent i
@[simp] theorem asM_im {i : Nat} {d : D} : asM i d .im = .val (.sh .im, d) := id rfl
@[simp] theorem asM_ow {i : Nat} {d : D} {k : Sh} : asM i d (.ow k) = .lent i := id rfl
theorem uE_asV {i : Nat} {dr : Den (List Arg)} {Q : Rho → List Arg → Prop} : uE (dAsV i dr) Q X ρ = wSlot ρ[i]? fun s d => uE dr (fun ρ as => Q ρ (asM i d s :: as)) X ρ := by
  unfold uE dAsV; cases ρ[i]? with
  | none => rfl
  | some o => cases o with
    | none => rfl
    | some sd => obtain ⟨s, d⟩ := sd; cases s with
      | im => with_unfolding_all exact uE_bind
      | ow k => with_unfolding_all exact uE_bind
@[simp ↓] theorem uE_asV_z {i : Nat} {dr : Den (List Arg)} {Q : Rho → List Arg → Prop} : uE (dAsV i dr) Q X ρ = wSlot ρ[i]? (Lz (tgz fun s d => uE dr ((Lz (tgz fun ρ as => Q ρ (asM i d s :: as)))) X ρ)) := uE_asV
theorem uE_asC {pr : Bool} {da : Den DV} {dr : Den (List Arg)} {Q : Rho → List Arg → Prop} : uE (dAsC pr da dr) Q X ρ = uE da (fun ρ a => (isBo a && !pr) = false ∧ uE dr (fun ρ as => Q ρ (.val a :: as)) X ρ) X ρ := by
  unfold dAsC; rw [uE_bind]; congr 1; funext ρ a
  rw [uE_ite]; split
  · rename_i h; simp [h]
  · rename_i h; rw [eq_true (Bool.eq_false_iff.2 h), true_and, uE_bind]; rfl
@[simp ↓] theorem uE_asC_z {pr : Bool} {da : Den DV} {dr : Den (List Arg)} {Q : Rho → List Arg → Prop} : uE (dAsC pr da dr) Q X ρ = uE da ((Lz (tgz fun ρ a => (isBo a && !pr) = false ∧ uE dr ((Lz (tgz fun ρ as => Q ρ (.val a :: as)))) X ρ))) X ρ := uE_asC
def wTk : List Arg → Rho → (List (Sh × D) → Rho → Prop) → Prop
  | [], ρ, k => k [] ρ
  | .val (.sh s, d) :: as, ρ, k => wTk as ρ fun l ρ' => k ((s, d) :: l) ρ'
  | .val (.bo, _) :: _, _, _ => False
  | .lent i :: as, ρ, k => wSlot ρ[i]? fun s d => wTk as (ρ.set i none) fun l ρ' => k ((s, d) :: l) ρ'
theorem wTk_eq : ∀ (as : List Arg) (ρ : Rho) (k : List (Sh × D) → Rho → Prop), wTk as ρ k = wO (takeAs as ρ) fun p => k p.1 p.2
  | [], _, _ => (rfl)
  | .val (.sh s, d) :: as, ρ, k => by
    unfold wTk takeAs; rw [wTk_eq as]; cases takeAs as ρ <;> rfl
  | .val (.bo, _) :: _, _, _ => (rfl)
  | .lent i :: as, ρ, k => by
    unfold wTk takeAs; cases ρ[i]? with
    | none => rfl
    | some o => cases o with
      | none => rfl
      | some sd => obtain ⟨s, d⟩ := sd; simp only [wSlot_some]; rw [wTk_eq as]; cases takeAs as (ρ.set i none) <;> rfl
theorem wTk_congr {a a' : List Arg} {ρ ρ' : Rho} {k : List (Sh × D) → Rho → Prop} (h : a = a') (h2 : ρ = ρ') : wTk a ρ k = wTk a' ρ' k := by rw [h, h2]
@[simp] theorem wTk_nil {k : List (Sh × D) → Rho → Prop} : wTk [] ρ k = k [] ρ := id rfl
theorem wTk_val {s : Sh} {d : D} {as : List Arg} {k : List (Sh × D) → Rho → Prop} : wTk (.val (.sh s, d) :: as) ρ k = wTk as ρ fun l ρ' => k ((s, d) :: l) ρ' := id rfl
@[simp] theorem wTk_val_z {s : Sh} {d : D} {as : List Arg} {k : List (Sh × D) → Rho → Prop} : wTk (.val (.sh s, d) :: as) ρ k = wTk as ρ (Lz (tgz fun l ρ' => k ((s, d) :: l) ρ')) := wTk_val
theorem wTk_lent {i : Nat} {as : List Arg} {k : List (Sh × D) → Rho → Prop} : wTk (.lent i :: as) ρ k = wSlot ρ[i]? fun s d => wTk as (ρ.set i none) fun l ρ' => k ((s, d) :: l) ρ' := id rfl
@[simp] theorem wTk_lent_z {i : Nat} {as : List Arg} {k : List (Sh × D) → Rho → Prop} : wTk (.lent i :: as) ρ k = wSlot ρ[i]? (Lz (tgz fun s d => wTk as (ρ.set i none) (Lz (tgz fun l ρ' => k ((s, d) :: l) ρ')))) := wTk_lent
theorem uE_callF {n : Nat} {f : FDen} {das : Den (List Arg)} : uE (dCallF n f das) Q X ρ = uE das (fun ρ as => wTk as ρ fun args ρ' => args.length = n ∧ uF f (fun a os => Q (giveAs as os ρ') a) (fun x os => X (giveAs as os ρ') x) args) X ρ := by
  unfold dCallF; rw [uE_bind]; congr 1; funext ρ as; rw [wTk_eq]; unfold uE
  cases h0 : takeAs as ρ with
  | none => simp [h0]
  | some p =>
    obtain ⟨args, ρ'⟩ := p; simp only [wO_some, h0]; by_cases h : args.length = n
    · simp only [h, ne_eq, not_true_eq_false, if_false, true_and]; unfold uF; cases f args with
      | none => rfl
      | some r => cases r <;> rfl
    · simp [h]
@[simp ↓] theorem uE_callF_z {n : Nat} {f : FDen} {das : Den (List Arg)} : uE (dCallF n f das) Q X ρ = uE das ((Lz (tgz fun ρ as => wTk as ρ (Lz (tgz fun args ρ' => args.length = n ∧ uF f ((Lz (tgz fun a os => Q (giveAs as os ρ') a))) ((Lz (tgz fun x os => X (giveAs as os ρ') x))) args))))) X ρ := uE_callF
@[simp] theorem giveAs_nil {os : List (Sh × D)} : giveAs [] os ρ = ρ := by cases os <;> rfl
@[simp] theorem giveAs_lent {i : Nat} {as : List Arg} {o : Sh × D} {os : List (Sh × D)} : giveAs (.lent i :: as) (o :: os) ρ = (giveAs as os ρ).set i (some o) := id rfl
@[simp] theorem giveAs_val {a : DV} {as : List Arg} {o : Sh × D} {os : List (Sh × D)} : giveAs (.val a :: as) (o :: os) ρ = giveAs as os ρ := id rfl
end
section
variable {N : Rho → Prop} {T : Rho → DV → Prop} {B C : Rho → Prop} {X : Rho → Exn → Prop} {ρ : Rho}
theorem uS_bind {α : Type} {m : Den α} {f : α → DenS} : uS (sBind m f) N T B C X ρ = uE m (fun ρ a => uS (f a) N T B C X ρ) X ρ := by
  unfold uS sBind uE; cases m ρ with
  | none => rfl
  | some r => cases r <;> rfl
@[simp ↓] theorem uS_nil : uS sNil N T B C X ρ = N ρ := id rfl
@[simp ↓] theorem uS_break : uS sBreak N T B C X ρ = B ρ := id rfl
@[simp ↓] theorem uS_cont : uS sCont N T B C X ρ = C ρ := id rfl
theorem uS_seq {a b : DenS} : uS (sSeq a b) N T B C X ρ = uS a (fun ρ => uS b N T B C X ρ) T B C X ρ := by
  unfold uS sSeq; cases a ρ with
  | none => rfl
  | some o => cases o <;> rfl
@[simp ↓] theorem uS_seq_z {a b : DenS} : uS (sSeq a b) N T B C X ρ = uS a ((Lz (tgz fun ρ => uS b N T B C X ρ))) T B C X ρ := uS_seq
theorem uS_if {c : Den Bool} {a b : DenS} : uS (sIf c a b) N T B C X ρ = uE c (fun ρ k => if k = true then uS a N T B C X ρ else uS b N T B C X ρ) X ρ := by
  unfold sIf; rw [uS_bind]; congr 1; funext ρ k; split <;> rfl
@[simp ↓] theorem uS_if_z {c : Den Bool} {a b : DenS} : uS (sIf c a b) N T B C X ρ = uE c ((Lz (tgz fun ρ k => if k = true then uS a N T B C X ρ else uS b N T B C X ρ))) X ρ := uS_if
theorem uS_expr {da : Den DV} : uS (sExpr da) N T B C X ρ = uE da (fun ρ _ => N ρ) X ρ := by
  unfold sExpr; rw [uS_bind]; rfl
@[simp ↓] theorem uS_expr_z {da : Den DV} : uS (sExpr da) N T B C X ρ = uE da ((Lz (tgz fun ρ _ => N ρ))) X ρ := uS_expr
theorem uS_ret {da : Den DV} : uS (sRet da) N T B C X ρ = uE da (fun ρ a => isBo a = false ∧ T ρ a) X ρ := by
  unfold sRet; rw [uS_bind]; congr 1; funext ρ a; cases h : isBo a
  · simp only [if_neg Bool.false_ne_true, true_and]; rfl
  · simp only [if_true, Bool.true_eq_false, false_and]; rfl
@[simp ↓] theorem uS_ret_z {da : Den DV} : uS (sRet da) N T B C X ρ = uE da ((Lz (tgz fun ρ a => isBo a = false ∧ T ρ a))) X ρ := uS_ret
@[simp ↓] theorem uS_retN : uS sRetN N T B C X ρ = T ρ (.sh .im, .non) := id rfl
def wSh (a : DV) (k : Sh → D → Prop) : Prop := match a with
  | (.sh s, d) => k s d
  | _ => False
@[simp ↓] theorem wSh_sh {s : Sh} {d : D} {k : Sh → D → Prop} : wSh (.sh s, d) k = k s d := id rfl
theorem uS_set {i : Nat} {da : Den DV} : uS (sSet i da) N T B C X ρ = uE da (fun ρ a => wSh a fun s d => i < ρ.length ∧ N (ρ.set i (some (s, d)))) X ρ := by
  unfold sSet; rw [uS_bind]; congr 1; funext ρ a; obtain ⟨m, d⟩ := a; cases m with
  | bo => rfl
  | sh s => unfold uS; by_cases h : i < ρ.length <;> simp [h]
@[simp ↓] theorem uS_set_z {i : Nat} {da : Den DV} : uS (sSet i da) N T B C X ρ = uE da ((Lz (tgz fun ρ a => wSh a (Lz (tgz fun s d => i < ρ.length ∧ N (ρ.set i (some (s, d)))))))) X ρ := uS_set
theorem uS_asg {da : Den DV} {tg : DenG} : uS (sAsg da tg) N T B C X ρ = uE da (fun ρ a => isBo a = false ∧ wO (tg a.2 ρ) N) X ρ := by
  unfold sAsg; rw [uS_bind]; congr 1; funext ρ a; unfold uS; cases h : isBo a
  · simp only [if_neg Bool.false_ne_true, true_and]; cases h2 : tg a.2 ρ <;> simp [h2]
  · simp only [if_true, Bool.true_eq_false, false_and]
@[simp ↓] theorem uS_asg_z {da : Den DV} {tg : DenG} : uS (sAsg da tg) N T B C X ρ = uE da ((Lz (tgz fun ρ a => isBo a = false ∧ wO (tg a.2 ρ) N))) X ρ := uS_asg
@[simp] theorem gSet_eq {i : Nat} {d : D} {k : Rho → Prop} : wO (gSet i d ρ) k = (i < ρ.length ∧ k (ρ.set i (some (.im, d)))) := by
  unfold gSet; by_cases h : i < ρ.length <;> simp [h]
@[simp] theorem gTupL_eq {n : Nat} {u : List D → Rho → Option Rho} {ds : List D} : gTupD n u (.lst ds) ρ = if ds.length = n then u ds ρ else none := id rfl
@[simp] theorem gTup_eq {n : Nat} {u : List D → Rho → Option Rho} {ds : List D} : gTupD n u (.tup ds) ρ = if ds.length = n then u ds ρ else none := id rfl
theorem gsCons_eq {t : DenG} {u : List D → Rho → Option Rho} {d : D} {ds : List D} {k : Rho → Prop} : wO (gsCons t u (d :: ds) ρ) k = wO (t d ρ) fun ρ => wO (u ds ρ) k := by
  cases h : t d ρ <;> simp [gsCons, h]
@[simp] theorem gsCons_eq_z {t : DenG} {u : List D → Rho → Option Rho} {d : D} {ds : List D} {k : Rho → Prop} : wO (gsCons t u (d :: ds) ρ) k = wO (t d ρ) (Lz (tgz fun ρ => wO (u ds ρ) k)) := gsCons_eq
@[simp] theorem gsNil_eq : gsNil [] ρ = some ρ := id rfl
def wAs2 (as : List DV) (k : D → D → Prop) : Prop := match as with
  | [a, b] => k a.2 b.2
  | _ => False
theorem wAs2_congr {o o' : List DV} {k : D → D → Prop} (h : o = o') : wAs2 o k = wAs2 o' k := by rw [h]
@[simp] theorem wAs2_two {a b : DV} {k : D → D → Prop} : wAs2 [a, b] k = k a.2 b.2 := id rfl
theorem uS_par {i j : Nat} {da : Den (List DV)} : uS (sPar i j da) N T B C X ρ = uE da (fun ρ as => noBo as = true ∧ wAs2 as fun a b => (i < ρ.length ∧ j < ρ.length) ∧ N ((ρ.set i (some (.im, a))).set j (some (.im, b)))) X ρ := by
  have e : ∀ as, (noBo as = true) = (as.any isBo = false) := fun as => by rw [noBo_eq]; cases noBo as <;> simp
  simp only [e]
  unfold sPar; rw [uS_bind]; congr 1; funext ρ as; unfold uS; cases h : as.any isBo
  · simp only [if_neg Bool.false_ne_true, true_and]; unfold wAs2
    match as with
    | [] => rfl
    | [a] => rfl
    | [a, b] => by_cases h : i < ρ.length ∧ j < ρ.length <;> simp [h]
    | _ :: _ :: _ :: _ => rfl
  · simp only [if_true, Bool.true_eq_false, false_and]
@[simp ↓] theorem uS_par_z {i j : Nat} {da : Den (List DV)} : uS (sPar i j da) N T B C X ρ = uE da ((Lz (tgz fun ρ as => noBo as = true ∧ wAs2 as (Lz (tgz fun a b => (i < ρ.length ∧ j < ρ.length) ∧ N ((ρ.set i (some (.im, a))).set j (some (.im, b)))))))) X ρ := uS_par
def wLst (o : Option Slot) (k : Sh → List D → Prop) : Prop := match o with
  | some (some (.ow s, .lst ds)) => k s ds
  | _ => False
theorem wLst_congr {o o' : Option Slot} {k : Sh → List D → Prop} (h : o = o') : wLst o k = wLst o' k := by rw [h]
@[simp] theorem wLst_lst {s : Sh} {ds : List D} {k : Sh → List D → Prop} : wLst (some (some (.ow s, .lst ds))) k = k s ds := id rfl
theorem uS_congr {s s' : DenS} (h : s ρ = s' ρ) : uS s N T B C X ρ = uS s' N T B C X ρ := by unfold uS; rw [h]
theorem uS_none {s : DenS} (h : s ρ = none) : uS s N T B C X ρ = False := by unfold uS; rw [h]
theorem uS_some {s : DenS} {ρ' : Rho} (h : s ρ = some (.nx ρ')) : uS s N T B C X ρ = N ρ' := by unfold uS; rw [h]
def wLstI (o : Option Slot) (k : List D → Prop) : Prop := match o with
  | some (some (.ow .im, .lst ds)) => k ds
  | _ => False
theorem wLstI_congr {o o' : Option Slot} {k : List D → Prop} (h : o = o') : wLstI o k = wLstI o' k := by rw [h]
@[simp] theorem wLstI_lst {ds : List D} {k : List D → Prop} : wLstI (some (some (.ow .im, .lst ds))) k = k ds := id rfl
def wLstO (o : Option Slot) (k : List D → Prop) : Prop := match o with
  | some (some (.ow (.ow .im), .lst ds)) => k ds
  | _ => False
theorem wLstO_congr {o o' : Option Slot} {k : List D → Prop} (h : o = o') : wLstO o k = wLstO o' k := by rw [h]
@[simp] theorem wLstO_lst {ds : List D} {k : List D → Prop} : wLstO (some (some (.ow (.ow .im), .lst ds))) k = k ds := id rfl
def wLd (o : D) (k : List D → Prop) : Prop := match o with
  | .lst ds => k ds
  | _ => False
theorem wLd_congr {o o' : D} {k : List D → Prop} (h : o = o') : wLd o k = wLd o' k := by rw [h]
@[simp] theorem wLd_lst {ds : List D} {k : List D → Prop} : wLd (.lst ds) k = k ds := id rfl
theorem uS_append {ks : Sh} {i : Nat} {da : Den DV} : uS (sAppend ks i da) N T B C X ρ = wLst ρ[i]? fun _ _ => uE da (fun ρ a => wLst ρ[i]? fun k ds => (kidOk ks a.1 = true ∧ ds.length < sizeLine ∧ (k = ks ∨ ds = [])) ∧ N (ρ.set i (some (.ow ks, .lst (ds ++ [a.2]))))) X ρ := by
  unfold wLst; split
  · rename_i k ds h
    rw [uS_congr (s' := sBind da (fun a ρ1 => match ρ1[i]? with
    | some (some (.ow k, .lst ds)) => if kidOk ks a.1 = true ∧ ds.length < sizeLine ∧ (k = ks ∨ ds = []) then some (.nx (ρ1.set i (some (.ow ks, .lst (ds ++ [a.2]))))) else none
    | _ => none)) (by unfold sAppend; simp only [h] <;> rfl), uS_bind]
    congr 1; funext ρ a; split
    · rename_i k ds h2
      show _ = ((kidOk ks a.1 = true ∧ ds.length < sizeLine ∧ (k = ks ∨ ds = [])) ∧ N (ρ.set i (some (.ow ks, .lst (ds ++ [a.2])))))
      by_cases h3 : kidOk ks a.1 = true ∧ ds.length < sizeLine ∧ (k = ks ∨ ds = [])
      · rw [uS_some (ρ' := ρ.set i (some (.ow ks, .lst (ds ++ [a.2])))) (by simp only [h2, if_pos h3]), eq_true h3, true_and]
      · rw [uS_none (by simp only [h2, if_neg h3]), eq_false h3, false_and]
    · rename_i h2; rw [uS_none]; split
      · rename_i h; exact absurd h (h2 _ _)
      · rfl
  · rename_i h; rw [uS_none]; unfold sAppend; split
    · rename_i h2; exact absurd h2 (h _ _)
    · rfl
@[simp ↓] theorem uS_append_z {ks : Sh} {i : Nat} {da : Den DV} : uS (sAppend ks i da) N T B C X ρ = wLst ρ[i]? (Lz (tgz fun _ _ => uE da ((Lz (tgz fun ρ a => wLst ρ[i]? (Lz (tgz fun k ds => (kidOk ks a.1 = true ∧ ds.length < sizeLine ∧ (k = ks ∨ ds = [])) ∧ N (ρ.set i (some (.ow ks, .lst (ds ++ [a.2]))))))))) X ρ)) := uS_append
theorem uS_setItem {i : Nat} {da dx : Den DV} : uS (sSetItem i da dx) N T B C X ρ = uE da (fun ρ a => isBo a = false ∧ wLst ρ[i]? fun _ _ => uE dx (fun ρ b => wLstI ρ[i]? fun ds => wInt b.2 fun j => wO (ixN ds.length j) fun k => N (ρ.set i (some (.ow .im, .lst (ds.set k a.2))))) X ρ) X ρ := by
  unfold sSetItem; rw [uS_bind]; congr 1; funext ρ a; cases h0 : isBo a
  · simp only [if_neg Bool.false_ne_true, true_and]; unfold wLst; split
    · rename_i k ds h
      rw [uS_congr (s' := sBind dx (fun b ρ2 => match ρ2[i]?, b.2 with
        | some (some (.ow .im, .lst ds)), .int j => (match ixN ds.length j with
          | some k => some (.nx (ρ2.set i (some (.ow .im, .lst (ds.set k a.2)))))
          | none => none)
        | _, _ => none)) (by simp only [h] <;> rfl), uS_bind]
      congr 1; funext ρ b; unfold wLstI; split
      · rename_i ds h2; obtain ⟨mb, db⟩ := b; cases db with
        | int j => simp only [wInt_int]; cases h3 : ixN ds.length j with
          | none => rw [uS_none (by simp only [h2, h3])]; rfl
          | some k => rw [uS_some (ρ' := ρ.set i (some (.ow .im, .lst (ds.set k a.2)))) (by simp only [h2, h3])]; rfl
        | _ => rw [uS_none (by simp only [h2])]; rfl
      · rename_i h2; rw [uS_none]; split
        · rename_i h _; exact absurd h (h2 _)
        · rfl
    · rename_i h; rw [uS_none]; split
      · rename_i h2; exact absurd h2 (h _ _)
      · rfl
  · simp only [if_true, Bool.true_eq_false, false_and]; rfl
@[simp ↓] theorem uS_setItem_z {i : Nat} {da dx : Den DV} : uS (sSetItem i da dx) N T B C X ρ = uE da ((Lz (tgz fun ρ a => isBo a = false ∧ wLst ρ[i]? (Lz (tgz fun _ _ => uE dx ((Lz (tgz fun ρ b => wLstI ρ[i]? (Lz (tgz fun ds => wInt b.2 (Lz (tgz fun j => wO (ixN ds.length j) (Lz (tgz fun k => N (ρ.set i (some (.ow .im, .lst (ds.set k a.2))))))))))))) X ρ))))) X ρ := uS_setItem
theorem uS_setItem2 {i : Nat} {da dx dy : Den DV} : uS (sSetItem2 i da dx dy) N T B C X ρ = uE da (fun ρ a => isBo a = false ∧ wLstO ρ[i]? fun _ => uE dx (fun ρ b => wLstO ρ[i]? fun ds => wInt b.2 fun j => wO (ixN ds.length j) fun k => wO ds[k]? fun e => wLd e fun _ => uE dy (fun ρ c => wLstO ρ[i]? fun ds3 => wInt c.2 fun j' => wO ds3[k]? fun e => wLd e fun es => wO (ixN es.length j') fun k' => N (ρ.set i (some (.ow (.ow .im), .lst (ds3.set k (.lst (es.set k' a.2))))))) X ρ) X ρ) X ρ := by
  unfold sSetItem2; rw [uS_bind]; congr 1; funext ρ a; cases h0 : isBo a
  · simp only [if_neg Bool.false_ne_true, true_and]; unfold wLstO; split
    · rename_i ds h
      rw [uS_congr (s' := sBind dx (fun b ρ2 => match ρ2[i]?, b.2 with
        | some (some (.ow (.ow .im), .lst ds)), .int j => (match ixN ds.length j with
          | some k => (match ds[k]? with
            | some (.lst _) => sBind dy (fun c ρ3 => match ρ3[i]?, c.2 with
              | some (some (.ow (.ow .im), .lst ds3)), .int j' => (match ds3[k]? with
                | some (.lst es) => (match ixN es.length j' with
                  | some k' => some (.nx (ρ3.set i (some (.ow (.ow .im), .lst (ds3.set k (.lst (es.set k' a.2)))))))
                  | none => none)
                | _ => none)
              | _, _ => none) ρ2
            | _ => none)
          | none => none)
        | _, _ => none)) (by simp only [h] <;> rfl), uS_bind]
      congr 1; funext ρ b; split
      · rename_i ds h2; obtain ⟨mb, db⟩ := b; cases db with
        | int j => simp only [wInt_int]; cases h3 : ixN ds.length j with
          | none => rw [uS_none (by simp only [h2, h3])]; rfl
          | some k => simp only [wO_some]; cases h4 : ds[k]? with
            | none => rw [uS_none (by simp only [h2, h3, h4])]; rfl
            | some e => simp only [wO_some]; cases e with
              | lst es0 =>
                simp only [wLd_lst]
                rw [uS_congr (s' := sBind dy (fun c ρ3 => match ρ3[i]?, c.2 with
                  | some (some (.ow (.ow .im), .lst ds3)), .int j' => (match ds3[k]? with
                    | some (.lst es) => (match ixN es.length j' with
                      | some k' => some (.nx (ρ3.set i (some (.ow (.ow .im), .lst (ds3.set k (.lst (es.set k' a.2)))))))
                      | none => none)
                    | _ => none)
                  | _, _ => none)) (by simp only [h2, h3, h4] <;> rfl), uS_bind]
                congr 1; funext ρ c; split
                · rename_i ds3 h5; obtain ⟨mc, dc⟩ := c; cases dc with
                  | int j' => simp only [wInt_int]; cases h6 : ds3[k]? with
                    | none => rw [uS_none (by simp only [h5, h6])]; rfl
                    | some e => simp only [wO_some]; cases e with
                      | lst es => simp only [wLd_lst]; cases h7 : ixN es.length j' with
                        | none => rw [uS_none (by simp only [h5, h6, h7])]; rfl
                        | some k' => rw [uS_some (ρ' := ρ.set i (some (.ow (.ow .im), .lst (ds3.set k (.lst (es.set k' a.2)))))) (by simp only [h5, h6, h7])]; rfl
                      | _ => rw [uS_none (by simp only [h5, h6])]; rfl
                  | _ => rw [uS_none (by simp only [h5])]; rfl
                · rename_i h5; rw [uS_none]; split
                  · rename_i h _; exact absurd h (h5 _)
                  · rfl
              | _ => rw [uS_none (by simp only [h2, h3, h4])]; rfl
        | _ => rw [uS_none (by simp only [h2])]; rfl
      · rename_i h2; rw [uS_none]; split
        · rename_i h _; exact absurd h (h2 _)
        · rfl
    · rename_i h; rw [uS_none]; split
      · rename_i h2; exact absurd h2 (h _)
      · rfl
  · simp only [if_true, Bool.true_eq_false, false_and]; rfl
@[simp ↓] theorem uS_setItem2_z {i : Nat} {da dx dy : Den DV} : uS (sSetItem2 i da dx dy) N T B C X ρ = uE da ((Lz (tgz fun ρ a => isBo a = false ∧ wLstO ρ[i]? (Lz (tgz fun _ => uE dx ((Lz (tgz fun ρ b => wLstO ρ[i]? (Lz (tgz fun ds => wInt b.2 (Lz (tgz fun j => wO (ixN ds.length j) (Lz (tgz fun k => wO ds[k]? (Lz (tgz fun e => wLd e (Lz (tgz fun _ => uE dy ((Lz (tgz fun ρ c => wLstO ρ[i]? (Lz (tgz fun ds3 => wInt c.2 (Lz (tgz fun j' => wO ds3[k]? (Lz (tgz fun e => wLd e (Lz (tgz fun es => wO (ixN es.length j') (Lz (tgz fun k' => N (ρ.set i (some (.ow (.ow .im), .lst (ds3.set k (.lst (es.set k' a.2))))))))))))))))))) X ρ))))))))))))) X ρ))))) X ρ := uS_setItem2
end
end Den

namespace Den
open PySem PySem.Spec PyProof.Rows L2
section
variable {N : Rho → Prop} {T : Rho → DV → Prop} {B C : Rho → Prop} {X : Rho → Exn → Prop} {ρ : Rho}
theorem uS_for {di : Den (List D)} {tg : DenG} {body : DenS} : uS (sFor di tg body) N T B C X ρ = uE di (fun ρ ds => uS (loopF tg body ds) N T B C X ρ) X ρ := by
  unfold sFor; rw [uS_bind]
@[simp ↓] theorem uS_for_z {di : Den (List D)} {tg : DenG} {body : DenS} : uS (sFor di tg body) N T B C X ρ = uE di ((Lz (tgz fun ρ ds => uS (loopF tg body ds) N T B C X ρ))) X ρ := uS_for
theorem uloop_nil {tg : DenG} {body : DenS} : uS (loopF tg body []) N T B C X ρ = N ρ := rfl
theorem uloop_cons {tg : DenG} {body : DenS} {d : D} {ds : List D} : uS (loopF tg body (d :: ds)) N T B C X ρ = wO (tg d ρ) fun ρ1 => uS body (fun ρ2 => uS (loopF tg body ds) N T B C X ρ2) T N (fun ρ2 => uS (loopF tg body ds) N T B C X ρ2) X ρ1 := by
  conv => lhs; unfold uS loopF
  cases h : tg d ρ with
  | none => simp [h]
  | some ρ1 => simp only [h, wO_some]; conv => rhs; unfold uS
               cases h2 : body ρ1 with
               | none => rfl
               | some o => cases o <;> first | rfl | (simp only []; unfold uS; rfl)
/-- a loop with what holds behind the first k rounds -/
theorem uloop_inv {tg : DenG} {body : DenS} {ds : List D} (I : Nat → Rho → Prop) (h0 : I 0 ρ)
    (st : ∀ k d ρ, ds[k]? = some d → I k ρ → wO (tg d ρ) fun ρ1 => uS body (I (k + 1)) T N (I (k + 1)) X ρ1)
    (hN : ∀ ρ, I ds.length ρ → N ρ) : uS (loopF tg body ds) N T B C X ρ := by
  have key : ∀ (es : List D) (k : Nat) (ρ : Rho), (∀ j, es[j]? = ds[k + j]?) → k + es.length = ds.length → I k ρ → uS (loopF tg body es) N T B C X ρ := by
    intro es; induction es with
    | nil => intro k ρ _ hl h; rw [uloop_nil]; simp at hl; rw [hl] at h; exact hN _ h
    | cons d es ih =>
      intro k ρ he hl h; rw [uloop_cons]
      have h1 := st k d ρ (by have := he 0; simpa using this.symm) h
      have imp : ∀ ρ2, I (k + 1) ρ2 → uS (loopF tg body es) N T B C X ρ2 := fun ρ2 h2 => ih (k + 1) ρ2 (fun j => by have := he (j + 1); simp at this; rw [this]; congr 1; omega) (by simp at hl; omega) h2
      revert h1; cases tg d ρ with
      | none => exact id
      | some ρ1 => simp only [wO_some]; unfold uS; cases body ρ1 with
        | none => exact id
        | some o => cases o with
          | nx ρ2 => with_unfolding_all exact imp ρ2
          | ct ρ2 => with_unfolding_all exact imp ρ2
          | _ => exact id
  exact key ds 0 ρ (fun j => by simp) (by simp) h0
theorem uS_imp {s : DenS} {N' : Rho → Prop} {T' : Rho → DV → Prop} {B' C' : Rho → Prop} {X' : Rho → Exn → Prop} (h : uS s N T B C X ρ) (hN : ∀ ρ, N ρ → N' ρ) (hT : ∀ ρ a, T ρ a → T' ρ a) (hB : ∀ ρ, B ρ → B' ρ) (hC : ∀ ρ, C ρ → C' ρ) (hX : ∀ ρ x, X ρ x → X' ρ x) : uS s N' T' B' C' X' ρ := by
  revert h; unfold uS; cases s ρ with
  | none => exact id
  | some o => cases o with
    | nx _ => exact hN _
    | rt _ _ => exact hT _ _
    | bk _ => exact hB _
    | ct _ => exact hC _
    | ex _ _ => exact hX _ _
theorem uE_imp {α : Type} {m : Den α} {Q Q' : Rho → α → Prop} {X' : Rho → Exn → Prop} (h : uE m Q X ρ) (hQ : ∀ ρ a, Q ρ a → Q' ρ a) (hX : ∀ ρ x, X ρ x → X' ρ x) : uE m Q' X' ρ := by
  revert h; unfold uE; cases m ρ with
  | none => exact id
  | some o => cases o with
    | ok _ _ => exact hQ _ _
    | ex _ _ => exact hX _ _
theorem wO_imp {α : Type} {o : Option α} {k k' : α → Prop} (h : wO o k) (i : ∀ a, k a → k' a) : wO o k' := by
  cases o with
  | none => exact h
  | some a => exact i a h
theorem uF_imp {f : FDen} {Q Q' : DV → List (Sh × D) → Prop} {X X' : Exn → List (Sh × D) → Prop} {args : List (Sh × D)} (h : uF f Q X args) (hQ : ∀ a os, Q a os → Q' a os) (hX : ∀ a os, X a os → X' a os) : uF f Q' X' args := by
  revert h; unfold uF; cases f args with
  | none => exact id
  | some o => cases o with
    | ret _ _ => exact hQ _ _
    | ex _ _ => exact hX _ _
theorem uF_fn {A : List Nat} {n M : Nat} {body : DenS} {Q : DV → List (Sh × D) → Prop} {X : Exn → List (Sh × D) → Prop} {args : List (Sh × D)} : uF (fnDen A n M body) Q X args = uS body (fun ρ => wO (outsOf A 0 args ρ) (Q (.sh .im, .non))) (fun ρ a => wO (outsOf A 0 args ρ) (Q a)) (fun _ => False) (fun _ => False) (fun ρ x => wO (outsOf A 0 args ρ) (X x)) (args.map some ++ List.replicate (M - n) none) := by
  unfold uF fnDen uS
  cases body (args.map some ++ List.replicate (M - n) none) with
  | none => rfl
  | some o => cases o <;> first | rfl | (simp only []; cases outsOf A 0 args _ <;> rfl)
theorem uF_fn_z {A : List Nat} {n M : Nat} {body : DenS} {Q : DV → List (Sh × D) → Prop} {X : Exn → List (Sh × D) → Prop} {args : List (Sh × D)} : uF (fnDen A n M body) Q X args = uS body ((Lz (tgz fun ρ => wO (outsOf A 0 args ρ) (Q (.sh .im, .non))))) ((Lz (tgz fun ρ a => wO (outsOf A 0 args ρ) (Q a)))) ((Lz (tgz fun _ => False))) ((Lz (tgz fun _ => False))) ((Lz (tgz fun ρ x => wO (outsOf A 0 args ρ) (X x)))) (args.map some ++ List.replicate (M - n) none) := uF_fn
theorem uF_eq {f : FDen} {args : List (Sh × D)} {a : DV} {os : List (Sh × D)} {Q : DV → List (Sh × D) → Prop} {X : Exn → List (Sh × D) → Prop} (h : f args = some (.ret a os)) : uF f Q X args = Q a os := by unfold uF; rw [h]
def wSd (x : Slot) (k : Sh × D → Prop) : Prop := match x with
  | some sd => k sd
  | none => False
@[simp ↓] theorem wSd_some {sd : Sh × D} {k : Sh × D → Prop} : wSd (some sd) k = k sd := id rfl
@[simp] theorem outs_nil {A : List Nat} {i : Nat} {k : List (Sh × D) → Prop} : wO (outsOf A i [] ρ) k = k [] := by cases ρ <;> rfl
theorem outs_cons {A : List Nat} {i : Nat} {a : Sh × D} {as : List (Sh × D)} {x : Slot} {k : List (Sh × D) → Prop} : wO (outsOf A i (a :: as) (x :: ρ)) k = if i ∈ A then a.1 = .im ∧ wO (outsOf A (i + 1) as ρ) (fun os => k (a :: os)) else wSd x fun sd => wO (outsOf A (i + 1) as ρ) (fun os => k (sd :: os)) := by
  conv => lhs; unfold outsOf
  split
  · rw [wO_ite, wO_map, wO_none]; split
    · rename_i h; rw [eq_true h, true_and]
    · rename_i h; rw [eq_false h, false_and]
  · cases x with
    | none => rfl
    | some sd => simp only [wSd_some]; rw [wO_map]
@[simp] theorem outs_cons_z {A : List Nat} {i : Nat} {a : Sh × D} {as : List (Sh × D)} {x : Slot} {k : List (Sh × D) → Prop} : wO (outsOf A i (a :: as) (x :: ρ)) k = if i ∈ A then a.1 = .im ∧ wO (outsOf A (i + 1) as ρ) ((Lz (tgz fun os => k (a :: os)))) else wSd x (Lz (tgz fun sd => wO (outsOf A (i + 1) as ρ) ((Lz (tgz fun os => k (sd :: os)))))) := outs_cons
/-! what is walked -/
theorem uE_items {da : Den DV} {Q : Rho → List D → Prop} : uE (dItems da) Q X ρ = uE da (fun ρ a => isBo a = false ∧ wO (itemsOf a.2) (Q ρ)) X ρ := by
  unfold dItems; rw [uE_bind]; congr 1; funext ρ a; rw [uE_ite]; cases isBo a
  · simp only [if_neg Bool.false_ne_true, true_and, uE_lift]; rfl
  · simp
@[simp ↓] theorem uE_items_z {da : Den DV} {Q : Rho → List D → Prop} : uE (dItems da) Q X ρ = uE da ((Lz (tgz fun ρ a => isBo a = false ∧ wO (itemsOf a.2) (Q ρ)))) X ρ := uE_items
theorem uE_range {da : Den (List DV)} {Q : Rho → List D → Prop} : uE (dRange da) Q X ρ = uE da (fun ρ as => wO (rngOf (as.map (·.2))) (Q ρ)) X ρ := by
  unfold dRange; rw [uE_bind]; congr 1; funext ρ a; rw [uE_lift]; rfl
@[simp ↓] theorem uE_range_z {da : Den (List DV)} {Q : Rho → List D → Prop} : uE (dRange da) Q X ρ = uE da ((Lz (tgz fun ρ as => wO (rngOf (as.map (·.2))) (Q ρ)))) X ρ := uE_range
theorem uE_range2 {da : Den (List DV)} {Q : Rho → List D → Prop} : uE (dRange2 da) Q X ρ = uE da (fun ρ as => wO (rng2Of (as.map (·.2))) (Q ρ)) X ρ := by
  unfold dRange2; rw [uE_bind]; congr 1; funext ρ a; rw [uE_lift]; rfl
@[simp ↓] theorem uE_range2_z {da : Den (List DV)} {Q : Rho → List D → Prop} : uE (dRange2 da) Q X ρ = uE da ((Lz (tgz fun ρ as => wO (rng2Of (as.map (·.2))) (Q ρ)))) X ρ := uE_range2
theorem uE_enum {da : Den (List DV)} {Q : Rho → List D → Prop} : uE (dEnum da) Q X ρ = uE da (fun ρ as => noBo as = true ∧ wO (enumOf (as.map (·.2))) (Q ρ)) X ρ := by
  have e : ∀ as, (noBo as = true) = (as.any isBo = false) := fun as => by rw [noBo_eq]; cases noBo as <;> simp
  simp only [e]
  unfold dEnum; rw [uE_bind]; congr 1; funext ρ as; rw [uE_ite]; cases as.any isBo
  · simp only [if_neg Bool.false_ne_true, true_and, uE_lift]; rfl
  · simp
@[simp ↓] theorem uE_enum_z {da : Den (List DV)} {Q : Rho → List D → Prop} : uE (dEnum da) Q X ρ = uE da ((Lz (tgz fun ρ as => noBo as = true ∧ wO (enumOf (as.map (·.2))) (Q ρ)))) X ρ := uE_enum
theorem uE_zip {da : Den (List DV)} {Q : Rho → List D → Prop} : uE (dZip da) Q X ρ = uE da (fun ρ as => noBo as = true ∧ wO (zipOf (as.map (·.2))) (Q ρ)) X ρ := by
  have e : ∀ as, (noBo as = true) = (as.any isBo = false) := fun as => by rw [noBo_eq]; cases noBo as <;> simp
  simp only [e]
  unfold dZip; rw [uE_bind]; congr 1; funext ρ as; rw [uE_ite]; cases as.any isBo
  · simp only [if_neg Bool.false_ne_true, true_and, uE_lift]; rfl
  · simp
@[simp ↓] theorem uE_zip_z {da : Den (List DV)} {Q : Rho → List D → Prop} : uE (dZip da) Q X ρ = uE da ((Lz (tgz fun ρ as => noBo as = true ∧ wO (zipOf (as.map (·.2))) (Q ρ)))) X ρ := uE_zip
/-! comprehensions -/
def uC (own : List Nat) (k : Sh) (tg : DenG) (tt : Den Bool) (te : Den DV) (ds : List D) (Q : Rho → List D → Prop) (ρ : Rho) (acc : List D) : Prop := wO (compF own k tg tt te ds ρ acc) fun p => Q p.1 p.2
theorem uE_comp {own : List Nat} {k : Sh} {di : Den (List D)} {tg : DenG} {tt : Den Bool} {te : Den DV} {Q : Rho → DV → Prop} : uE (dComp own k di tg tt te) Q X ρ = uE di (fun ρ ds => ownIm own 0 ρ = true ∧ uC own k tg tt te ds (fun ρ' acc => Q (mergeR own 0 ρ ρ') (.sh (.ow k), .lst acc)) (wipeR ρ own) []) X ρ := by
  unfold dComp; rw [uE_bind]; congr 1; funext ρ ds; unfold uC
  cases h : ownIm own 0 ρ
  · unfold uE; simp [h]
  · conv => lhs; unfold uE
    simp only [h, if_true, true_and]; cases compF own k tg tt te ds (wipeR ρ own) [] <;> rfl
@[simp ↓] theorem uE_comp_z {own : List Nat} {k : Sh} {di : Den (List D)} {tg : DenG} {tt : Den Bool} {te : Den DV} {Q : Rho → DV → Prop} : uE (dComp own k di tg tt te) Q X ρ = uE di ((Lz (tgz fun ρ ds => ownIm own 0 ρ = true ∧ uC own k tg tt te ds ((Lz (tgz fun ρ' acc => Q (mergeR own 0 ρ ρ') (.sh (.ow k), .lst acc)))) (wipeR ρ own) []))) X ρ := uE_comp
theorem uC_congr {own : List Nat} {k : Sh} {tg : DenG} {tt : Den Bool} {te : Den DV} {ds : List D} {Q : Rho → List D → Prop} {ρ ρ' : Rho} {acc : List D} (h : ρ = ρ') : uC own k tg tt te ds Q ρ acc = uC own k tg tt te ds Q ρ' acc := by rw [h]
section
variable {own : List Nat} {k : Sh} {tg : DenG} {tt : Den Bool} {te : Den DV} {Q : Rho → List D → Prop} {acc : List D}
theorem uC_nil : uC own k tg tt te [] Q ρ acc = Q ρ acc := rfl
theorem uC_cons {d : D} {ds : List D} : uC own k tg tt te (d :: ds) Q ρ acc = wO (tg d ρ) fun ρ1 => uE tt (fun ρ2 b => if b = true then uE te (fun ρ3 a => (kidOk k a.1 = true ∧ acc.length < sizeLine) ∧ uC own k tg tt te ds Q (wipeR ρ3 own) (acc ++ [a.2])) (fun _ _ => False) ρ2 else uC own k tg tt te ds Q (wipeR ρ2 own) acc) (fun _ _ => False) ρ1 := by
  conv => lhs; unfold uC compF
  cases h : tg d ρ with
  | none => simp
  | some ρ1 =>
    simp only [wO_some]; unfold uE; cases h2 : tt ρ1 with
    | none => simp
    | some r => cases r with
      | ex _ _ => simp
      | ok ρ2 b => cases b with
        | false => simp [uC]
        | true => simp only [if_true]; cases h3 : te ρ2 with
          | none => simp
          | some r => cases r with
            | ex _ _ => simp
            | ok ρ3 a => simp only []; by_cases h4 : kidOk k a.1 = true ∧ acc.length < sizeLine
                         · rw [if_pos h4, eq_true h4, true_and]; rfl
                         · rw [if_neg h4, eq_false h4, false_and]; rfl
theorem uC_inv {ds : List D} (I : Nat → Rho → List D → Prop) (h0 : I 0 ρ acc)
    (st : ∀ j d ρ acc, ds[j]? = some d → I j ρ acc → wO (tg d ρ) fun ρ1 => uE tt (fun ρ2 b => if b = true then uE te (fun ρ3 a => (kidOk k a.1 = true ∧ acc.length < sizeLine) ∧ I (j + 1) (wipeR ρ3 own) (acc ++ [a.2])) (fun _ _ => False) ρ2 else I (j + 1) (wipeR ρ2 own) acc) (fun _ _ => False) ρ1)
    (hN : ∀ ρ acc, I ds.length ρ acc → Q ρ acc) : uC own k tg tt te ds Q ρ acc := by
  have key : ∀ (es : List D) (j : Nat) (ρ : Rho) (acc : List D), (∀ i, es[i]? = ds[j + i]?) → j + es.length = ds.length → I j ρ acc → uC own k tg tt te es Q ρ acc := by
    intro es; induction es with
    | nil => intro j ρ acc _ hl h; rw [uC_nil]; simp at hl; rw [hl] at h; exact hN _ _ h
    | cons d es ih =>
      intro j ρ acc he hl h; rw [uC_cons]
      have h1 := st j d ρ acc (by have := he 0; simpa using this.symm) h
      have imp : ∀ ρ2 acc, I (j + 1) ρ2 acc → uC own k tg tt te es Q ρ2 acc := fun ρ2 acc h2 => ih (j + 1) ρ2 acc (fun i => by have := he (i + 1); simp at this; rw [this]; congr 1; omega) (by simp at hl; omega) h2
      refine wO_imp h1 fun ρ1 h2 => uE_imp h2 (fun ρ2 b h3 => ?_) fun _ _ => id
      cases b with
      | false => exact imp _ _ h3
      | true => exact uE_imp h3 (fun ρ3 a h4 => ⟨h4.1, imp _ _ h4.2⟩) fun _ _ => id
  exact key ds 0 ρ acc (fun j => by simp) (by simp) h0
/-- a comprehension that changes nothing -/
theorem uC_pure {ds : List D} (p : D → Bool) (f : D → D) (hl : acc.length + ds.length ≤ sizeLine)
    (st : ∀ d ∈ ds, wO (tg d ρ) fun ρ1 => uE tt (fun ρ2 b => b = p d ∧ if p d = true then uE te (fun ρ3 a => kidOk k a.1 = true ∧ a.2 = f d ∧ wipeR ρ3 own = ρ) (fun _ _ => False) ρ2 else wipeR ρ2 own = ρ) (fun _ _ => False) ρ1)
    (hQ : Q ρ (acc ++ (ds.filter p).map f)) : uC own k tg tt te ds Q ρ acc := by
  induction ds generalizing acc with
  | nil => simpa [uC_nil] using hQ
  | cons d ds ih =>
    rw [uC_cons]
    refine wO_imp (st d (List.mem_cons_self ..)) fun ρ1 h2 => uE_imp h2 (fun ρ2 b h3 => ?_) fun _ _ => id
    obtain ⟨rfl, h3⟩ := h3
    simp at hl
    cases hp : p d with
    | false =>
      rw [hp, if_neg Bool.false_ne_true] at h3; rw [if_neg Bool.false_ne_true, h3]
      exact ih (by omega) (fun d hd => st d (List.mem_cons_of_mem _ hd)) (by rw [List.filter_cons_of_neg (by simp [hp])] at hQ; exact hQ)
    | true =>
      rw [hp, if_pos rfl] at h3; rw [if_pos rfl]
      refine uE_imp h3 (fun ρ3 a h4 => ?_) fun _ _ => id
      obtain ⟨h5, h6, h7⟩ := h4
      refine ⟨⟨h5, by omega⟩, ?_⟩
      rw [h7, h6]
      refine ih (by simp; omega) (fun d hd => st d (List.mem_cons_of_mem _ hd)) ?_
      rw [List.filter_cons_of_pos hp] at hQ; simpa using hQ
end
theorem uC_map {own : List Nat} {k : Sh} {tg : DenG} {te : Den DV} {Q : Rho → List D → Prop} {acc : List D} {ds : List D} (f : D → D) (hl : acc.length + ds.length ≤ sizeLine)
    (st : ∀ d ∈ ds, wO (tg d ρ) fun ρ1 => uE te (fun ρ3 a => kidOk k a.1 = true ∧ a.2 = f d ∧ wipeR ρ3 own = ρ) (fun _ _ => False) ρ1)
    (hQ : Q ρ (acc ++ ds.map f)) : uC own k tg (dRet true) te ds Q ρ acc := by
  refine uC_pure (fun _ => true) f hl (fun d hd => wO_imp (st d hd) fun ρ1 h => ?_) (by rw [List.filter_eq_self.2 fun _ _ => rfl]; exact hQ)
  rw [uE_ret]; exact ⟨rfl, by rw [if_pos rfl]; exact h⟩
def uC2 (own vs1 : List Nat) (k : Sh) (tg : DenG) (tt : Den Bool) (di1 : Den (List D)) (tg1 : DenG) (tt1 : Den Bool) (te : Den DV) (ds : List D) (Q : Rho → List D → Prop) (ρ : Rho) (acc : List D) : Prop := wO (comp2F own vs1 k tg tt di1 tg1 tt1 te ds ρ acc) fun p => Q p.1 p.2
theorem uE_comp2 {own vs1 : List Nat} {k : Sh} {di : Den (List D)} {tg : DenG} {tt : Den Bool} {di1 : Den (List D)} {tg1 : DenG} {tt1 : Den Bool} {te : Den DV} {Q : Rho → DV → Prop} : uE (dComp2 own vs1 k di tg tt di1 tg1 tt1 te) Q X ρ = uE di (fun ρ ds => ownIm own 0 ρ = true ∧ uC2 own vs1 k tg tt di1 tg1 tt1 te ds (fun ρ' acc => Q (mergeR own 0 ρ ρ') (.sh (.ow k), .lst acc)) (wipeR ρ own) []) X ρ := by
  unfold dComp2; rw [uE_bind]; congr 1; funext ρ ds; unfold uC2
  cases h : ownIm own 0 ρ
  · unfold uE; simp [h]
  · conv => lhs; unfold uE
    simp only [h, if_true, true_and]; cases comp2F own vs1 k tg tt di1 tg1 tt1 te ds (wipeR ρ own) [] <;> rfl
@[simp ↓] theorem uE_comp2_z {own vs1 : List Nat} {k : Sh} {di : Den (List D)} {tg : DenG} {tt : Den Bool} {di1 : Den (List D)} {tg1 : DenG} {tt1 : Den Bool} {te : Den DV} {Q : Rho → DV → Prop} : uE (dComp2 own vs1 k di tg tt di1 tg1 tt1 te) Q X ρ = uE di ((Lz (tgz fun ρ ds => ownIm own 0 ρ = true ∧ uC2 own vs1 k tg tt di1 tg1 tt1 te ds ((Lz (tgz fun ρ' acc => Q (mergeR own 0 ρ ρ') (.sh (.ow k), .lst acc)))) (wipeR ρ own) []))) X ρ := uE_comp2
section
variable {own vs1 : List Nat} {k : Sh} {tg : DenG} {tt : Den Bool} {di1 : Den (List D)} {tg1 : DenG} {tt1 : Den Bool} {te : Den DV} {Q : Rho → List D → Prop} {acc : List D}
theorem uC2_nil : uC2 own vs1 k tg tt di1 tg1 tt1 te [] Q ρ acc = Q ρ acc := rfl
theorem uC2_cons {d : D} {ds : List D} : uC2 own vs1 k tg tt di1 tg1 tt1 te (d :: ds) Q ρ acc = wO (tg d ρ) fun ρ1 => uE tt (fun ρ2 b => if b = true then uE di1 (fun ρ3 ds1 => uC vs1 k tg1 tt1 te ds1 (fun ρ4 acc' => uC2 own vs1 k tg tt di1 tg1 tt1 te ds Q (wipeR ρ4 own) acc') (wipeR ρ3 vs1) acc) (fun _ _ => False) ρ2 else uC2 own vs1 k tg tt di1 tg1 tt1 te ds Q (wipeR ρ2 own) acc) (fun _ _ => False) ρ1 := by
  conv => lhs; unfold uC2 comp2F
  cases h : tg d ρ with
  | none => simp
  | some ρ1 =>
    simp only [wO_some]; unfold uE; cases h2 : tt ρ1 with
    | none => simp
    | some r => cases r with
      | ex _ _ => simp
      | ok ρ2 b => cases b with
        | false => simp [uC2]
        | true => simp only [if_true]; cases h3 : di1 ρ2 with
          | none => simp
          | some r => cases r with
            | ex _ _ => simp
            | ok ρ3 ds1 => simp only []; unfold uC; cases compF vs1 k tg1 tt1 te ds1 (wipeR ρ3 vs1) acc <;> rfl
theorem uC_imp {own : List Nat} {k : Sh} {tg : DenG} {tt : Den Bool} {te : Den DV} {ds : List D} {Q Q' : Rho → List D → Prop} {acc : List D} (h : uC own k tg tt te ds Q ρ acc) (i : ∀ ρ acc, Q ρ acc → Q' ρ acc) : uC own k tg tt te ds Q' ρ acc := by
  unfold uC at h ⊢; exact wO_imp h fun p => i p.1 p.2
/-- a comprehension with two walks that changes nothing -/
theorem uC2_pure {ds : List D} (g : D → List D) (hl : acc.length + ((ds.map g).flatten).length ≤ sizeLine)
    (st : ∀ d ∈ ds, ∀ acc : List D, acc.length + (g d).length ≤ sizeLine → wO (tg d ρ) fun ρ1 => uE tt (fun ρ2 b => if b = true then uE di1 (fun ρ3 ds1 => uC vs1 k tg1 tt1 te ds1 (fun ρ4 acc' => acc' = acc ++ g d ∧ wipeR ρ4 own = ρ) (wipeR ρ3 vs1) acc) (fun _ _ => False) ρ2 else g d = [] ∧ wipeR ρ2 own = ρ) (fun _ _ => False) ρ1)
    (hQ : Q ρ (acc ++ (ds.map g).flatten)) : uC2 own vs1 k tg tt di1 tg1 tt1 te ds Q ρ acc := by
  induction ds generalizing acc with
  | nil => simpa [uC2_nil] using hQ
  | cons d ds ih =>
    rw [uC2_cons]
    simp at hl
    refine wO_imp (st d (List.mem_cons_self ..) acc (by omega)) fun ρ1 h2 => uE_imp h2 (fun ρ2 b h3 => ?_) fun _ _ => id
    cases b with
    | false =>
      rw [if_neg Bool.false_ne_true] at h3 ⊢; obtain ⟨e, h3⟩ := h3; rw [h3]
      exact ih (by rw [e] at hl; simpa using hl) (fun d hd => st d (List.mem_cons_of_mem _ hd)) (by simpa [e] using hQ)
    | true =>
      rw [if_pos rfl] at h3 ⊢
      refine uE_imp h3 (fun ρ3 ds1 h4 => uC_imp h4 fun _ _ h5 => ?_) fun _ _ => id
      obtain ⟨h5, h6⟩ := h5
      rw [h5, h6]
      refine ih (by simp; omega) (fun d hd => st d (List.mem_cons_of_mem _ hd)) (by simpa using hQ)
end
theorem uS_while {c : Den Bool} {body : DenS} {n : Nat} : uS (whileF c body (n + 1)) N T B C X ρ = uE c (fun ρ b => if b = true then uS body (fun ρ => uS (whileF c body n) N T B C X ρ) T N (fun ρ => uS (whileF c body n) N T B C X ρ) X ρ else N ρ) X ρ := by
  conv => lhs; unfold uS whileF
  unfold uE; cases h : c ρ with
  | none => rfl
  | some r => cases r with
    | ex _ _ => rfl
    | ok ρ1 b => cases b with
      | false => rfl
      | true => simp only [if_true]; conv => rhs; unfold uS
                cases h2 : body ρ1 with
                | none => rfl
                | some o => cases o <;> first | rfl | (simp only []; unfold uS; rfl)
@[simp ↓] theorem uS_while_z {c : Den Bool} {body : DenS} {n : Nat} : uS (whileF c body (n + 1)) N T B C X ρ = uE c ((Lz (tgz fun ρ b => if b = true then uS body ((Lz (tgz fun ρ => uS (whileF c body n) N T B C X ρ))) T N ((Lz (tgz fun ρ => uS (whileF c body n) N T B C X ρ))) X ρ else N ρ))) X ρ := uS_while
theorem uwhile_inv {c : Den Bool} {body : DenS} (I : Nat → Rho → Prop) :
    ∀ (n : Nat) {ρ : Rho} (m : Nat), m < n → I m ρ → (∀ m ρ, I m ρ → uE c (fun ρ b => if b = true then uS body (fun ρ => ∃ m', m' < m ∧ I m' ρ) T N (fun ρ => ∃ m', m' < m ∧ I m' ρ) X ρ else N ρ) X ρ) → uS (whileF c body n) N T B C X ρ
  | 0, _, _, h, _, _ => absurd h (Nat.not_lt_zero _)
  | n + 1, ρ, m, hm, hi, st => by
    rw [uS_while]
    refine uE_imp (st m ρ hi) (fun ρ b h => ?_) fun _ _ => id
    cases b with
    | false => exact h
    | true =>
      rw [if_pos rfl] at h ⊢
      refine uS_imp h ?_ (fun _ _ => id) (fun _ => id) ?_ (fun _ _ => id)
      · intro ρ ⟨m', h1, h2⟩; exact uwhile_inv I n m' (by omega) h2 st
      · intro ρ ⟨m', h1, h2⟩; exact uwhile_inv I n m' (by omega) h2 st
end
/-! ops at given data -/
section
variable {i j : Int} {xs ys : List D}
@[simp] theorem add_ii : addOp (.int i) (.int j) = some (.s (.int (i + j))) := id rfl
@[simp] theorem add_ll : addOp (.lst xs) (.lst ys) = if xs.length + ys.length ≤ sizeLine then some (.l (xs ++ ys)) else none := id rfl
@[simp] theorem add_tt : addOp (.tup xs) (.tup ys) = if xs.length + ys.length ≤ sizeLine then some (.a (.tup (xs ++ ys))) else none := id rfl
@[simp] theorem add_ss {x y : Str} : addOp (.str x) (.str y) = if x.length + y.length ≤ sizeLine then some (.s (.str (x ++ y))) else none := id rfl
@[simp] theorem sub_ii : subOp (.int i) (.int j) = some (.s (.int (i - j))) := id rfl
@[simp] theorem mul_ii : mulOp (.int i) (.int j) = if mulOk i j = true then some (.s (.int (i * j))) else none := id rfl
@[simp] theorem mod_ii : modOp (.int i) (.int j) = if 0 < j then some (.s (.int (i % j))) else none := by
  show (if decide (0 < j) = true then _ else _) = _; simp only [decide_eq_true_eq]
@[simp] theorem fdiv_ii : fdivOp (.int i) (.int j) = if 0 < j ∧ j.natAbs.log2 < 9000 then some (.s (.int (i / j))) else none := by
  show (if decide (0 < j ∧ j.natAbs.log2 < 9000) = true then _ else _) = _; simp only [decide_eq_true_eq]
@[simp] theorem pow_ii : powOp (.int i) (.int j) = if 0 ≤ j ∧ j ≤ 1000000 ∧ i.natAbs < 2 ^ 64 then some (.s (.int (i ^ j.toNat))) else none := by
  show (if decide (0 ≤ j ∧ j ≤ 1000000 ∧ i.natAbs < 2 ^ 64) = true then _ else _) = _; simp only [decide_eq_true_eq]
@[simp] theorem neg_i : negOp (.int i) = some (.s (.int (-i))) := id rfl
@[simp] theorem lt_ii : ltOp (.int i) (.int j) = some (.s (.bl (decide (i < j)))) := id rfl
@[simp] theorem le_ii : leOp (.int i) (.int j) = some (.s (.bl (decide (i ≤ j)))) := id rfl
@[simp] theorem gt_ii : gtOp (.int i) (.int j) = some (.s (.bl (decide (j < i)))) := id rfl
@[simp] theorem ge_ii : geOp (.int i) (.int j) = some (.s (.bl (decide (j ≤ i)))) := id rfl
@[simp] theorem eq_ii : eqOp (.int i) (.int j) = some (.s (.bl (decide (i = j)))) := id rfl
@[simp] theorem ne_ii : neOp (.int i) (.int j) = some (.s (.bl (!decide (i = j)))) := id rfl
@[simp] theorem len_l : lenOp [.lst xs] = some (.s (.int xs.length)) := id rfl
@[simp] theorem len_t : lenOp [.tup xs] = some (.s (.int xs.length)) := id rfl
@[simp] theorem len_s {z : Str} : lenOp [.str z] = if z.length ≤ sizeLine then some (.s (.int z.length)) else none := id rfl
@[simp] theorem int1_i : int1Op [.int i] = some (.s (.int i)) := id rfl
@[simp] theorem list_l : listOp [.lst xs] = some (.l xs) := id rfl
@[simp] theorem list_t : listOp [.tup xs] = some (.l xs) := id rfl
@[simp] theorem tuple_l : tupleOp [.lst xs] = some (.a (.tup xs)) := id rfl
@[simp] theorem tuple_t : tupleOp [.tup xs] = some (.a (.tup xs)) := id rfl
@[simp] theorem idx_l : idxD (.lst xs) (.int i) = atI xs i := id rfl
@[simp] theorem idx_t : idxD (.tup xs) (.int i) = atI xs i := id rfl
@[simp] theorem items_l : itemsOf (.lst xs) = some xs := id rfl
@[simp] theorem items_t : itemsOf (.tup xs) = some xs := id rfl
def rngOk (j : Int) : Bool := decide (-(2 ^ 62) ≤ j ∧ j < 2 ^ 62)
theorem rngOk_of {j : Int} (h : -1000000000 ≤ j) (h2 : j ≤ 1000000000) : rngOk j = true := by unfold rngOk; rw [decide_eq_true_eq]; omega
theorem rngOk_n {n : Nat} (h2 : n ≤ 1000000000) : rngOk n = true := rngOk_of (by omega) (by omega)
@[simp] theorem rng_i : rngOf [.int j] = if rngOk j = true then some (rangeD 0 j.toNat) else none := by unfold rngOk; simp only [decide_eq_true_eq]; rfl
@[simp] theorem rng2_i : rng2Of [.int i, .int j] = if rngOk i = true ∧ rngOk j = true then some (rangeD i (j - i).toNat) else none := by unfold rngOk; simp only [decide_eq_true_eq, and_assoc]; rfl
@[simp] theorem item_im {d e : D} : itemMd (.sh .im, d) e = (.sh .im, e) := id rfl
@[simp] theorem item_int {a : DV} {i : Int} : itemMd a (.int i) = (.sh .im, .int i) := by simp [itemMd, D.scal]
@[simp] theorem item_bo {d : D} {xs : List D} : itemMd (.bo, d) (.lst xs) = (.bo, .lst xs) := id rfl
@[simp] theorem item_bot {d : D} {xs : List D} : itemMd (.bo, d) (.tup xs) = (.bo, .tup xs) := id rfl
@[simp] theorem item_str {a : DV} {i : Str} : itemMd a (.str i) = (.sh .im, .str i) := by simp [itemMd, D.scal]
@[simp] theorem item_bl {a : DV} {i : Bool} : itemMd a (.bl i) = (.sh .im, .bl i) := by simp [itemMd, D.scal]
@[simp] theorem truth_bl {b : Bool} : truthD (.bl b) = some b := id rfl
@[simp] theorem truth_int : truthD (.int i) = some (i != 0) := id rfl
@[simp] theorem kid_im {s : Sh} : kidOk .im (.sh s) = true := id rfl
@[simp] theorem kid_ow {s : Sh} : kidOk (.ow s) (.sh (.ow s)) = true := by simp [kidOk]
end
end Den

namespace Den
open PySem PySem.Spec PyProof.Rows L2
section
variable {P : Program} {w : World} {K : PySem.W.Frag} {mg : Str → Option Value} {W : WX} {R H : Hp} {F : List Addr} {ρ : Rho} {σ : L2.St} {Q : VK} {d : D} {pb : Bool}
/-- an item of what a name bears -/
def dIdxV (i : Nat) (db : Den DV) : Den DV := fun ρ => match ρ[i]? with
  | some (some _) => dBind db (fun b ρ1 => if isBo b = true then none else match ρ1[i]? with
    | some (some (.im, d0)) => (idxD d0 b.2).map fun d => .ok ρ1 (.sh .im, d)
    | some (some (.ow .im, .lst ds)) => (idxD (.lst ds) b.2).map fun d => .ok ρ1 (.sh .im, d)
    | some (some (.ow (.ow _), d0)) => (idxD d0 b.2).map fun d => .ok ρ1 (itemMd (.bo, d0) d)
    | _ => none) ρ
  | _ => none
theorem idxV_ok {i : Nat} {db : Den DV} (h : tE K mg W pb (dIdxV i db) σ H Q) : tOp (rIx K) (tVar i) (tE K mg W pb db) σ H Q := by
  obtain ⟨ρ, R, F, res, hS, hden, hQ⟩ := h
  unfold dIdxV at hden
  split at hden
  rotate_left
  · cases hden
  rename_i sd0 e0
  obtain ⟨s0, d0⟩ := sd0
  obtain ⟨v0, La, Lb, a1, a2, _⟩ := hS.slots.pick e0
  refine ⟨v0, a1, ?_⟩
  refine tG_bind hS hden hQ fun ρ1 b u H1 R1 F1 G1 e st q n s pp => ?_
  split at e
  · cases e
  rename_i hb
  have qu : At K H1 u b.2 := q.at st.sub
  split at e
  · rename_i d1 e1
    obtain ⟨d, h1, h2⟩ := Option.map_eq_some_iff.mp e
    subst h2
    obtain ⟨v1, Lc, Ld, b1, b2, _⟩ := st.slots.pick e1
    rw [a1] at b1; cases b1
    have st' := st.freeze (nd_out n)
    have q' := q.freeze st.sub (not_bo (ff_of hb))
    have qv : At K (ext R1 H1 G1) v0 d1 := b2.2.mono (ext_sub (R := R1) st.sub)
    obtain ⟨z, h3, h4⟩ := idx_ok (Q := Q) st'.sub h1 qv q'
    exact h4 (((hQ.step s pp).step (.freeze st.sub) fun _ => .refl).im st' h3)
  · rename_i ds e1
    obtain ⟨d, h1, h2⟩ := Option.map_eq_some_iff.mp e
    subst h2
    obtain ⟨p, vs, b1, b2, qq, _⟩ := st.recast e1
    rw [a1] at b1; cases b1
    obtain ⟨mb, db'⟩ := b
    cases db' with
    | int j =>
      cases qu
      obtain ⟨z, h3, h4⟩ := qq.atI h1
      exact .inl ⟨_, _, _, z, rfl, rfl, .inl (.inl b2), h3, ((hQ.step s pp).drop).im st h4⟩
    | _ => cases h1
  · rename_i k d1 e1
    obtain ⟨d, h1, h2⟩ := Option.map_eq_some_iff.mp e
    subst h2
    obtain ⟨v1, Lc, Ld, b1, b2, _⟩ := st.slots.pick e1
    rw [a1] at b1; cases b1
    have qv : At K H1 v0 d1 := Own.at st.sub (fun _ _ => rfl) b2
    obtain ⟨z, h3, h4⟩ := idx_ok (Q := Q) .refl h1 qv qu
    refine h4 ?_
    have hQ2 := (hQ.step s pp).drop
    unfold itemMd at hQ2
    cases hs : d.scal with
    | true =>
      rw [hs, if_neg (by simp)] at hQ2
      rw [h3.scal hs]
      exact hQ2.scal st hs
    | false =>
      rw [hs, if_pos (by simp)] at hQ2
      exact hQ2 z H1 R1 F1 [] st ⟨rfl, h3⟩ (by rw [List.append_nil]; exact st.nd) (by rw [List.append_nil]; exact .refl) fun _ => .refl
  · cases e
def ivM (d0 d : D) : Sh → DV
  | .ow (.ow _) => itemMd (.bo, d0) d
  | _ => (.sh .im, d)
@[simp] theorem ivM_im {d0 d : D} : ivM d0 d .im = (.sh .im, d) := id rfl
@[simp] theorem ivM_ow {d0 d : D} : ivM d0 d (.ow .im) = (.sh .im, d) := id rfl
@[simp] theorem ivM_oo {d0 d : D} {k : Sh} : ivM d0 d (.ow (.ow k)) = itemMd (.bo, d0) d := id rfl
@[simp] theorem ivM_snd {d0 d : D} {s : Sh} : (ivM d0 d s).2 = d := by
  match s with
  | .im => rfl
  | .ow .im => rfl
  | .ow (.ow k) => show (itemMd (.bo, d0) d).2 = d; unfold itemMd; split <;> rfl
@[simp] theorem ivM_int {d0 : D} {i : Int} {s : Sh} : ivM d0 (.int i) s = (.sh .im, .int i) := by
  match s with
  | .im => rfl
  | .ow .im => rfl
  | .ow (.ow k) => exact item_int
@[simp] theorem ivM_str {d0 : D} {i : Str} {s : Sh} : ivM d0 (.str i) s = (.sh .im, .str i) := by
  match s with
  | .im => rfl
  | .ow .im => rfl
  | .ow (.ow k) => exact item_str
@[simp] theorem ivM_bl {d0 : D} {i : Bool} {s : Sh} : ivM d0 (.bl i) s = (.sh .im, .bl i) := by
  match s with
  | .im => rfl
  | .ow .im => rfl
  | .ow (.ow k) => exact item_bl
theorem uE_idxV {i : Nat} {db : Den DV} {Q : Rho → DV → Prop} {X : Rho → Exn → Prop} : uE (dIdxV i db) Q X ρ = wSlot ρ[i]? fun _ _ => uE db (fun ρ b => isBo b = false ∧ wSlot ρ[i]? fun s d0 => (s = .ow .im → ∃ ds, d0 = .lst ds) ∧ wO (idxD d0 b.2) fun d => Q ρ (ivM d0 d s)) X ρ := by
  conv => lhs; unfold uE dIdxV
  cases h : ρ[i]? with
  | none => rfl
  | some o => cases o with
    | none => rfl
    | some sd =>
      obtain ⟨s, d⟩ := sd
      simp only [wSlot_some]
      refine Eq.trans (b := uE (dBind db _) Q X ρ) (by with_unfolding_all rfl) ?_
      rw [uE_bind]; congr 1; funext ρ b
      cases hb : isBo b
      · simp only [true_and]; conv => lhs; unfold uE
        simp only [hb, Bool.false_eq_true, if_false]
        cases h1 : ρ[i]? with
        | none => rfl
        | some o => cases o with
          | none => rfl
          | some sd =>
            obtain ⟨s, d⟩ := sd
            simp only [wSlot_some]
            match s with
            | .im => simp only [reduceCtorEq, false_implies, true_and]; cases idxD d b.2 <;> rfl
            | .ow .im =>
              cases d with
              | lst ds => simp only [D.lst.injEq, exists_eq', implies_true, true_and]; cases idxD (.lst ds) b.2 <;> rfl
              | _ => simp
            | .ow (.ow k) => simp only [Sh.ow.injEq, reduceCtorEq, false_implies, true_and]; cases idxD d b.2 <;> rfl
      · conv => lhs; unfold uE
        simp [hb]
@[simp ↓] theorem uE_idxV_z {i : Nat} {db : Den DV} {Q : Rho → DV → Prop} {X : Rho → Exn → Prop} : uE (dIdxV i db) Q X ρ = wSlot ρ[i]? (Lz (tgz fun _ _ => uE db ((Lz (tgz fun ρ b => isBo b = false ∧ wSlot ρ[i]? (Lz (tgz fun s d0 => (s = .ow .im → ∃ ds, d0 = .lst ds) ∧ wO (idxD d0 b.2) (Lz (tgz fun d => Q ρ (ivM d0 d s)))))))) X ρ)) := uE_idxV
end
end Den
namespace Den
open PySem PySem.Spec PyProof.Rows L2
theorem e_idxV {X : Cx} {W : WX} {pb : Bool} {b : Expr} {pos pos2 : Pos} {db : Den DV} {x : Str} {i : Nat} (ha : PE X (.Name x pos2) (tVar i)) (hb : RE X W pb b db) (hs : PlainIx b := by exact fun _ _ => rfl) : RE X W pb (.Subscript (.Name x pos2) b pos) (dIdxV i db) := (pe_ix ix_seq ha hb hs).impD fun _ _ _ h => idxV_ok h
end Den

namespace Den
open PySem PySem.Spec PyProof.Rows L2
/-! the same, as words that nothing unfolds -/
structure Blk (p : Prop) : Prop where
  out : p
def wE {α : Type} (m : Den α) (Q : Rho → α → Prop) (X : Rho → Exn → Prop) (ρ : Rho) : Prop := Blk (uE m Q X ρ)
def wS (s : DenS) (N : Rho → Prop) (T : Rho → DV → Prop) (B C : Rho → Prop) (X : Rho → Exn → Prop) (ρ : Rho) : Prop := Blk (uS s N T B C X ρ)
def wF (f : FDen) (Q : DV → List (Sh × D) → Prop) (X : Exn → List (Sh × D) → Prop) (args : List (Sh × D)) : Prop := Blk (uF f Q X args)
def wC (own : List Nat) (k : Sh) (tg : DenG) (tt : Den Bool) (te : Den DV) (ds : List D) (Q : Rho → List D → Prop) (ρ : Rho) (acc : List D) : Prop := Blk (uC own k tg tt te ds Q ρ acc)
def wC2 (own vs1 : List Nat) (k : Sh) (tg : DenG) (tt : Den Bool) (di1 : Den (List D)) (tg1 : DenG) (tt1 : Den Bool) (te : Den DV) (ds : List D) (Q : Rho → List D → Prop) (ρ : Rho) (acc : List D) : Prop := Blk (uC2 own vs1 k tg tt di1 tg1 tt1 te ds Q ρ acc)
theorem feE : @wE = @uE := by funext α m Q X ρ; exact propext ⟨Blk.out, Blk.mk⟩
theorem feS : @wS = @uS := by funext s N T B C X ρ; exact propext ⟨Blk.out, Blk.mk⟩
theorem feF : @wF = @uF := by funext f Q X a; exact propext ⟨Blk.out, Blk.mk⟩
theorem feC : @wC = @uC := by funext own k tg tt te ds Q ρ acc; exact propext ⟨Blk.out, Blk.mk⟩
theorem feC2 : @wC2 = @uC2 := by funext own vs1 k tg tt di1 tg1 tt1 te ds Q ρ acc; exact propext ⟨Blk.out, Blk.mk⟩
section
variable {Q : Rho → DV → Prop} {X : Rho → Exn → Prop} {ρ : Rho} {N : Rho → Prop} {T : Rho → DV → Prop} {B C : Rho → Prop}
@[simp ↓] theorem wE_ret {α : Type} {Q : Rho → α → Prop}  {a : α} : wE (dRet a) Q X ρ = Q ρ a := by
  (try rewrite [feE]); (try rewrite [feS]); (try rewrite [feF]); (try rewrite [feC]); (try rewrite [feC2]); exact uE_ret
@[simp ↓] theorem wE_fail {α : Type} {Q : Rho → α → Prop}  : wE dFail Q X ρ = False := by
  (try rewrite [feE]); (try rewrite [feS]); (try rewrite [feF]); (try rewrite [feC]); (try rewrite [feC2]); exact uE_fail
@[simp ↓] theorem wE_C {d : D} : wE (dC d) Q X ρ = Q ρ (.sh .im, d) := by
  (try rewrite [feE]); (try rewrite [feS]); (try rewrite [feF]); (try rewrite [feC]); (try rewrite [feC2]); exact uE_C
@[simp ↓] theorem wE_var_z {i : Nat} : wE (dVar i) Q X ρ = wSlot ρ[i]? (Lz (tgz fun s d => Q ρ (rdM s, d))) := by
  (try rewrite [feE]); (try rewrite [feS]); (try rewrite [feF]); (try rewrite [feC]); (try rewrite [feC2]); exact uE_var_z
@[simp ↓] theorem wE_varF_z {i : Nat} : wE (dVarF i) Q X ρ = wSlot ρ[i]? (Lz (tgz fun _ d => Q (ρ.set i (some (.im, d))) (.sh .im, d))) := by
  (try rewrite [feE]); (try rewrite [feS]); (try rewrite [feF]); (try rewrite [feC]); (try rewrite [feC2]); exact uE_varF_z
@[simp ↓] theorem wE_varM_z {i : Nat} : wE (dVarM i) Q X ρ = wSlot ρ[i]? (Lz (tgz fun s d => Q (ρ.set i none) (.sh s, d))) := by
  (try rewrite [feE]); (try rewrite [feS]); (try rewrite [feF]); (try rewrite [feC]); (try rewrite [feC2]); exact uE_varM_z
@[simp ↓] theorem wE_bin_z {pb : Bool} {op : D → D → Option OR} {da db : Den DV} : wE (dBin pb op da db) Q X ρ = wE da ((Lz (tgz fun ρ a => (isBo a && !pb) = false ∧ wE db ((Lz (tgz fun ρ b => wO (op a.2 b.2) (Lz (tgz fun o => (!o.lent && (isBo a || isBo b)) = false ∧ Q ρ o.val))))) X ρ))) X ρ := by
  (try rewrite [feE]); (try rewrite [feS]); (try rewrite [feF]); (try rewrite [feC]); (try rewrite [feC2]); exact uE_bin_z
@[simp ↓] theorem wE_un_z {op : D → Option OR} {da : Den DV} : wE (dUn op da) Q X ρ = wE da ((Lz (tgz fun ρ a => wO (op a.2) (Lz (tgz fun o => (!o.lent && isBo a) = false ∧ Q ρ o.val))))) X ρ := by
  (try rewrite [feE]); (try rewrite [feS]); (try rewrite [feF]); (try rewrite [feC]); (try rewrite [feC2]); exact uE_un_z
@[simp ↓] theorem wE_nil {Q : Rho → List DV → Prop} : wE dNil Q X ρ = Q ρ [] := by
  (try rewrite [feE]); (try rewrite [feS]); (try rewrite [feF]); (try rewrite [feC]); (try rewrite [feC2]); exact uE_nil
@[simp ↓] theorem wE_cons_z {pr : Bool} {da : Den DV} {dr : Den (List DV)} {Q : Rho → List DV → Prop} : wE (dCons pr da dr) Q X ρ = wE da ((Lz (tgz fun ρ a => (isBo a && !pr) = false ∧ wE dr ((Lz (tgz fun ρ as => Q ρ (a :: as)))) X ρ))) X ρ := by
  (try rewrite [feE]); (try rewrite [feS]); (try rewrite [feF]); (try rewrite [feC]); (try rewrite [feC2]); exact uE_cons_z
@[simp ↓] theorem wE_call_z {op : List D → Option OR} {da : Den (List DV)} : wE (dCall op da) Q X ρ = wE da ((Lz (tgz fun ρ as => wO (op (as.map (·.2))) (Lz (tgz fun o => (!o.lent && !noBo as) = false ∧ Q ρ o.val))))) X ρ := by
  (try rewrite [feE]); (try rewrite [feS]); (try rewrite [feF]); (try rewrite [feC]); (try rewrite [feC2]); exact uE_call_z
@[simp ↓] theorem wE_tup_z {da : Den (List DV)} : wE (dTup da) Q X ρ = wE da ((Lz (tgz fun ρ as => noBo as = true ∧ as.length ≤ sizeLine ∧ Q ρ (.sh .im, .tup (as.map (·.2)))))) X ρ := by
  (try rewrite [feE]); (try rewrite [feS]); (try rewrite [feF]); (try rewrite [feC]); (try rewrite [feC2]); exact uE_tup_z
@[simp ↓] theorem wE_lst_z {da : Den (List DV)} : wE (dLst da) Q X ρ = wE da ((Lz (tgz fun ρ as => noBo as = true ∧ as.length ≤ sizeLine ∧ Q ρ (.sh (.ow .im), .lst (as.map (·.2)))))) X ρ := by
  (try rewrite [feE]); (try rewrite [feS]); (try rewrite [feF]); (try rewrite [feC]); (try rewrite [feC2]); exact uE_lst_z
@[simp ↓] theorem wE_tst_z {Q : Rho → Bool → Prop} {da : Den DV} : wE (dTst da) Q X ρ = wE da ((Lz (tgz fun ρ a => wBl a.2 (Q ρ)))) X ρ := by
  (try rewrite [feE]); (try rewrite [feS]); (try rewrite [feF]); (try rewrite [feC]); (try rewrite [feC2]); exact uE_tst_z
@[simp ↓] theorem wE_truth_z {Q : Rho → Bool → Prop} {da : Den DV} : wE (dTruth da) Q X ρ = wE da ((Lz (tgz fun ρ a => wO (truthD a.2) (Q ρ)))) X ρ := by
  (try rewrite [feE]); (try rewrite [feS]); (try rewrite [feF]); (try rewrite [feC]); (try rewrite [feC2]); exact uE_truth_z
@[simp ↓] theorem wE_and_z {Q : Rho → Bool → Prop} {da db : Den Bool} : wE (dAnd da db) Q X ρ = wE da ((Lz (tgz fun ρ c => if c = true then wE db Q X ρ else Q ρ false))) X ρ := by
  (try rewrite [feE]); (try rewrite [feS]); (try rewrite [feF]); (try rewrite [feC]); (try rewrite [feC2]); exact uE_and_z
@[simp ↓] theorem wE_or_z {Q : Rho → Bool → Prop} {da db : Den Bool} : wE (dOr da db) Q X ρ = wE da ((Lz (tgz fun ρ c => if c = true then Q ρ true else wE db Q X ρ))) X ρ := by
  (try rewrite [feE]); (try rewrite [feS]); (try rewrite [feF]); (try rewrite [feC]); (try rewrite [feC2]); exact uE_or_z
@[simp ↓] theorem wE_not_z {Q : Rho → Bool → Prop} {da : Den Bool} : wE (dNot da) Q X ρ = wE da ((Lz (tgz fun ρ c => Q ρ (!c)))) X ρ := by
  (try rewrite [feE]); (try rewrite [feS]); (try rewrite [feF]); (try rewrite [feC]); (try rewrite [feC2]); exact uE_not_z
@[simp ↓] theorem wE_if_z {α : Type} {Q : Rho → α → Prop} {dc : Den Bool} {da db : Den α} : wE (dIf dc da db) Q X ρ = wE dc ((Lz (tgz fun ρ c => if c = true then wE da Q X ρ else wE db Q X ρ))) X ρ := by
  (try rewrite [feE]); (try rewrite [feS]); (try rewrite [feF]); (try rewrite [feC]); (try rewrite [feC2]); exact uE_if_z
@[simp ↓] theorem wE_andV_z {da db : Den DV} : wE (dAndV da db) Q X ρ = wE da ((Lz (tgz fun ρ a => wBl a.2 (Lz (tgz fun b => if b = true then wE db Q X ρ else Q ρ (.sh .im, .bl false)))))) X ρ := by
  (try rewrite [feE]); (try rewrite [feS]); (try rewrite [feF]); (try rewrite [feC]); (try rewrite [feC2]); exact uE_andV_z
@[simp ↓] theorem wE_orV_z {da db : Den DV} : wE (dOrV da db) Q X ρ = wE da ((Lz (tgz fun ρ a => wBl a.2 (Lz (tgz fun b => if b = true then Q ρ (.sh .im, .bl true) else wE db Q X ρ))))) X ρ := by
  (try rewrite [feE]); (try rewrite [feS]); (try rewrite [feF]); (try rewrite [feC]); (try rewrite [feC2]); exact uE_orV_z
@[simp ↓] theorem wE_notV_z {da : Den DV} : wE (dNotV da) Q X ρ = wE da ((Lz (tgz fun ρ a => wBl a.2 (Lz (tgz fun b => Q ρ (.sh .im, .bl (!b))))))) X ρ := by
  (try rewrite [feE]); (try rewrite [feS]); (try rewrite [feF]); (try rewrite [feC]); (try rewrite [feC2]); exact uE_notV_z
@[simp ↓] theorem wE_idx_z {pb : Bool} {da db : Den DV} : wE (dIdx pb da db) Q X ρ = wE da ((Lz (tgz fun ρ a => (isBo a && !pb) = false ∧ wE db ((Lz (tgz fun ρ b => isBo b = false ∧ wO (idxD a.2 b.2) (Lz (tgz fun d => Q ρ (itemMd a d)))))) X ρ))) X ρ := by
  (try rewrite [feE]); (try rewrite [feS]); (try rewrite [feF]); (try rewrite [feC]); (try rewrite [feC2]); exact uE_idx_z
@[simp ↓] theorem wE_noPart {Q : Rho → Option Int → Prop} : wE dNoPart Q X ρ = Q ρ none := by
  (try rewrite [feE]); (try rewrite [feS]); (try rewrite [feF]); (try rewrite [feC]); (try rewrite [feC2]); exact uE_noPart
@[simp ↓] theorem wE_part_z {da : Den DV} {Q : Rho → Option Int → Prop} : wE (dPart da) Q X ρ = wE da ((Lz (tgz fun ρ a => wInt a.2 (Lz (tgz fun i => Q ρ (some i)))))) X ρ := by
  (try rewrite [feE]); (try rewrite [feS]); (try rewrite [feF]); (try rewrite [feC]); (try rewrite [feC2]); exact uE_part_z
@[simp ↓] theorem wE_sl_z {pl : Bool} {da : Den DV} {dl dh : Den (Option Int)} : wE (dSl pl da dl dh) Q X ρ = wE da ((Lz (tgz fun ρ a => (isBo a && !pl) = false ∧ wE dl ((Lz (tgz fun ρ lo => wE dh ((Lz (tgz fun ρ hi => wO (sliceOp a.2 lo hi) (Lz (tgz fun o => (!o.lent && isBo a) = false ∧ Q ρ o.val))))) X ρ))) X ρ))) X ρ := by
  (try rewrite [feE]); (try rewrite [feS]); (try rewrite [feF]); (try rewrite [feC]); (try rewrite [feC2]); exact uE_sl_z
@[simp ↓] theorem wE_asNil {Q : Rho → List Arg → Prop} : wE dAsNil Q X ρ = Q ρ [] := by
  (try rewrite [feE]); (try rewrite [feS]); (try rewrite [feF]); (try rewrite [feC]); (try rewrite [feC2]); exact uE_asNil
@[simp ↓] theorem wE_asV_z {i : Nat} {dr : Den (List Arg)} {Q : Rho → List Arg → Prop} : wE (dAsV i dr) Q X ρ = wSlot ρ[i]? (Lz (tgz fun s d => wE dr ((Lz (tgz fun ρ as => Q ρ (asM i d s :: as)))) X ρ)) := by
  (try rewrite [feE]); (try rewrite [feS]); (try rewrite [feF]); (try rewrite [feC]); (try rewrite [feC2]); exact uE_asV_z
@[simp ↓] theorem wE_asC_z {pr : Bool} {da : Den DV} {dr : Den (List Arg)} {Q : Rho → List Arg → Prop} : wE (dAsC pr da dr) Q X ρ = wE da ((Lz (tgz fun ρ a => (isBo a && !pr) = false ∧ wE dr ((Lz (tgz fun ρ as => Q ρ (.val a :: as)))) X ρ))) X ρ := by
  (try rewrite [feE]); (try rewrite [feS]); (try rewrite [feF]); (try rewrite [feC]); (try rewrite [feC2]); exact uE_asC_z
@[simp ↓] theorem wE_callF_z {n : Nat} {f : FDen} {das : Den (List Arg)} : wE (dCallF n f das) Q X ρ = wE das ((Lz (tgz fun ρ as => wTk as ρ (Lz (tgz fun args ρ' => args.length = n ∧ wF f ((Lz (tgz fun a os => Q (giveAs as os ρ') a))) ((Lz (tgz fun x os => X (giveAs as os ρ') x))) args))))) X ρ := by
  (try rewrite [feE]); (try rewrite [feS]); (try rewrite [feF]); (try rewrite [feC]); (try rewrite [feC2]); exact uE_callF_z
@[simp ↓] theorem wS_nil : wS sNil N T B C X ρ = N ρ := by
  (try rewrite [feE]); (try rewrite [feS]); (try rewrite [feF]); (try rewrite [feC]); (try rewrite [feC2]); exact uS_nil
@[simp ↓] theorem wS_break : wS sBreak N T B C X ρ = B ρ := by
  (try rewrite [feE]); (try rewrite [feS]); (try rewrite [feF]); (try rewrite [feC]); (try rewrite [feC2]); exact uS_break
@[simp ↓] theorem wS_cont : wS sCont N T B C X ρ = C ρ := by
  (try rewrite [feE]); (try rewrite [feS]); (try rewrite [feF]); (try rewrite [feC]); (try rewrite [feC2]); exact uS_cont
@[simp ↓] theorem wS_seq_z {a b : DenS} : wS (sSeq a b) N T B C X ρ = wS a ((Lz (tgz fun ρ => wS b N T B C X ρ))) T B C X ρ := by
  (try rewrite [feE]); (try rewrite [feS]); (try rewrite [feF]); (try rewrite [feC]); (try rewrite [feC2]); exact uS_seq_z
@[simp ↓] theorem wS_if_z {c : Den Bool} {a b : DenS} : wS (sIf c a b) N T B C X ρ = wE c ((Lz (tgz fun ρ k => if k = true then wS a N T B C X ρ else wS b N T B C X ρ))) X ρ := by
  (try rewrite [feE]); (try rewrite [feS]); (try rewrite [feF]); (try rewrite [feC]); (try rewrite [feC2]); exact uS_if_z
@[simp ↓] theorem wS_expr_z {da : Den DV} : wS (sExpr da) N T B C X ρ = wE da ((Lz (tgz fun ρ _ => N ρ))) X ρ := by
  (try rewrite [feE]); (try rewrite [feS]); (try rewrite [feF]); (try rewrite [feC]); (try rewrite [feC2]); exact uS_expr_z
@[simp ↓] theorem wS_ret_z {da : Den DV} : wS (sRet da) N T B C X ρ = wE da ((Lz (tgz fun ρ a => isBo a = false ∧ T ρ a))) X ρ := by
  (try rewrite [feE]); (try rewrite [feS]); (try rewrite [feF]); (try rewrite [feC]); (try rewrite [feC2]); exact uS_ret_z
@[simp ↓] theorem wS_retN : wS sRetN N T B C X ρ = T ρ (.sh .im, .non) := by
  (try rewrite [feE]); (try rewrite [feS]); (try rewrite [feF]); (try rewrite [feC]); (try rewrite [feC2]); exact uS_retN
@[simp ↓] theorem wS_set_z {i : Nat} {da : Den DV} : wS (sSet i da) N T B C X ρ = wE da ((Lz (tgz fun ρ a => wSh a (Lz (tgz fun s d => i < ρ.length ∧ N (ρ.set i (some (s, d)))))))) X ρ := by
  (try rewrite [feE]); (try rewrite [feS]); (try rewrite [feF]); (try rewrite [feC]); (try rewrite [feC2]); exact uS_set_z
@[simp ↓] theorem wS_asg_z {da : Den DV} {tg : DenG} : wS (sAsg da tg) N T B C X ρ = wE da ((Lz (tgz fun ρ a => isBo a = false ∧ wO (tg a.2 ρ) N))) X ρ := by
  (try rewrite [feE]); (try rewrite [feS]); (try rewrite [feF]); (try rewrite [feC]); (try rewrite [feC2]); exact uS_asg_z
@[simp ↓] theorem wS_par_z {i j : Nat} {da : Den (List DV)} : wS (sPar i j da) N T B C X ρ = wE da ((Lz (tgz fun ρ as => noBo as = true ∧ wAs2 as (Lz (tgz fun a b => (i < ρ.length ∧ j < ρ.length) ∧ N ((ρ.set i (some (.im, a))).set j (some (.im, b)))))))) X ρ := by
  (try rewrite [feE]); (try rewrite [feS]); (try rewrite [feF]); (try rewrite [feC]); (try rewrite [feC2]); exact uS_par_z
@[simp ↓] theorem wS_append_z {ks : Sh} {i : Nat} {da : Den DV} : wS (sAppend ks i da) N T B C X ρ = wLst ρ[i]? (Lz (tgz fun _ _ => wE da ((Lz (tgz fun ρ a => wLst ρ[i]? (Lz (tgz fun k ds => (kidOk ks a.1 = true ∧ ds.length < sizeLine ∧ (k = ks ∨ ds = [])) ∧ N (ρ.set i (some (.ow ks, .lst (ds ++ [a.2]))))))))) X ρ)) := by
  (try rewrite [feE]); (try rewrite [feS]); (try rewrite [feF]); (try rewrite [feC]); (try rewrite [feC2]); exact uS_append_z
@[simp ↓] theorem wS_setItem_z {i : Nat} {da dx : Den DV} : wS (sSetItem i da dx) N T B C X ρ = wE da ((Lz (tgz fun ρ a => isBo a = false ∧ wLst ρ[i]? (Lz (tgz fun _ _ => wE dx ((Lz (tgz fun ρ b => wLstI ρ[i]? (Lz (tgz fun ds => wInt b.2 (Lz (tgz fun j => wO (ixN ds.length j) (Lz (tgz fun k => N (ρ.set i (some (.ow .im, .lst (ds.set k a.2))))))))))))) X ρ))))) X ρ := by
  (try rewrite [feE]); (try rewrite [feS]); (try rewrite [feF]); (try rewrite [feC]); (try rewrite [feC2]); exact uS_setItem_z
@[simp ↓] theorem wS_setItem2_z {i : Nat} {da dx dy : Den DV} : wS (sSetItem2 i da dx dy) N T B C X ρ = wE da ((Lz (tgz fun ρ a => isBo a = false ∧ wLstO ρ[i]? (Lz (tgz fun _ => wE dx ((Lz (tgz fun ρ b => wLstO ρ[i]? (Lz (tgz fun ds => wInt b.2 (Lz (tgz fun j => wO (ixN ds.length j) (Lz (tgz fun k => wO ds[k]? (Lz (tgz fun e => wLd e (Lz (tgz fun _ => wE dy ((Lz (tgz fun ρ c => wLstO ρ[i]? (Lz (tgz fun ds3 => wInt c.2 (Lz (tgz fun j' => wO ds3[k]? (Lz (tgz fun e => wLd e (Lz (tgz fun es => wO (ixN es.length j') (Lz (tgz fun k' => N (ρ.set i (some (.ow (.ow .im), .lst (ds3.set k (.lst (es.set k' a.2))))))))))))))))))) X ρ))))))))))))) X ρ))))) X ρ := by
  (try rewrite [feE]); (try rewrite [feS]); (try rewrite [feF]); (try rewrite [feC]); (try rewrite [feC2]); exact uS_setItem2_z
@[simp ↓] theorem wS_for_z {di : Den (List D)} {tg : DenG} {body : DenS} : wS (sFor di tg body) N T B C X ρ = wE di ((Lz (tgz fun ρ ds => wS (loopF tg body ds) N T B C X ρ))) X ρ := by
  (try rewrite [feE]); (try rewrite [feS]); (try rewrite [feF]); (try rewrite [feC]); (try rewrite [feC2]); exact uS_for_z
theorem wF_fn_z {A : List Nat} {n M : Nat} {body : DenS} {Q : DV → List (Sh × D) → Prop} {X : Exn → List (Sh × D) → Prop} {args : List (Sh × D)} : wF (fnDen A n M body) Q X args = wS body ((Lz (tgz fun ρ => wO (outsOf A 0 args ρ) (Q (.sh .im, .non))))) ((Lz (tgz fun ρ a => wO (outsOf A 0 args ρ) (Q a)))) ((Lz (tgz fun _ => False))) ((Lz (tgz fun _ => False))) ((Lz (tgz fun ρ x => wO (outsOf A 0 args ρ) (X x)))) (args.map some ++ List.replicate (M - n) none) := by
  (try rewrite [feE]); (try rewrite [feS]); (try rewrite [feF]); (try rewrite [feC]); (try rewrite [feC2]); exact uF_fn_z
@[simp ↓] theorem wE_items_z {da : Den DV} {Q : Rho → List D → Prop} : wE (dItems da) Q X ρ = wE da ((Lz (tgz fun ρ a => isBo a = false ∧ wO (itemsOf a.2) (Q ρ)))) X ρ := by
  (try rewrite [feE]); (try rewrite [feS]); (try rewrite [feF]); (try rewrite [feC]); (try rewrite [feC2]); exact uE_items_z
@[simp ↓] theorem wE_range_z {da : Den (List DV)} {Q : Rho → List D → Prop} : wE (dRange da) Q X ρ = wE da ((Lz (tgz fun ρ as => wO (rngOf (as.map (·.2))) (Q ρ)))) X ρ := by
  (try rewrite [feE]); (try rewrite [feS]); (try rewrite [feF]); (try rewrite [feC]); (try rewrite [feC2]); exact uE_range_z
@[simp ↓] theorem wE_range2_z {da : Den (List DV)} {Q : Rho → List D → Prop} : wE (dRange2 da) Q X ρ = wE da ((Lz (tgz fun ρ as => wO (rng2Of (as.map (·.2))) (Q ρ)))) X ρ := by
  (try rewrite [feE]); (try rewrite [feS]); (try rewrite [feF]); (try rewrite [feC]); (try rewrite [feC2]); exact uE_range2_z
@[simp ↓] theorem wE_enum_z {da : Den (List DV)} {Q : Rho → List D → Prop} : wE (dEnum da) Q X ρ = wE da ((Lz (tgz fun ρ as => noBo as = true ∧ wO (enumOf (as.map (·.2))) (Q ρ)))) X ρ := by
  (try rewrite [feE]); (try rewrite [feS]); (try rewrite [feF]); (try rewrite [feC]); (try rewrite [feC2]); exact uE_enum_z
@[simp ↓] theorem wE_zip_z {da : Den (List DV)} {Q : Rho → List D → Prop} : wE (dZip da) Q X ρ = wE da ((Lz (tgz fun ρ as => noBo as = true ∧ wO (zipOf (as.map (·.2))) (Q ρ)))) X ρ := by
  (try rewrite [feE]); (try rewrite [feS]); (try rewrite [feF]); (try rewrite [feC]); (try rewrite [feC2]); exact uE_zip_z
@[simp ↓] theorem wE_comp_z {own : List Nat} {k : Sh} {di : Den (List D)} {tg : DenG} {tt : Den Bool} {te : Den DV} {Q : Rho → DV → Prop} : wE (dComp own k di tg tt te) Q X ρ = wE di ((Lz (tgz fun ρ ds => ownIm own 0 ρ = true ∧ wC own k tg tt te ds ((Lz (tgz fun ρ' acc => Q (mergeR own 0 ρ ρ') (.sh (.ow k), .lst acc)))) (wipeR ρ own) []))) X ρ := by
  (try rewrite [feE]); (try rewrite [feS]); (try rewrite [feF]); (try rewrite [feC]); (try rewrite [feC2]); exact uE_comp_z
@[simp ↓] theorem wE_comp2_z {own vs1 : List Nat} {k : Sh} {di : Den (List D)} {tg : DenG} {tt : Den Bool} {di1 : Den (List D)} {tg1 : DenG} {tt1 : Den Bool} {te : Den DV} {Q : Rho → DV → Prop} : wE (dComp2 own vs1 k di tg tt di1 tg1 tt1 te) Q X ρ = wE di ((Lz (tgz fun ρ ds => ownIm own 0 ρ = true ∧ wC2 own vs1 k tg tt di1 tg1 tt1 te ds ((Lz (tgz fun ρ' acc => Q (mergeR own 0 ρ ρ') (.sh (.ow k), .lst acc)))) (wipeR ρ own) []))) X ρ := by
  (try rewrite [feE]); (try rewrite [feS]); (try rewrite [feF]); (try rewrite [feC]); (try rewrite [feC2]); exact uE_comp2_z
@[simp ↓] theorem wS_while_z {c : Den Bool} {body : DenS} {n : Nat} : wS (whileF c body (n + 1)) N T B C X ρ = wE c ((Lz (tgz fun ρ b => if b = true then wS body ((Lz (tgz fun ρ => wS (whileF c body n) N T B C X ρ))) T N ((Lz (tgz fun ρ => wS (whileF c body n) N T B C X ρ))) X ρ else N ρ))) X ρ := by
  (try rewrite [feE]); (try rewrite [feS]); (try rewrite [feF]); (try rewrite [feC]); (try rewrite [feC2]); exact uS_while_z
@[simp ↓] theorem wE_idxV_z {i : Nat} {db : Den DV} {Q : Rho → DV → Prop} {X : Rho → Exn → Prop} : wE (dIdxV i db) Q X ρ = wSlot ρ[i]? (Lz (tgz fun _ _ => wE db ((Lz (tgz fun ρ b => isBo b = false ∧ wSlot ρ[i]? (Lz (tgz fun s d0 => (s = .ow .im → ∃ ds, d0 = .lst ds) ∧ wO (idxD d0 b.2) (Lz (tgz fun d => Q ρ (ivM d0 d s)))))))) X ρ)) := by
  (try rewrite [feE]); (try rewrite [feS]); (try rewrite [feF]); (try rewrite [feC]); (try rewrite [feC2]); exact uE_idxV_z
theorem loop_nil {tg : DenG} {body : DenS} : wS (loopF tg body []) N T B C X ρ = N ρ := by rewrite [feS]; exact uloop_nil
theorem loop_cons {tg : DenG} {body : DenS} {d : D} {ds : List D} : wS (loopF tg body (d :: ds)) N T B C X ρ = wO (tg d ρ) fun ρ1 => wS body (fun ρ2 => wS (loopF tg body ds) N T B C X ρ2) T N (fun ρ2 => wS (loopF tg body ds) N T B C X ρ2) X ρ1 := by rewrite [feS]; exact uloop_cons
theorem loop_inv {tg : DenG} {body : DenS} {ds : List D} (I : Nat → Rho → Prop) (h0 : I 0 ρ)
    (st : ∀ k d ρ, ds[k]? = some d → I k ρ → wO (tg d ρ) fun ρ1 => wS body (I (k + 1)) T N (I (k + 1)) X ρ1)
    (hN : ∀ ρ, I ds.length ρ → N ρ) : wS (loopF tg body ds) N T B C X ρ := by rewrite [feS] at st ⊢; exact uloop_inv I h0 st hN
theorem wS_imp {s : DenS} {N' : Rho → Prop} {T' : Rho → DV → Prop} {B' C' : Rho → Prop} {X' : Rho → Exn → Prop} (h : wS s N T B C X ρ) (hN : ∀ ρ, N ρ → N' ρ) (hT : ∀ ρ a, T ρ a → T' ρ a) (hB : ∀ ρ, B ρ → B' ρ) (hC : ∀ ρ, C ρ → C' ρ) (hX : ∀ ρ x, X ρ x → X' ρ x) : wS s N' T' B' C' X' ρ := by rewrite [feS] at h ⊢; exact uS_imp h hN hT hB hC hX
theorem wE_imp {α : Type} {m : Den α} {Q Q' : Rho → α → Prop} {X' : Rho → Exn → Prop} (h : wE m Q X ρ) (hQ : ∀ ρ a, Q ρ a → Q' ρ a) (hX : ∀ ρ x, X ρ x → X' ρ x) : wE m Q' X' ρ := by rewrite [feE] at h ⊢; exact uE_imp h hQ hX
theorem wF_imp {f : FDen} {Q Q' : DV → List (Sh × D) → Prop} {X X' : Exn → List (Sh × D) → Prop} {args : List (Sh × D)} (h : wF f Q X args) (hQ : ∀ a os, Q a os → Q' a os) (hX : ∀ a os, X a os → X' a os) : wF f Q' X' args := by rewrite [feF] at h ⊢; exact uF_imp h hQ hX
theorem wC_imp {own : List Nat} {k : Sh} {tg : DenG} {tt : Den Bool} {te : Den DV} {ds : List D} {Q Q' : Rho → List D → Prop} {acc : List D} (h : wC own k tg tt te ds Q ρ acc) (i : ∀ ρ acc, Q ρ acc → Q' ρ acc) : wC own k tg tt te ds Q' ρ acc := by rewrite [feC] at h ⊢; exact uC_imp h i
theorem while_inv {c : Den Bool} {body : DenS} (I : Nat → Rho → Prop) (n : Nat) {ρ : Rho} (m : Nat) (h : m < n) (hi : I m ρ) (st : ∀ m ρ, I m ρ → wE c (fun ρ b => if b = true then wS body (fun ρ => ∃ m', m' < m ∧ I m' ρ) T N (fun ρ => ∃ m', m' < m ∧ I m' ρ) X ρ else N ρ) X ρ) : wS (whileF c body n) N T B C X ρ := by rewrite [feS] at st ⊢; rewrite [feE] at st; exact uwhile_inv I n m h hi st
theorem wF_eq {f : FDen} {args : List (Sh × D)} {a : DV} {os : List (Sh × D)} {Q : DV → List (Sh × D) → Prop} {X : Exn → List (Sh × D) → Prop} (h : f args = some (.ret a os)) : wF f Q X args = Q a os := by rewrite [feF]; exact uF_eq h
theorem of_wF {f : FDen} {args : List (Sh × D)} {Q : DV → List (Sh × D) → Prop} (h : wF f Q (fun _ _ => False) args) : ∃ a os, f args = some (.ret a os) ∧ Q a os := by
  rewrite [feF] at h; unfold uF at h; split at h
  · exact h.elim
  · exact ⟨_, _, by assumption, h⟩
  · exact h.elim
section
variable {own : List Nat} {k : Sh} {tg : DenG} {tt : Den Bool} {te : Den DV} {Q : Rho → List D → Prop} {acc : List D}
theorem wC_nil : wC own k tg tt te [] Q ρ acc = Q ρ acc := by rewrite [feC]; exact uC_nil
theorem wC_inv {ds : List D} (I : Nat → Rho → List D → Prop) (h0 : I 0 ρ acc)
    (st : ∀ j d ρ acc, ds[j]? = some d → I j ρ acc → wO (tg d ρ) fun ρ1 => wE tt (fun ρ2 b => if b = true then wE te (fun ρ3 a => (kidOk k a.1 = true ∧ acc.length < sizeLine) ∧ I (j + 1) (wipeR ρ3 own) (acc ++ [a.2])) (fun _ _ => False) ρ2 else I (j + 1) (wipeR ρ2 own) acc) (fun _ _ => False) ρ1)
    (hN : ∀ ρ acc, I ds.length ρ acc → Q ρ acc) : wC own k tg tt te ds Q ρ acc := by rewrite [feC]; rewrite [feE] at st; exact uC_inv I h0 st hN
theorem wC_pure {ds : List D} (p : D → Bool) (f : D → D) (hl : acc.length + ds.length ≤ sizeLine)
    (st : ∀ d ∈ ds, wO (tg d ρ) fun ρ1 => wE tt (fun ρ2 b => b = p d ∧ if p d = true then wE te (fun ρ3 a => kidOk k a.1 = true ∧ a.2 = f d ∧ wipeR ρ3 own = ρ) (fun _ _ => False) ρ2 else wipeR ρ2 own = ρ) (fun _ _ => False) ρ1)
    (hQ : Q ρ (acc ++ (ds.filter p).map f)) : wC own k tg tt te ds Q ρ acc := by rewrite [feC]; rewrite [feE] at st; exact uC_pure p f hl st hQ
theorem wC_map {ds : List D} (f : D → D) (hl : acc.length + ds.length ≤ sizeLine)
    (st : ∀ d ∈ ds, wO (tg d ρ) fun ρ1 => wE te (fun ρ3 a => kidOk k a.1 = true ∧ a.2 = f d ∧ wipeR ρ3 own = ρ) (fun _ _ => False) ρ1)
    (hQ : Q ρ (acc ++ ds.map f)) : wC own k tg (dRet true) te ds Q ρ acc := by rewrite [feC]; rewrite [feE] at st; exact uC_map f hl st hQ
theorem wC2_pure {vs1 : List Nat} {di1 : Den (List D)} {tg1 : DenG} {tt1 : Den Bool} {ds : List D} (g : D → List D) (hl : acc.length + ((ds.map g).flatten).length ≤ sizeLine)
    (st : ∀ d ∈ ds, ∀ acc : List D, acc.length + (g d).length ≤ sizeLine → wO (tg d ρ) fun ρ1 => wE tt (fun ρ2 b => if b = true then wE di1 (fun ρ3 ds1 => wC vs1 k tg1 tt1 te ds1 (fun ρ4 acc' => acc' = acc ++ g d ∧ wipeR ρ4 own = ρ) (wipeR ρ3 vs1) acc) (fun _ _ => False) ρ2 else g d = [] ∧ wipeR ρ2 own = ρ) (fun _ _ => False) ρ1)
    (hQ : Q ρ (acc ++ (ds.map g).flatten)) : wC2 own vs1 k tg tt di1 tg1 tt1 te ds Q ρ acc := by rewrite [feC2]; rewrite [feE, feC] at st; exact uC2_pure g hl st hQ
end
end
end Den

namespace Den
open PySem PySem.Spec PyProof.Rows L2
/-! the pool that all laws draw from -/
def bp_mixed : DenS :=
  (sSeq (sSet 2 (dBin true modOp (dCall int1Op (dCons true (dBin true addOp (dBin true addOp (dBin true mulOp (dVarF 0) (dC (.int 48271))) (dBin true mulOp (dVarF 1) (dC (.int 69621)))) (dC (.int 11))) dNil)) (dC (.int 618970019642690137449562111)))) (sSeq (sSet 3 (dBin true modOp (dCall int1Op (dCons true (dBin true addOp (dBin true addOp (dBin true mulOp (dVarF 2) (dVarF 2)) (dBin true mulOp (dC (.int 7)) (dVarF 2))) (dVarF 1)) dNil)) (dC (.int 162259276829213363391578010288127)))) (sSeq (sSet 4 (dBin true modOp (dCall int1Op (dCons true (dBin true addOp (dBin true mulOp (dVarF 3) (dVarF 3)) (dVarF 2)) dNil)) (dC (.int 618970019642690137449562111)))) (sRet (dBin true addOp (dBin true mulOp (dVarF 3) (dC (.int 618970019642690137449562111))) (dVarF 4))))))
def dp_mixed : FDen := fnDen [2, 3, 4] 2 5 bp_mixed
def bp_rest : DenS :=
  (sSeq (sSet 3 (dC (.int 0))) (sSeq (sIf (dTst (dBin true gtOp (dCall lenOp (dCons true (dVar 0) dNil)) (dC (.int 0)))) (sSet 3 (dCall int1Op (dCons true (dIdxV 0 (dBin true modOp (dCall int1Op (dCons true (dVar 1) dNil)) (dCall lenOp (dCons true (dVar 0) dNil)))) dNil))) sNil) (sSeq (sIf (dTst (dBin true ltOp (dVar 3) (dC (.int 0)))) (sSet 3 (dBin true subOp (dC (.int 1)) (dBin true mulOp (dC (.int 2)) (dVarF 3)))) sNil) (sSeq (sIf (dAnd (dTst (dBin true eqOp (dVar 2) (dC (.int 0)))) (dAnd (dTst (dBin true ltOp (dVar 1) (dCall lenOp (dCons true (dVar 0) dNil)))) (dTst (dBin true geOp (dVar 3) (dBin true powOp (dC (.int 10)) (dC (.int 18))))))) (sRet (dBin true subOp (dVar 3) (dBin true powOp (dC (.int 10)) (dC (.int 18))))) sNil) (sRet (dCallF 2 (dp_mixed) (dAsC true (dBin true addOp (dVarF 3) (dBin true mulOp (dVarF 2) (dC (.int 1000003)))) (dAsV 1 dAsNil))))))))
def dp_rest : FDen := fnDen [3] 3 4 bp_rest
def bp_pool : DenS :=
  (sRet (dLst (dCons false (dVarF 0) (dCons false (dC (.int 0)) (dCons true (dCallF 3 (dp_rest) (dAsV 0 (dAsC true (dC (.int 0)) (dAsC true (dC (.int 0)) dAsNil)))) (dCons true (dC (.int 0)) dNil))))))
def dp_pool : FDen := fnDen [] 1 1 bp_pool
def bp_next : DenS :=
  (sSeq (sSetItem 0 (dBin true addOp (dIdxV 0 (dC (.int 1))) (dC (.int 1))) (dC (.int 1))) (sSeq (sSetItem 0 (dCallF 3 (dp_rest) (dAsC true (dIdxV 0 (dC (.int 0))) (dAsC true (dIdxV 0 (dC (.int 1))) (dAsC true (dC (.int 0)) dAsNil)))) (dC (.int 2))) (sSetItem 0 (dC (.int 0)) (dC (.int 3)))))
def dp_next : FDen := fnDen [] 1 1 bp_next
def bp_draw : DenS :=
  (sSeq (sIf (dTst (dBin true leOp (dIdxV 0 (dC (.int 2))) (dC (.int 1)))) (sSeq (sSetItem 0 (dBin true addOp (dIdxV 0 (dC (.int 3))) (dC (.int 1))) (dC (.int 3))) (sSetItem 0 (dCallF 3 (dp_rest) (dAsC true (dIdxV 0 (dC (.int 0))) (dAsC true (dIdxV 0 (dC (.int 1))) (dAsC true (dIdxV 0 (dC (.int 3))) dAsNil)))) (dC (.int 2)))) sNil) (sSeq (sSet 2 (dBin true modOp (dCall int1Op (dCons true (dIdxV 0 (dC (.int 2))) dNil)) (dVar 1))) (sSeq (sSetItem 0 (dBin true fdivOp (dCall int1Op (dCons true (dIdxV 0 (dC (.int 2))) dNil)) (dVar 1)) (dC (.int 2))) (sRet (dVarM 2)))))
def dp_draw : FDen := fnDen [2] 2 3 bp_draw
def bp_pick : DenS :=
  (sRet (dIdx false (dVarF 1) (dCallF 2 (dp_draw) (dAsV 0 (dAsC true (dCall lenOp (dCons true (dVar 1) dNil)) dAsNil)))))
def dp_pick : FDen := fnDen [] 2 2 bp_pick
def pl (ns : List Int) (a r f : Int) : List D := [.lst (ns.map .int), .int a, .int r, .int f]
abbrev pS (ns : List Int) (a r f : Int) : Sh × D := (.ow .im, .lst (pl ns a r f))
abbrev iS (i : Int) : Sh × D := (.im, .int i)
theorem rho0 {α : Type} {x : α} {l : List α} : (x :: l)[0]? = some x := rfl
theorem atI_map {i : Int} {ns : List Int} (h : 0 ≤ i) (h2 : i < ns.length) : ∃ z, atI (ns.map D.int) i = some (.int z) := by
  refine ⟨ns[i.toNat]'(by omega), ?_⟩
  unfold atI ixN; simp [h, h2]
theorem mulOk_r {i j : Int} (h : -(2 ^ 64) < j ∧ j < 2 ^ 64) : mulOk i j = true := by unfold mulOk; simp only [h, and_self, decide_true, Bool.or_true, Bool.true_or]
theorem mulOk_l {i j : Int} (h : -(2 ^ 64) < i ∧ i < 2 ^ 64) : mulOk i j = true := by unfold mulOk; simp only [h, and_self, decide_true, Bool.or_true, Bool.true_or]
theorem log_lt {i : Int} {k : Nat} (h : i.natAbs < 2 ^ k) (hk : 0 < k) : i.natAbs.log2 < k := by
  by_cases h0 : i.natAbs = 0
  · rw [h0]; simpa using hk
  · exact (Nat.log2_lt h0).2 h
theorem mulOk_b {i j : Int} (hi : i.natAbs < 2 ^ 200) (hj : j.natAbs < 2 ^ 200) : mulOk i j = true := by
  have h1 := log_lt hi (by decide)
  have h2 := log_lt hj (by decide)
  unfold mulOk
  rw [Bool.or_eq_true, decide_eq_true_eq]; right; omega
theorem modB {x m : Int} (h : 0 < m) (h2 : m ≤ 2 ^ 200) : (x % m).natAbs < 2 ^ 200 := by
  have h3 := Int.emod_nonneg x (Int.ne_of_gt h)
  have h4 := Int.emod_lt_of_pos x h
  generalize x % m = y at *
  have : (y.natAbs : Int) < (2 : Int) ^ 200 := by omega
  exact_mod_cast this
variable {Q : DV → List (Sh × D) → Prop} {X : Exn → List (Sh × D) → Prop}
theorem mixed_w {n k : Int} (h : ∀ r : Int, Q (.sh .im, .int r) [iS n, iS k]) : wF dp_mixed Q X [iS n, iS k] := by
  unfold dp_mixed; rw [wF_fn_z]; unfold bp_mixed
  simp
  exact ⟨mulOk_r (by decide), mulOk_r (by decide), mulOk_b (modB (by decide) (by decide)) (modB (by decide) (by decide)), mulOk_l (by decide),
    mulOk_b (modB (by decide) (by decide)) (modB (by decide) (by decide)), mulOk_b (modB (by decide) (by decide)) (by decide), h _⟩
theorem rest_w {s : Sh} {ns : List Int} {a f : Int} (h : ∀ r : Int, Q (.sh .im, .int r) [(s, .lst (ns.map .int)), iS a, iS f]) : wF dp_rest Q X [(s, .lst (ns.map .int)), iS a, iS f] := by
  unfold dp_rest; rw [wF_fn_z]; unfold bp_rest
  have key : ∀ z : Int, wS (sSeq (sIf (dTst (dBin true ltOp (dVar 3) (dC (.int 0)))) (sSet 3 (dBin true subOp (dC (.int 1)) (dBin true mulOp (dC (.int 2)) (dVarF 3)))) sNil) (sSeq (sIf (dAnd (dTst (dBin true eqOp (dVar 2) (dC (.int 0)))) (dAnd (dTst (dBin true ltOp (dVar 1) (dCall lenOp (dCons true (dVar 0) dNil)))) (dTst (dBin true geOp (dVar 3) (dBin true powOp (dC (.int 10)) (dC (.int 18))))))) (sRet (dBin true subOp (dVar 3) (dBin true powOp (dC (.int 10)) (dC (.int 18))))) sNil) (sRet (dCallF 2 (dp_mixed) (dAsC true (dBin true addOp (dVarF 3) (dBin true mulOp (dVarF 2) (dC (.int 1000003)))) (dAsV 1 dAsNil))))))
      (fun ρ => wO (outsOf [3] 0 [(s, .lst (ns.map .int)), iS a, iS f] ρ) (Q (.sh .im, .non))) (fun ρ b => wO (outsOf [3] 0 [(s, .lst (ns.map .int)), iS a, iS f] ρ) (Q b)) (fun _ => False) (fun _ => False) (fun ρ x => wO (outsOf [3] 0 [(s, .lst (ns.map .int)), iS a, iS f] ρ) (X x))
      [some (s, .lst (ns.map .int)), some (iS a), some (iS f), some (.im, .int z)] := by
    intro z
    have m1 : mulOk 2 z = true := mulOk_l (by decide)
    have m2 : mulOk f 1000003 = true := mulOk_r (by decide)
    have fin : ∀ z, wF dp_mixed (fun a_1 os => isBo a_1 = false ∧ wO (outsOf [3] 0 [(s, D.lst (List.map D.int ns)), iS a, iS f] (giveAs [Arg.val (Md.sh Sh.im, D.int (z + f * 1000003)), Arg.val (Md.sh Sh.im, D.int a)] os [some (s, D.lst (List.map D.int ns)), some (iS a), some (Sh.im, D.int f), some (Sh.im, D.int z)])) (Q a_1)) (fun x os => wO (outsOf [3] 0 [(s, D.lst (List.map D.int ns)), iS a, iS f] (giveAs [Arg.val (Md.sh Sh.im, D.int (z + f * 1000003)), Arg.val (Md.sh Sh.im, D.int a)] os [some (s, D.lst (List.map D.int ns)), some (iS a), some (Sh.im, D.int f), some (Sh.im, D.int z)])) (X x)) [iS (z + f * 1000003), iS a] := by
      intro z
      refine mixed_w fun r => ?_
      simp
      exact h r
    simp [m1, m2]
    split <;> split <;> (try split) <;> (try split) <;> first | exact h _ | exact fin _
  by_cases h0 : 0 < ns.length
  · obtain ⟨z, hz⟩ := atI_map (i := a % ns.length) (ns := ns) (Int.emod_nonneg _ (by omega)) (Int.emod_lt_of_pos _ (by omega))
    simp only [wS_seq_z] at key ⊢
    simp [h0, hz] at key ⊢
    exact key z
  · have k0 := key 0
    simp only [wS_seq_z] at k0 ⊢
    simp [h0] at k0 ⊢
    exact k0
theorem atI0 {α : Type} {x : α} {l : List α} : atI (x :: l) 0 = some x := by simp [atI, ixN]
@[simp] theorem pl_len {ns : List Int} {a r f : Int} : (pl ns a r f).length = 4 := id rfl
@[simp] theorem pl0 {ns : List Int} {a r f : Int} : atI (pl ns a r f) 0 = some (.lst (ns.map .int)) := id rfl
@[simp] theorem pl1 {ns : List Int} {a r f : Int} : atI (pl ns a r f) 1 = some (.int a) := id rfl
@[simp] theorem pl2 {ns : List Int} {a r f : Int} : atI (pl ns a r f) 2 = some (.int r) := id rfl
@[simp] theorem pl3 {ns : List Int} {a r f : Int} : atI (pl ns a r f) 3 = some (.int f) := id rfl
@[simp] theorem ix40 : ixN 4 0 = some 0 := id rfl
@[simp] theorem ix41 : ixN 4 1 = some 1 := id rfl
@[simp] theorem ix42 : ixN 4 2 = some 2 := id rfl
@[simp] theorem ix43 : ixN 4 3 = some 3 := id rfl
@[simp] theorem ps1 {ns : List Int} {a r f b : Int} : (pl ns a r f).set 1 (.int b) = pl ns b r f := id rfl
@[simp] theorem ps2 {ns : List Int} {a r f b : Int} : (pl ns a r f).set 2 (.int b) = pl ns a b f := id rfl
@[simp] theorem ps3 {ns : List Int} {a r f b : Int} : (pl ns a r f).set 3 (.int b) = pl ns a r b := id rfl
theorem next_w {ns : List Int} {a r f : Int} (h : ∀ a r f : Int, Q (.sh .im, .non) [pS ns a r f]) : wF dp_next Q X [pS ns a r f] := by
  unfold dp_next; rw [wF_fn_z]; unfold bp_next
  simp
  refine rest_w fun r => ?_
  simp
  exact h _ _ _
theorem draw_w {ns : List Int} {a r f n : Int} (hn : 0 < n) (hl : n ≤ 1000000000000) (h : ∀ r f v : Int, 0 ≤ v → v < n → Q (.sh .im, .int v) [pS ns a r f, iS n]) : wF dp_draw Q X [pS ns a r f, iS n] := by
  have l2 : n.natAbs.log2 < 9000 := by
    have : n.natAbs < 2 ^ 200 := by
      have : (n.natAbs : Int) < (2 : Int) ^ 200 := by omega
      exact_mod_cast this
    have := log_lt this (by decide)
    omega
  have fin : ∀ r f : Int, Q (.sh .im, .int (r % n)) [pS ns a (r / n) f, iS n] := fun r f => h _ _ _ (Int.emod_nonneg _ (Int.ne_of_gt hn)) (Int.emod_lt_of_pos _ hn)
  unfold dp_draw; rw [wF_fn_z]; unfold bp_draw
  simp [hn, l2]
  split
  · refine rest_w fun r => ?_
    simp [hn, l2]
    exact fin _ _
  · exact fin _ _
theorem pick_w {s : Sh} {ns : List Int} {a r f : Int} {ds : List D} (hn : 0 < ds.length) (hl : ds.length ≤ 1000000000) (h : ∀ r f : Int, ∀ d ∈ ds, Q (.sh .im, d) [pS ns a r f, (.im, .lst ds)]) : wF dp_pick Q X [pS ns a r f, (s, .lst ds)] := by
  unfold dp_pick; rw [wF_fn_z]; unfold bp_pick
  have fin : ∀ r f v : Int, 0 ≤ v → v < ds.length → ∃ d, atI ds v = some d ∧ d ∈ ds := fun r f v h1 h2 => by
    refine ⟨ds[v.toNat]'(by omega), ?_, List.getElem_mem _⟩
    simp [atI, ixN, h1, h2]
  simp
  refine draw_w (by omega) (by omega) fun r f v h1 h2 => ?_
  obtain ⟨d, h3, h4⟩ := fin r f v h1 h2
  simp [h3]
  exact h _ _ _ h4
theorem pool_w {s : Sh} {ns : List Int} (h : ∀ a r f : Int, Q (.sh (.ow .im), .lst (pl ns a r f)) [(.im, .lst (ns.map .int))]) : wF dp_pool Q X [(s, .lst (ns.map .int))] := by
  unfold dp_pool; rw [wF_fn_z]; unfold bp_pool
  simp
  refine rest_w fun r => ?_
  simp [sizeLine]
  exact h 0 r 0
theorem rangeD_get {lo : Int} {n k : Nat} {d : D} (h : (rangeD lo n)[k]? = some d) : k < n ∧ d = .int (lo + k) := by
  unfold rangeD at h
  rw [List.getElem?_map] at h
  by_cases hk : k < n
  · simp [hk] at h; exact ⟨hk, h.symm⟩
  · simp [hk] at h
theorem atI_n {α : Type} {xs : List α} {k : Nat} {x : α} (h : xs[k]? = some x) : atI xs (k : Int) = some x := L2.atI_nat h
end Den

namespace Den
open PySem PySem.Spec PyProof.Rows L2
def bp_sameB (den : FDen) : DenS :=
  (sSeq (sIf (dOr (dTst (dBin true isOp (dVar 1) (dC .non))) (dOr (dTst (dBin true isOp (dVar 1) (dC (.bl true)))) (dTst (dBin true isOp (dVar 1) (dC (.bl false)))))) (sRet (dOrV (dAndV (dBin true isOp (dVar 1) (dC .non)) (dBin true isOp (dVar 0) (dC .non))) (dOrV (dAndV (dBin true isOp (dVar 1) (dC (.bl true))) (dBin true isOp (dVar 0) (dC (.bl true)))) (dAndV (dBin true isOp (dVar 1) (dC (.bl false))) (dBin true isOp (dVar 0) (dC (.bl false))))))) sNil) (sSeq (sIf (dTruth (dCall isiOp (dCons true (dVar 1) (dCons true (dC (.ty "int")) dNil)))) (sRet (dAndV (dCall isiOp (dCons true (dVar 0) (dCons true (dC (.ty "int")) dNil))) (dAndV (dNotV (dCall isiOp (dCons true (dVar 0) (dCons true (dC (.ty "bool")) dNil)))) (dBin true eqOp (dVar 0) (dVar 1))))) sNil) (sSeq (sIf (dTruth (dCall isiOp (dCons true (dVar 1) (dCons true (dC (.ty "str")) dNil)))) (sRet (dAndV (dCall isiOp (dCons true (dVar 0) (dCons true (dC (.ty "str")) dNil))) (dBin true eqOp (dVar 0) (dVar 1)))) sNil) (sSeq (sIf (dTruth (dCall isiOp (dCons true (dVar 1) (dCons true (dC (.ty "dict")) dNil)))) (sSeq (sIf (dOr (dNot (dTruth (dCall isiOp (dCons true (dVar 0) (dCons true (dC (.ty "dict")) dNil))))) (dTst (dBin true neOp (dCall lenOp (dCons true (dVar 0) dNil)) (dCall lenOp (dCons true (dVar 1) dNil))))) (sRet (dC (.bl false))) sNil) (sSeq (sFor (dItems (dVarF 1)) (gSet 3) (sIf (dOr (dTst (dBin true notInOp (dVar 3) (dVar 0))) (dNot (dTruth (dCallF 2 den (dAsC true (dIdx true (dVarF 0) (dVar 3)) (dAsC true (dIdx true (dVarF 1) (dVar 3)) dAsNil)))))) (sRet (dC (.bl false))) sNil)) (sRet (dC (.bl true))))) sNil) (sSeq (sIf (dAnd (dTruth (dCall isiOp (dCons true (dVar 1) (dCons true (dC (.ty "tuple")) dNil)))) (dNot (dTruth (dCall isiOp (dCons true (dVar 0) (dCons true (dC (.ty "tuple")) dNil)))))) (sRet (dC (.bl false))) sNil) (sSeq (sIf (dAnd (dTruth (dCall isiOp (dCons true (dVar 1) (dCons true (dC (.ty "list")) dNil)))) (dNot (dTruth (dCall isiOp (dCons true (dVar 0) (dCons true (dC (.ty "list")) dNil)))))) (sRet (dC (.bl false))) sNil) (sSeq (sIf (dTst (dBin true neOp (dCall lenOp (dCons true (dVar 0) dNil)) (dCall lenOp (dCons true (dVar 1) dNil)))) (sRet (dC (.bl false))) sNil) (sSeq (sFor (dRange (dCons true (dCall lenOp (dCons true (dVar 1) dNil)) dNil)) (gSet 2) (sIf (dNot (dTruth (dCallF 2 den (dAsC true (dIdx true (dVarF 0) (dVar 2)) (dAsC true (dIdx true (dVarF 1) (dVar 2)) dAsNil))))) (sRet (dC (.bl false))) sNil)) (sRet (dC (.bl true)))))))))))
def dp_sameB : Nat → FDen
  | 0 => fun _ => none
  | k + 1 => fnDen [2, 3] 2 4 (bp_sameB (dp_sameB k))
@[simp] theorem eq_ss {x y : Str} : eqOp (.str x) (.str y) = some (.s (.bl (x == y))) := id rfl
@[simp] theorem ne_ss {x y : Str} : neOp (.str x) (.str y) = some (.s (.bl (!(x == y)))) := id rfl
mutual
def D.plain : Nat → D → Bool
  | _, .non => true
  | _, .bl _ => true
  | _, .int _ => true
  | _, .str _ => true
  | 0, .lst _ => false
  | 0, .tup _ => false
  | n + 1, .lst xs => decide (xs.length ≤ sizeLine) && D.plains n xs
  | n + 1, .tup xs => decide (xs.length ≤ sizeLine) && D.plains n xs
  | _, _ => false
def D.plains : Nat → List D → Bool
  | _, [] => true
  | n, x :: xs => D.plain n x && D.plains n xs
end
theorem plains_mem : ∀ {n : Nat} {xs : List D} {d : D}, D.plains n xs = true → d ∈ xs → D.plain n d = true
  | n, x :: xs, d, h, hm => by
    rw [D.plains, Bool.and_eq_true] at h
    rcases List.mem_cons.1 hm with e | e
    · rw [e]; exact h.1
    · exact plains_mem h.2 e
variable {Q : DV → List (Sh × D) → Prop} {X : Exn → List (Sh × D) → Prop}
section
variable {N : Rho → Prop} {T : Rho → DV → Prop} {B C : Rho → Prop} {X : Rho → Exn → Prop} {ρ : Rho}
theorem seq_skip {c : Den Bool} {a b : DenS} (h : wE c (fun ρ' k => k = false ∧ ρ' = ρ) (fun _ _ => False) ρ) (hb : wS b N T B C X ρ) : wS (sSeq (sIf c a sNil) b) N T B C X ρ := by
  rw [wS_seq_z, wS_if_z]
  refine wE_imp h (fun ρ' k h => ?_) fun _ _ => False.elim
  obtain ⟨rfl, rfl⟩ := h; rw [Lz_2, if_neg Bool.false_ne_true, wS_nil]; exact hb
theorem seq_inv {a b : DenS} (I : Rho → Prop) (h : wS a I (fun _ _ => False) (fun _ => False) (fun _ => False) (fun _ _ => False) ρ) (hb : ∀ ρ', I ρ' → wS b N T B C X ρ') : wS (sSeq a b) N T B C X ρ := by
  rw [wS_seq_z]
  exact wS_imp h hb (fun _ _ => False.elim) (fun _ => False.elim) (fun _ => False.elim) (fun _ _ => False.elim)
theorem seq_op {a b : DenS} (P : Rho → Prop) (h : ∀ I : Rho → Prop, (∀ ρ', P ρ' → I ρ') → wS a I (fun _ _ => False) (fun _ => False) (fun _ => False) (fun _ _ => False) ρ) (hb : ∀ ρ', P ρ' → wS b N T B C X ρ') : wS (sSeq a b) N T B C X ρ := seq_inv P (h P fun _ => id) hb
theorem if_no {c : Den Bool} {a b : DenS} (h : wE c (fun ρ' k => k = false ∧ ρ' = ρ) (fun _ _ => False) ρ) (hb : wS b N T B C X ρ) : wS (sIf c a b) N T B C X ρ := by
  rw [wS_if_z]
  refine wE_imp h (fun ρ' k h => ?_) fun _ _ => False.elim
  obtain ⟨rfl, rfl⟩ := h; rw [Lz_2, if_neg Bool.false_ne_true]; exact hb
theorem if_yes {c : Den Bool} {a b : DenS} (h : wE c (fun ρ' k => k = true ∧ ρ' = ρ) (fun _ _ => False) ρ) (ha : wS a N T B C X ρ) : wS (sIf c a b) N T B C X ρ := by
  rw [wS_if_z]
  refine wE_imp h (fun ρ' k h => ?_) fun _ _ => False.elim
  obtain ⟨rfl, rfl⟩ := h; rw [Lz_2, if_pos rfl]; exact ha
theorem seq_take {c : Den Bool} {a b : DenS} (h : wE c (fun ρ' k => k = true ∧ ρ' = ρ) (fun _ _ => False) ρ) (ha : wS a (fun ρ => wS b N T B C X ρ) T B C X ρ) : wS (sSeq (sIf c a sNil) b) N T B C X ρ := by
  rw [wS_seq_z, wS_if_z]
  refine wE_imp h (fun ρ' k h => ?_) fun _ _ => False.elim
  obtain ⟨rfl, rfl⟩ := h; rw [Lz_2, if_pos rfl]; exact ha
end
theorem plains_ints {k : Nat} : ∀ ns : List Int, D.plains k (ns.map D.int) = true
  | [] => by cases k <;> rfl
  | n :: ns => by rw [List.map_cons, D.plains, plains_ints ns]; cases k <;> rfl
theorem plains_all {k : Nat} : ∀ {ds : List D}, (∀ d ∈ ds, D.plain k d = true) → D.plains k ds = true
  | [], _ => by cases k <;> rfl
  | d :: ds, h => by rw [D.plains, h d (List.mem_cons_self ..), plains_all fun e he => h e (List.mem_cons_of_mem _ he)]; rfl
theorem sameB_w : ∀ (k : Nat) (d : D), D.plain k d = true → ∀ (s s' : Sh) {Q : DV → List (Sh × D) → Prop} {X : Exn → List (Sh × D) → Prop}, (∀ s s', Q (.sh .im, .bl true) [(s, d), (s', d)]) → wF (dp_sameB (k + 1)) Q X [(s, d), (s', d)] := by
  intro k
  induction k with
  | zero =>
    intro d hd s s' Q X h
    unfold dp_sameB; rw [wF_fn_z]; unfold bp_sameB
    cases d <;> simp [D.plain] at hd
    · refine seq_take (by simp [isOp, isD]) ?_
      simp [isOp, isD]; exact h _ _
    · rename_i b
      cases b
      · refine seq_take (by simp [isOp, isD]) ?_
        simp [isOp, isD]; exact h _ _
      · refine seq_take (by simp [isOp, isD]) ?_
        simp [isOp, isD]; exact h _ _
    · refine seq_skip (by simp [isOp, isD]) ?_
      refine seq_take (by simp [isiOp, tyName, isiB]) ?_
      simp [isiOp, tyName, isiB]; exact h _ _
    · refine seq_skip (by simp [isOp, isD]) ?_
      refine seq_skip (by simp [isiOp, tyName, isiB]) ?_
      refine seq_take (by simp [isiOp, tyName, isiB]) ?_
      simp [isiOp, tyName, isiB]; exact h _ _
  | succ k ih =>
    intro d hd s s' Q X h
    unfold dp_sameB; rw [wF_fn_z]; unfold bp_sameB
    cases d with
    | non =>
      refine seq_take (by simp [isOp, isD]) ?_
      simp [isOp, isD]; exact h _ _
    | bl b =>
      cases b
      · refine seq_take (by simp [isOp, isD]) ?_
        simp [isOp, isD]; exact h _ _
      · refine seq_take (by simp [isOp, isD]) ?_
        simp [isOp, isD]; exact h _ _
    | int i =>
      refine seq_skip (by simp [isOp, isD]) ?_
      refine seq_take (by simp [isiOp, tyName, isiB]) ?_
      simp [isiOp, tyName, isiB]; exact h _ _
    | str x =>
      refine seq_skip (by simp [isOp, isD]) ?_
      refine seq_skip (by simp [isiOp, tyName, isiB]) ?_
      refine seq_take (by simp [isiOp, tyName, isiB]) ?_
      simp [isiOp, tyName, isiB]; exact h _ _
    | lst xs =>
      simp [D.plain] at hd
      refine seq_skip (by simp [isOp, isD]) ?_
      refine seq_skip (by simp [isiOp, tyName, isiB]) ?_
      refine seq_skip (by simp [isiOp, tyName, isiB]) ?_
      refine seq_skip (by simp [isiOp, tyName, isiB]) ?_
      refine seq_skip (by simp [isiOp, tyName, isiB]) ?_
      refine seq_skip (by simp [isiOp, tyName, isiB]) ?_
      refine seq_skip (by simp) ?_
      have hl : xs.length ≤ 16777216 := hd.1
      simp
      refine ⟨rngOk_n (by omega), ?_⟩
      refine loop_inv (I := fun _ ρ => ∃ s s' x, ρ = [some (s, .lst xs), some (s', .lst xs), x, none]) ⟨s, s', none, rfl⟩ ?_ ?_
      · intro j d ρ hj hI
        obtain ⟨s, s', x, rfl⟩ := hI
        obtain ⟨h1, rfl⟩ := rangeD_get hj
        have h2 : xs[j]? = some xs[j] := by simp [h1]
        simp [atI_n h2]
        refine ih _ (plains_mem hd.2 (List.getElem_mem h1)) .im .im fun s s' => ?_
        simp
      · intro ρ hI
        obtain ⟨s, s', x, rfl⟩ := hI
        simp
        exact h _ _
    | tup xs =>
      simp [D.plain] at hd
      refine seq_skip (by simp [isOp, isD]) ?_
      refine seq_skip (by simp [isiOp, tyName, isiB]) ?_
      refine seq_skip (by simp [isiOp, tyName, isiB]) ?_
      refine seq_skip (by simp [isiOp, tyName, isiB]) ?_
      refine seq_skip (by simp [isiOp, tyName, isiB]) ?_
      refine seq_skip (by simp [isiOp, tyName, isiB]) ?_
      refine seq_skip (by simp) ?_
      have hl : xs.length ≤ 16777216 := hd.1
      simp
      refine ⟨rngOk_n (by omega), ?_⟩
      refine loop_inv (I := fun _ ρ => ∃ s s' x, ρ = [some (s, .tup xs), some (s', .tup xs), x, none]) ⟨s, s', none, rfl⟩ ?_ ?_
      · intro j d ρ hj hI
        obtain ⟨s, s', x, rfl⟩ := hI
        obtain ⟨h1, rfl⟩ := rangeD_get hj
        have h2 : xs[j]? = some xs[j] := by simp [h1]
        simp [atI_n h2]
        refine ih _ (plains_mem hd.2 (List.getElem_mem h1)) .im .im fun s s' => ?_
        simp
      · intro ρ hI
        obtain ⟨s, s', x, rfl⟩ := hI
        simp
        exact h _ _
    | _ => simp [D.plain] at hd
end Den

/-! Methods, constants of a module, parts taken from the back, texts. -/
namespace Den
open PySem PySem.Spec PyProof.Rows L2
section
variable {α β γ δ : Type} {K : PySem.W.Frag} {mg : Str → Option Value} {W : WX} {A : List Nat} {rel : RelT α β} {rel' : RelT γ δ} {pu pa pb pc pd : Bool} {R R' R1 H H' H1 : Hp} {F F1 G : List Addr} {ρ ρ1 : Rho} {σ σ1 : L2.St} {Q : VK} {d : D} {ds : List D} {vs : List V} {p : Addr} {T : Ends} {X : Cx}
/-! ### a method of what is built in -/
def dMeth (pb : Bool) (k : D → Bool) (op : D → List D → Option OR) (da : Den DV) (das : Den (List DV)) : Den DV := dBind da fun a => if (!k a.2 || (isBo a && !pb)) = true then dFail else dBind das fun as => dLift (op a.2 (as.map (·.2))) fun o => if (!o.lent && (isBo a || as.any isBo)) = true then dFail else dRet o.val
def MethX (K : PySem.W.Frag) (op : D → List D → Option OR) (r : V → List V → Hp → VK → Prop) : Prop := ∀ d ds o v vs R H Q, op d ds = some o → Sub R H → At K (if o.lent = true then H else R) v d → AtAll K (if o.lent = true then H else R) vs ds → o.okS = true ∧ (o.wants K R H Q → r v vs H Q)
theorem AtAll.mono' (g : Sub R H) (h : AtAll K R vs ds) : AtAll K H vs ds := h.mono g
theorem meth_ok {T : String} {k : D → Bool} {op : D → List D → Option OR} {r : V → List V → Hp → VK → Prop} {da : Den DV} {das : Den (List DV)} (hk : ∀ H v d, k d = true → At K H v d → tyV K T v H) (hr : MethX K op r) (h : tE K mg W (pa && pb) (dMeth pb k op da das) σ H Q) :
    tBM K T r (tE K mg W pa da) (tA K mg W pb das) σ H Q := by
  obtain ⟨ρ, R, F, res, hS, hden, hQ⟩ := h
  refine tG_bind hS hden hQ fun ρ1 a v H1 R1 F1 G1 e st q n s p => ?_
  split at e
  · cases e
  rename_i hc
  rw [Bool.or_eq_true, not_or] at hc
  have hka : k a.2 = true := by simpa using hc.1
  have hga : isBo a = true → pb = true := fun z => by
    cases hb : pb with
    | true => rfl
    | false => exact absurd (by rw [z, hb]; rfl) hc.2
  refine ⟨hk H1 v a.2 hka (q.at st.sub), ?_⟩
  have sl : Step R H F R1 H1 F1 := s.less fun x hx => List.mem_append_left _ hx
  have hQ1 := hQ.step sl fun z => p (Bool.and_eq_true_iff.mp z).1
  refine tG_bind st e hQ1 fun ρ2 as us H2 R2 F2 G2 e2 st2 q2 n2 s2 p2 => ?_
  obtain ⟨v2, hd⟩ := Frm.vok.behind q n s2 fun z => p2 (hga z)
  have nn : (F2 ++ (G1 ++ G2)).Nodup := by
    rw [List.nodup_append] at n n2 ⊢
    obtain ⟨a1, a2, a3⟩ := n
    obtain ⟨b1, b2, b3⟩ := n2
    refine ⟨b1, List.nodup_append.mpr ⟨a2, b2, fun x hx y hy => ?_⟩, fun x hx y hy => ?_⟩
    · rintro rfl; exact hd x hx (List.mem_append_right _ hy)
    · rcases List.mem_append.mp hy with hy | hy
      · rintro rfl; exact hd x hy (List.mem_append_left _ hx)
      · exact b3 x hx y hy
  have s12 : Step R H F R2 H2 (F2 ++ (G1 ++ G2)) := by
    refine ⟨(sl.trans s2).keep, (sl.trans s2).grow, (sl.trans s2).rnew, fun x hx => ?_, (sl.trans s2).there⟩
    rcases List.mem_append.mp hx with hx | hx
    · exact (sl.trans s2).fnew x (List.mem_append_left _ hx)
    · rcases List.mem_append.mp hx with hx | hx
      · exact s.fnew x (List.mem_append_right _ hx)
      · exact (sl.trans s2).fnew x (List.mem_append_right _ hx)
  have hQ2 := hQ.step s12 fun z => (p (Bool.and_eq_true_iff.mp z).1).trans (p2 (Bool.and_eq_true_iff.mp z).2)
  unfold dLift at e2
  split at e2
  · cases e2
  · rename_i o e1
    dsimp only at e2
    split at e2
    · cases e2
    · rename_i hb
      cases e2
      cases hl : o.lent with
      | true =>
        have hx := hr _ _ o v us R2 H2 Q e1 st2.sub (by rw [if_pos hl]; exact v2.at st2.sub) (by rw [if_pos hl]; exact q2.at st2.sub)
        exact hx.2 ((hQ2.step (.less .refl fun x hx => List.mem_append_left _ hx) fun _ => .refl).or st2 hx.1)
      | false =>
        rw [hl] at hb
        simp only [Bool.not_false, Bool.true_and, Bool.or_eq_true, not_or] at hb
        have st' := st2.freeze (nd_out nn)
        have q' := (v2.freeze st2.sub (not_bo (ff_of hb.1))).mono (ext_mono (G2 := G1 ++ G2) st2.sub fun x hx => List.mem_append_left _ hx)
        have q2' := q2.freeze (G := G1 ++ G2) st2.sub (fun x hx => List.mem_append_right _ hx) (ff_of hb.2)
        have hx := hr _ _ o v us (ext R2 H2 (G1 ++ G2)) H2 Q e1 st'.sub (by rw [hl]; exact q') (by rw [hl]; exact q2')
        exact hx.2 ((hQ2.step (.freeze st2.sub) fun _ => .refl).or st' hx.1)
def isS : D → Bool
  | .str _ => true
  | _ => false
def isL : D → Bool
  | .lst _ => true
  | _ => false
theorem ty_S : ∀ H v d, isS d = true → At K H v d → tyV K "str" v H := fun H v d h q => by
  cases q <;> first | rfl | cases h
theorem ty_L : ∀ H v d, isL d = true → At K H v d → tyV K "list" v H := fun H v d h q => by
  cases q with
  | lst h1 h2 => exact .inl ⟨rfl, _, h1⟩
  | _ => cases h
/-! ### texts -/
def strsOf : List D → Option (List Str)
  | [] => some []
  | .str i :: ds => (strsOf ds).map (i :: ·)
  | _ => none
theorem strs_at : ∀ {ds : List D} {ns : List Str} {vs : List V}, strsOf ds = some ns → AtAll K R vs ds → vs = ns.map V.str
  | [], _, _, e, h => by cases e; cases h; rfl
  | d :: ds, ns, _, e, h => by
    cases h with | cons h1 h2 =>
    cases d with
    | str i =>
      obtain ⟨ms, e1, rfl⟩ := Option.map_eq_some_iff.mp (show (strsOf ds).map (i :: ·) = some ns from e)
      cases h1
      rw [strs_at e1 h2]; rfl
    | _ => cases e
def joinOp : D → List D → Option OR
  | .str a, [.lst ds] => (match strsOf ds with
    | some ys => if (ys.map (·.length)).sum + ys.length * a.length ≤ 16777216 then some (.s (.str (Txt.join a ys))) else none
    | none => none)
  | _, _ => none
theorem mx_join : MethX K joinOp (fun x xs H Q => ∃ a p, ∃ ys : List Str, x = .str a ∧ xs = [.ref p] ∧ (SqL K H p (ys.map V.str) ∨ SqT K H p (ys.map V.str)) ∧ (ys.map (·.length)).sum + ys.length * a.length ≤ 16777216 ∧ Q (.str (Txt.join a ys)) H) := by
  intro d ds o v vs R H Q ho hs hv hu
  unfold joinOp at ho
  split at ho
  · split at ho
    · rename_i ys e1
      split at ho
      · rename_i hz
        cases ho
        cases hv
        cases hu with | cons h1 h2 => cases h2; cases h1 with | lst a b =>
        exact ⟨rfl, fun w => ⟨_, _, ys, rfl, rfl, .inl (by rw [← strs_at e1 b]; exact a), hz, w.2⟩⟩
      · cases ho
    · cases ho
  · cases ho
def zfillOp : D → List D → Option OR
  | .str a, [.int i] => if PadOk i = true then some (.s (.str (Txt.zfill a i))) else none
  | _, _ => none
theorem mx_zfill : MethX K zfillOp (fun x xs H Q => ∃ (a : Str) (i : Int), x = .str a ∧ xs = [.int i] ∧ PadOk i = true ∧ Q (.str (Txt.zfill a i)) H) := by
  intro d ds o v vs R H Q ho hs hv hu
  unfold zfillOp at ho
  split at ho
  · split at ho
    · rename_i hz
      cases ho
      cases hv
      cases hu with | cons h1 h2 =>
      cases h2; cases h1
      exact ⟨rfl, fun w => ⟨_, _, rfl, rfl, hz, w.2⟩⟩
    · cases ho
  · cases ho
/-! ### the place of what is there -/
def firstD (d : D) : List D → Option Nat
  | [] => none
  | e :: es => if D.beq e d = true then some 0 else (firstD d es).map (· + 1)
def indexOp : D → List D → Option OR
  | .lst ds, [d] => if (D.shp 60 d && D.shps 60 ds) = true then (firstD d ds).map fun j => .s (.int (j : Nat)) else none
  | _, _ => none
theorem firstD_ok {n m : Nat} {d : D} (h : D.shp n d = true) : ∀ {ds : List D} {j : Nat}, D.shps m ds = true → firstD d ds = some j → ∃ z, (D.pys ds)[j]? = some z ∧ PyData.eqv z (D.py d) = true ∧ ∀ (k : Nat) (z' : PyData), k < j → (D.pys ds)[k]? = some z' → PyData.eqv z' (D.py d) = false
  | [], _, _, e => by cases e
  | x :: ds, j, hs, e => by
    have a : D.shp m x = true ∧ D.shps m ds = true := by simpa only [D.shps, Bool.and_eq_true] using hs
    unfold firstD at e
    split at e
    · rename_i hb
      cases e
      exact ⟨D.py x, rfl, by rw [D.eqv_beq a.1 h]; exact hb, fun k z' hk => absurd hk (Nat.not_lt_zero _)⟩
    · rename_i hb
      obtain ⟨j', e1, rfl⟩ := Option.map_eq_some_iff.mp e
      obtain ⟨z, h1, h2, h3⟩ := firstD_ok h a.2 e1
      refine ⟨z, h1, h2, fun k z' hk hz => ?_⟩
      cases k with
      | zero =>
        cases hz
        rw [D.eqv_beq a.1 h]; exact ff_of hb
      | succ k => exact h3 k z' (by omega) hz
theorem mx_index : MethX K indexOp (rIndexD K) := by
  intro d ds o v vs R H Q ho hs hv hu
  unfold indexOp at ho
  split at ho
  · rename_i xs d
    split at ho
    · rename_i c
      obtain ⟨j, e1, rfl⟩ := Option.map_eq_some_iff.mp ho
      rw [Bool.and_eq_true] at c
      cases hu with | cons h1 h2 =>
      cases h2
      have c2 := shp_lst c.2
      obtain ⟨z, g1, g2, g3⟩ := firstD_ok c.1 c.2 e1
      have hv2 := (D.shp_ok c2).2.2 hv
      cases hv with | lst a b =>
      exact ⟨rfl, fun w => ⟨_, _, D.py d, _, j, z, rfl, rfl, hv2, (D.shp_ok c.1).2.2 h1, D.shaped (by decide) c2, D.shaped (by decide) c.1, g1, g2, g3, w.2⟩⟩
    · cases ho
  · cases ho

/-! ### all of it, from the back -/
def revOp : D → Option OR
  | .lst ds => some (.l ds.reverse)
  | .tup ds => some (.a (.tup ds.reverse))
  | .str z => if z.length ≤ sizeLine then some (.s (.str ⟨z.cps.reverse⟩)) else none
  | _ => none
def rRevA (K : PySem.W.Frag) : V → Hp → VK → Prop := fun x H Q => (∃ a xs, x = .ref a ∧ SqL K H a xs ∧ ∀ p, H p = none → Q (.ref p) (upd H p (.lst xs.reverse))) ∨
  (∃ a xs, x = .ref a ∧ SqT K H a xs ∧ ∀ p, H p = none → Q (.ref p) (upd H p (.tup xs.reverse))) ∨ ∃ z, x = .str z ∧ z.length ≤ sizeLine ∧ Q (.str ⟨z.cps.reverse⟩) H
theorem AtAll.reverse : ∀ {vs : List V} {ds : List D}, AtAll K R vs ds → AtAll K R vs.reverse ds.reverse
  | _, _, .nil => .nil
  | _, _, .cons r t => by rw [List.reverse_cons, List.reverse_cons]; exact (AtAll.reverse t).append (.cons r .nil)
theorem ux_rev : UnX K revOp (rRevA K) := by
  intro d o v R H Q ho hs hv
  unfold revOp at ho
  split at ho
  · cases ho; cases hv with | lst a b =>
    exact ⟨rfl, fun w => .inl ⟨_, _, rfl, hs.sqL a, fun p hp => w _ p b.reverse hp⟩⟩
  · cases ho; cases hv with | tup a b =>
    exact ⟨rfl, fun w => .inr (.inl ⟨_, _, rfl, hs.sqT a, fun p hp => w.2 _ _ p rfl b.reverse hp⟩)⟩
  · split at ho
    · cases ho; cases hv
      exact ⟨rfl, fun w => .inr (.inr ⟨_, rfl, by assumption, w.2⟩)⟩
    · cases ho
  · cases ho
section
variable {prog : Program} {w : World} {A : Around} {E : Value → Shared → Prop} {s : Shared}
theorem sliceApplied_rev {sl : Addr} {vl vu vk : Value} {n : Nat} {Q : Int × Int × Nat → Shared → Prop} (hs : s.heap.IsSliceOf sl vl vu vk) (pl : IsPart vl none) (pu : IsPart vu none) (pk : IsPart vk (some (-1)))
    (h : Q ((n : Int) - 1, -1, n) s) : wpAny (model prog w) A (Builtin.Slice.sliceApplied (.ref sl) (pure (n : Int))) Q E s := by
  obtain ⟨os, hos, hcs, hds⟩ := id hs
  unfold Builtin.Slice.sliceApplied Builtin.Slice.sliceFields
  refine wpAny_bind (wpAny_bind (wpAny_field hos hds (x := vl) rfl (wpAny_bind (wpAny_field hos hds (x := vu) rfl (wpAny_bind (wpAny_field hos hds (x := vk) rfl (wpAny_pure ?_)))))))
  refine wpAny_bind (HT.slicePart_ pk ?_)
  show wpAny _ _ (if ((-1 : Int) == 0) = true then _ else _) _ _ s
  rw [if_neg (by decide)]
  refine wpAny_bind (HT.slicePart_ pl (wpAny_bind (HT.slicePart_ pu (wpAny_bind (wpAny_pure ?_)))))
  show wpAny _ _ (pure ((n : Int) - 1, (-1 : Int), Builtin.Slice.slicePlaces ((n : Int) - 1) (-1) (-1))) _ _ s
  have e : Builtin.Slice.slicePlaces ((n : Int) - 1) (-1) (-1) = n := by
    unfold Builtin.Slice.slicePlaces
    rw [if_neg (by decide), show (- -1 : Int) = 1 by decide, Int.ediv_one]
    split <;> omega
  rw [e]
  exact wpAny_pure h
theorem pick_rev (xs : Array Value) : ((List.range xs.size).filterMap fun (m : Nat) => xs[(((xs.size : Int) - 1) + (m : Int) * (-1)).toNat]?).toArray = xs.toList.reverse.toArray := by
  have e : (fun (m : Nat) => xs[(((xs.size : Int) - 1) + (m : Int) * (-1)).toNat]?) = (fun (k : Nat) => xs[k]?) ∘ fun (k : Nat) => (((xs.size : Int) - 1) + (k : Int) * (-1)).toNat := rfl
  rw [e, ← List.filterMap_map]
  have e2 : (List.range xs.size).map (fun (k : Nat) => (((xs.size : Int) - 1) + (k : Int) * (-1)).toNat) = (List.range xs.size).map fun k => xs.size - 1 - k := by
    apply List.map_congr_left
    intro k hk
    have := List.mem_range.1 hk
    omega
  rw [e2, PySem.W.krv_range, List.filterMap_reverse, PySem.W.krv_all]
end
theorem pe_revA {e : Expr} {te : TE} {k : Nat} {p1 p2 p3 pos : Pos} (he : PE X e te) : PE X (.Subscript e (.Slice none none (some (.UnaryOp .USub (.Constant (.int 1) k p1) p2)) p3) pos) (tUn (rRevA X.K) te) := by
  refine ⟨fun pins s σ H Q I h => ?_⟩
  refine Subscript_ (thn (he.run pins s σ H _ I h) fun v s1 ⟨x, H1, I1, r1, q1⟩ => ?_)
  have hst : PO X (some (.UnaryOp .USub (.Constant (.int 1) k p1) p2)) (tPart (tUn (rU fun i => .int (-i)) (tC (.int 1)))) := po_some (pe_un un_neg pe_int)
  refine wpAny_Slice (thn (po_none.run pins s1 σ H1 (fun o H2 => o = none ∧ H2 = H1) I1 ⟨rfl, rfl⟩) fun vl s2 ⟨l, H2, I2, pl, el, e2⟩ => ?_)
  subst el e2
  refine thn (po_none.run pins s2 σ H2 (fun o H3 => o = none ∧ H3 = H2) I2 ⟨rfl, rfl⟩) fun vu s3 ⟨u, H3, I3, pu, eu, e3⟩ => ?_
  subst eu e3
  refine thn (hst.run pins s3 σ H3 (fun o H4 => o = some (-1) ∧ H4 = H3) I3 ⟨1, rfl, -1, rfl, rfl, rfl⟩) fun vs s4 ⟨o, H4, I4, ps, eo, e4⟩ => ?_
  subst eo e4
  have I5 : Inv X pins σ H4 { s4 with heap := s4.heap.push { cls := .type "slice", data := .fields #[vl, vu, vs] } } := I4.kept (t' := s4.toks) fun b ob q => Heap.get?_push_of_some _ q
  show wpAny (model X.prog X.w) X.A (subscriptTail e (.Slice none none (some (.UnaryOp .USub (.Constant (.int 1) k p1) p2)) p3) v (.ref s4.heap.objs.size)) (EP X pins σ Q) X.xe { s4 with heap := s4.heap.push { cls := .type "slice", data := .fields #[vl, vu, vs] } }
  rcases q1 with ⟨a, xs, rfl, hx, q⟩ | ⟨a, xs, rfl, hx, q⟩ | ⟨z, rfl, hz, q⟩
  · cases r1
    obtain ⟨its, r, ht, hz⟩ := I5.list hx
    have hlen := r.length
    refine tail_any (ops := [.ref a, .ref s4.heap.objs.size]) ht.isList.typeIs (PySem.slot_list_getitem.lookup) ?_ (by with_unfolding_all rfl)
    refine wpAny_getItem_list_slice ht.isList (Heap.IsSliceOf.new _ vl vu vs) pl pu ps (by decide) ?_ (by rw [List.size_toArray]; omega)
    rw [PySem.W.krv_pick]
    refine ⟨.ref _, _, I5.laid (t' := s4.toks) (o := .lst xs.reverse) (fun b ob q => Heap.get?_push_of_some _ q) (Nat.le_refl _) ?_, rfl, q _ (I5.hok.fresh (Nat.le_refl _))⟩
    exact ⟨by rw [List.length_reverse]; exact hz, _, 0, r.reverse, Heap.get?_push_size _ rfl⟩
  · cases r1
    obtain ⟨its, r, ht, hz⟩ := I5.tuple hx
    have hlen : its.toArray.size = xs.length := by rw [List.size_toArray]; exact r.length.symm
    refine tail_any (ops := [.ref a, .ref s4.heap.objs.size]) ht.typeIs (PyProof.Rows.slot_tuple_getitem.lookup) ?_ (by with_unfolding_all rfl)
    have hs : ({ s4 with heap := s4.heap.push { cls := .type "slice", data := .fields #[vl, vu, vs] } } : Shared).heap.IsSliceOf s4.heap.objs.size vl vu vs := Heap.IsSliceOf.new _ vl vu vs
    obtain ⟨os, hos, hcs, hds⟩ := id hs
    have hTs : ({ s4 with heap := s4.heap.push { cls := .type "slice", data := .fields #[vl, vu, vs] } } : Shared).TypeIs (.ref s4.heap.objs.size) "slice" := ⟨os, hos, hcs⟩
    generalize ({ s4 with heap := s4.heap.push { cls := .type "slice", data := .fields #[vl, vu, vs] } } : Shared) = s5 at *
    unfold getItem
    try with_reducible refine wpAny_holding ?_
    first | refine wpAny_bind (wpAny_pure ?_) | skip
    refine wpAny_bind (wpAny_sequenceKey ht.typeIs (by decide) ?_)
    refine wpAny_bind (wpAny_callSpecial?_slot (name := Str.ofString "__getitem__") ht.typeIs PyProof.Rows.slot_tuple_getitem
      (wpAny_call_entry PyProof.Rows.slot_tuple_getitem ht.typeIs PyProof.Rows.entry_tuple_getitem ?_ (PyProof.Rows.args_tuple_getitem _ _)))
    show wpAny _ _ (Builtin.Tuple.tupleItemsOf (.ref a) >>= _) _ _ s5
    refine wpAny_bind (tupleItemsOf_ ht ?_)
    refine wpAny_bind (wpAny_typeOf hTs ?_)
    rw [if_pos (by decide)]
    refine wpAny_bind (sliceApplied_rev hs pl pu ps ?_)
    have hno : ¬ (((its.toArray.size : Int) - 1 == 0 && (-1 : Int) == 1 && its.toArray.size == its.toArray.size) = true) := by
      rw [show ((-1 : Int) == 1) = false by decide, Bool.and_false, Bool.false_and]; exact Bool.false_ne_true
    show wpAny _ _ (if ((its.toArray.size : Int) - 1 == 0 && (-1 : Int) == 1 && its.toArray.size == its.toArray.size) = true then _ else _) _ _ s5
    rw [if_neg hno, pick_rev]
    have fin : EP X pins σ Q (.ref s5.heap.objs.size) { s5 with heap := s5.heap.push { cls := .type "tuple", data := .seq its.toArray.toList.reverse.toArray } } := by
      refine ⟨.ref s5.heap.objs.size, _, I5.laid (t' := s5.toks) (o := .tup xs.reverse) (fun b ob q => Heap.get?_push_of_some _ q) (Nat.le_refl _) ?_, rfl, q _ (I5.hok.fresh (Nat.le_refl _))⟩
      exact ⟨by rw [List.length_reverse]; exact hz, _, r.reverse, IsTup.new _ _⟩
    have htake : its.toArray.toList.reverse.toArray.size ≤ sizeLine := by simp; rw [← r.length]; exact hz
    first
      | exact wpAny_bind (m := Builtin.Tuple.tupleExact _) (wpAny_newObj_type (wpAny_pure ⟨_, rfl, wpAny_pure fin⟩) htake)
      | exact wpAny_bind (m := Builtin.Tuple.tupleExact _) (wpAny_newObj_type (wpAny_bind (wpAny_pure (wpAny_pure ⟨_, rfl, wpAny_pure fin⟩))) htake)
      | exact wpAny_bind (wpAny_bind (m := Builtin.Tuple.tupleExact _) (wpAny_newObj_type (wpAny_pure (wpAny_pure ⟨_, rfl, wpAny_pure fin⟩)) htake))
      | exact wpAny_bind (wpAny_bind (m := Builtin.Tuple.tupleExact _) (wpAny_newObj_type (wpAny_pure ⟨_, rfl, wpAny_pure fin⟩) htake))
  · obtain ⟨t, rfl⟩ := r1
    obtain ⟨l, rfl, el⟩ := IsPart.raw pl
    obtain ⟨u, rfl, eu⟩ := IsPart.raw pu
    obtain ⟨st, rfl, est⟩ := IsPart.raw ps
    refine tail_any (ops := [.str z t, .ref s4.heap.objs.size]) (typeIs_str _ _ _) (F.slot_str_getitem.lookup) ?_ (by with_unfolding_all rfl)
    have hst1 : st.map (·.1) = some (-1) := est
    cases st with
    | none => cases hst1
    | some q =>
    obtain ⟨i, ti⟩ := q
    cases hst1
    have hl0 : l.map (·.1) = none := el
    have hu0 : u.map (·.1) = none := eu
    cases l with
    | some _ => cases hl0
    | none =>
    cases u with
    | some _ => cases hu0
    | none =>
    refine wpAny_getItem_str_slice (l := none) (u := none) (st := some (-1, ti)) ⟨_, Heap.get?_push_size _ rfl, rfl, rfl⟩ rfl ?_
    have ep : slicePicked z none none (some (-1, ti)) = (List.range z.length).map fun k => z.length - 1 - k := PySem.W.krv_sliceRange z.length
    have eq : (((List.range z.length).map fun k => z.length - 1 - k).filterMap (z.cps[·]?)).toArray = z.cps.reverse := by
      rw [PySem.W.krv_range, List.filterMap_reverse]
      have := PySem.W.krv_all z.cps
      rw [show z.cps.size = z.length from rfl] at this
      rw [this]; apply Array.ext'; simp
    unfold sliceMade
    rw [ep, eq, if_neg (by rw [show ((((some ((-1 : Int), ti)).map (·.1)).getD 1) == 1) = false from rfl, Bool.false_and]; exact Bool.false_ne_true)]
    exact ⟨by show z.cps.reverse.size ≤ sizeLine; rw [Array.size_reverse]; exact hz, .str _, H4, I5.tok _, ⟨_, rfl⟩, q⟩
theorem e_rev {a : Expr} {da : Den DV} {k : Nat} {p1 p2 p3 pos : Pos} (ha : RE X W pa a da) : RE X W pa (.Subscript a (.Slice none none (some (.UnaryOp .USub (.Constant (.int 1) k p1) p2)) p3) pos) (dUn revOp da) := (pe_revA ha).impD fun _ _ _ h => un_ok ux_rev h
/-! ### names of the module -/
theorem e_globS {x : Str} {z : Str} {t : Tok} {pos : Pos} (hg : Gl X x) (hm : X.mg x = some (.str z t)) (hd : (x == ("__debug__" : Str)) = false := by decide) : RE X W true (.Name x pos) (dC (.str z)) := (pe_glob (v := .str z) hg hm ⟨_, rfl⟩ hd).impD fun _ _ _ h => const_ok (d := .str z) rfl h
theorem e_globI {x : Str} {z : Int} {t : Tok} {pos : Pos} (hg : Gl X x) (hm : X.mg x = some (.int z t)) (hd : (x == ("__debug__" : Str)) = false := by decide) : RE X W true (.Name x pos) (dC (.int z)) := (pe_glob (v := .int z) hg hm ⟨_, rfl⟩ hd).impD fun _ _ _ h => const_ok (d := .int z) rfl h
/-! ### methods with one argument -/
theorem e_join {o e : Expr} {apos cpos : Pos} {da : Den DV} {das : Den (List DV)} (ho : RE X W pa o da) (ha : RA X W pb [e] das) (hbase : attributeBase o "join" X.env (eval o X.env) = eval o X.env := by rfl) (hline : (apos.endLine == cpos.line) = true := by rfl)
    (hfew : ((backTo cpos (starEach [e] X.env)).all (fun x => !x.1) && (backToKw cpos (keywordEach [] X.env)).all (fun x => x.1.isSome) && decide (([e] : List Expr).length + ([] : List Keyword).length + (if ([] : List Keyword).isEmpty then 0 else 1) < 30)) = true := by rfl)
    (hst : starEach [e] X.env = (false, eval e X.env) :: starEach [] X.env := by rfl) (hplain : (backTo cpos (starEach [] X.env)).any (·.1) = false := by rfl) :
    RE X W (pa && pb) (.Call (.Attribute o "join" apos) [e] [] cpos) (dMeth pb isS joinOp da das) := (pe_bm PySem.F.plainAttrs_str PySem.F.slot_str_join PySem.F.type_str_join mt_join ho ha hbase hfew hline hst hplain).impD fun _ _ _ h => meth_ok ty_S mx_join h
theorem e_zfill {o e : Expr} {apos cpos : Pos} {da : Den DV} {das : Den (List DV)} (ho : RE X W pa o da) (ha : RA X W pb [e] das) (hbase : attributeBase o "zfill" X.env (eval o X.env) = eval o X.env := by rfl) (hline : (apos.endLine == cpos.line) = true := by rfl)
    (hfew : ((backTo cpos (starEach [e] X.env)).all (fun x => !x.1) && (backToKw cpos (keywordEach [] X.env)).all (fun x => x.1.isSome) && decide (([e] : List Expr).length + ([] : List Keyword).length + (if ([] : List Keyword).isEmpty then 0 else 1) < 30)) = true := by rfl)
    (hst : starEach [e] X.env = (false, eval e X.env) :: starEach [] X.env := by rfl) (hplain : (backTo cpos (starEach [] X.env)).any (·.1) = false := by rfl) :
    RE X W (pa && pb) (.Call (.Attribute o "zfill" apos) [e] [] cpos) (dMeth pb isS zfillOp da das) := (pe_bm PySem.F.plainAttrs_str PySem.F.slot_str_zfill PySem.F.type_str_zfill mt_zfill ho ha hbase hfew hline hst hplain).impD fun _ _ _ h => meth_ok ty_S mx_zfill h
theorem e_index {o e : Expr} {apos cpos : Pos} {da : Den DV} {das : Den (List DV)} (hu : X.A.units + 65 < cLine) (ho : RE X W pa o da) (ha : RA X W pb [e] das) (hbase : attributeBase o "index" X.env (eval o X.env) = eval o X.env := by rfl) (hline : (apos.endLine == cpos.line) = true := by rfl)
    (hfew : ((backTo cpos (starEach [e] X.env)).all (fun x => !x.1) && (backToKw cpos (keywordEach [] X.env)).all (fun x => x.1.isSome) && decide (([e] : List Expr).length + ([] : List Keyword).length + (if ([] : List Keyword).isEmpty then 0 else 1) < 30)) = true := by rfl)
    (hst : starEach [e] X.env = (false, eval e X.env) :: starEach [] X.env := by rfl) (hplain : (backTo cpos (starEach [] X.env)).any (·.1) = false := by rfl) :
    RE X W (pa && pb) (.Call (.Attribute o "index" apos) [e] [] cpos) (dMeth pb isL indexOp da das) := (pe_bm PySem.F.plainAttrs_list PySem.F.slot_list_index PySem.F.type_list_index (mt_indexD hu) ho ha hbase hfew hline hst hplain).impD fun _ _ _ h => meth_ok ty_L mx_index h
/-! ### gcd -/
def gcdOp : List D → Option OR
  | [.int a, .int b] => some (.s (.int ((Nat.gcd a.natAbs b.natAbs : Nat) : Int)))
  | _ => none
theorem cx_gcd : CallX K gcdOp rGcd := by
  intro ds o vs R H Q ho hs hv
  unfold gcdOp at ho
  split at ho
  · cases ho
    cases hv with | cons h1 h2 => cases h2 with | cons h3 h4 =>
    cases h4; cases h1; cases h3
    exact ⟨rfl, fun w => ⟨_, _, rfl, w.2⟩⟩
  · cases ho
theorem e_callG {id : String} {r : List V → Hp → VK → Prop} {f : List D → Option OR} {x : Str} {p : Pos} {e : Expr} {es : List Expr} {pos : Pos} {das : Den (List DV)} (hc : CallR X (.builtin id) r) (hx : CallX X.K f r) (hg : Gl X x) (hm : X.mg x = some (.builtin id)) (ha : RA X W pa (e :: es) das) (hdb : (x == ("__debug__" : Str)) = false := by decide)
    (he : starEach (e :: es) X.env = (false, eval e X.env) :: starEach es X.env := by rfl) (hpl : (backTo pos (starEach es X.env)).any (·.1) = false := by rfl) : RE X W pa (.Call (.Name x p) (e :: es) [] pos) (dCall f das) := (pe_callBfun hc hg hm ha hdb he hpl).impD fun _ _ _ h => call_ok hx h
/-! ### texts repeated -/
def mulSOp : D → D → Option OR
  | .int i, .int j => mulOp (.int i) (.int j)
  | .str x, .int n => if 0 ≤ n ∧ n ≤ 1000 ∧ x.length ≤ 1000 then some (.s (.str (Txt.mul x n))) else none
  | _, _ => none
theorem mulOkS {x : Str} {n : Int} (h : 0 ≤ n ∧ n ≤ 1000 ∧ x.length ≤ 1000) : MulOk x n := by
  obtain ⟨h0, h1, h2⟩ := h
  refine ⟨by simp; omega, fun h3 _ h4 => ?_, fun h3 _ => ?_⟩
  · have : (1001 : Int) ≤ (2 ^ 63 - 1) / n := by
      apply Int.le_ediv_of_mul_le (by omega)
      have : 1001 * n ≤ 1001 * 1000 := by omega
      omega
    omega
  · unfold Builtin.Str.tooLong sizeLine
    have : x.length * n.toNat ≤ 1000 * 1000 := Nat.mul_le_mul h2 (by omega)
    simp; omega
def rMulS : R2 := fun x y H Q => rMul x y H Q ∨ ∃ i j, x = .str i ∧ y = .int j ∧ MulOk i j ∧ Q (.str (Txt.mul i j)) H
theorem or_mulS0 : OpR X (binaryOp .Mult) (fun x y H Q => ∃ i j, x = .str i ∧ y = .int j ∧ MulOk i j ∧ Q (.str (Txt.mul i j)) H) := by
  intro pins s σ H x y v u Q I rx ry h
  obtain ⟨i, j, rfl, rfl, hok, q⟩ := h
  obtain ⟨t, rfl⟩ := rx
  obtain ⟨t', rfl⟩ := ry
  exact PySem.SB.mul hok fun t' k => ⟨.str (Txt.mul i j), H, I.tok _, ⟨_, rfl⟩, q⟩
theorem or_mulS : OpR X (binaryOp .Mult) rMulS := or_mul.or or_mulS0
theorem ox_mulS : OpX K mulSOp rMulS := by
  intro d e o v u R H Q ho hs hv hu
  unfold mulSOp at ho
  split at ho
  · have := ox_mul _ _ _ v u R H Q ho hs hv hu
    exact ⟨this.1, fun w => .inl (this.2 w)⟩
  · split at ho
    · rename_i hz
      cases ho; cases hv; cases hu
      exact ⟨rfl, fun w => .inr ⟨_, _, rfl, rfl, mulOkS hz, w.2⟩⟩
    · cases ho
  · cases ho
theorem e_mulS {a b : Expr} {da db : Den DV} {pos : Pos} (ha : RE X W pa a da) (hb : RE X W pb b db) : RE X W (pa && pb) (.BinOp a .Mult b pos) (dBin pb mulSOp da db) := e_bin or_mulS ox_mulS ha hb
/-! ### list of a text -/
def listSOp : List D → Option OR
  | [.lst ds] => some (.l ds)
  | [.tup ds] => some (.l ds)
  | [.str z] => if z.length ≤ sizeLine then some (.l (strItems z)) else none
  | _ => none
def rListS : List V → Hp → VK → Prop := fun xs H Q => ∃ z : Str, xs = [.str z] ∧ z.length ≤ sizeLine ∧ ∀ p, H p = none → Q (.ref p) (upd H p (.lst (z.cps.toList.map fun c => V.str ⟨#[c]⟩)))
theorem cr_listS0 (hc : X.calm = true) : CallR X (.type "list") rListS := by
  intro pins s σ H xs us Q I r h
  obtain ⟨z, rfl, hz, q⟩ := h
  obtain ⟨u, rfl, ru⟩ := vals1 r
  obtain ⟨t, rfl⟩ := ru
  refine call_list_str (I.ok.hd hc) z t (hn := hz) fun h' tk acc' c' hk hS' hacc => ?_
  refine ⟨.ref s.heap.objs.size, _, I.laid (t' := tk) (o := .lst (z.cps.toList.map fun c => V.str ⟨#[c]⟩)) hk (Nat.le_refl _) ?_, rfl, q _ (I.hok.fresh (Nat.le_refl _))⟩
  refine ⟨by rw [List.length_map]; exact hz, acc'.toList, c', ?_, by rw [hS']⟩
  have key : ∀ (l : List Nat) (vs : List Value), vs.length = l.length → (∀ (j : Nat) (v : Value), vs[j]? = some v → ∃ (c : Nat) (u : Tok), l[j]? = some c ∧ v = Value.str ⟨#[c]⟩ u) → Vals (l.map fun c => V.str ⟨#[c]⟩) vs := by
    intro l
    induction l with
    | nil => intro vs hl _; cases vs with
      | nil => exact .nil
      | cons _ _ => cases hl
    | cons c l ih => intro vs hl hv; cases vs with
      | nil => cases hl
      | cons v vs =>
        obtain ⟨c', u, h1, h2⟩ := hv 0 v rfl
        cases h1
        exact .cons ⟨u, h2⟩ (ih vs (by simpa using hl) fun j w hw => hv (j + 1) w hw)
  exact key _ _ (by simpa using hacc.1) fun j v hv => by
    obtain ⟨c, u, h1, h2⟩ := hacc.2 j v (by simpa using hv)
    exact ⟨c, u, by simpa using h1, h2⟩
def rListAS (K : PySem.W.Frag) : List V → Hp → VK → Prop := fun xs H Q => rListA K xs H Q ∨ rListS xs H Q
theorem cr_listS (hc : X.calm = true) : CallR X (.type "list") (rListAS X.K) := call_list_of.or (cr_listS0 hc)
theorem cx_listS : CallX K listSOp (rListAS K) := by
  intro ds o vs R H Q ho hs hv
  unfold listSOp at ho
  split at ho
  · rename_i ds
    have := cx_list [.lst ds] o vs R H Q ho hs hv
    exact ⟨this.1, fun w => .inl (this.2 w)⟩
  · rename_i ds
    have := cx_list [.tup ds] o vs R H Q ho hs hv
    exact ⟨this.1, fun w => .inl (this.2 w)⟩
  · split at ho
    · rename_i hz
      cases ho
      cases hv with | cons h1 h2 =>
      cases h2; cases h1
      refine ⟨rfl, fun w => .inr ⟨_, rfl, hz, fun p hp => w _ p ?_ hp⟩⟩
      have key : ∀ l : List Nat, AtAll K R (l.map fun c => V.str ⟨#[c]⟩) (l.map fun c => D.str ⟨#[c]⟩) := fun l => by
        induction l with
        | nil => exact .nil
        | cons c l ih => exact .cons (At.str _) ih
      exact key _
    · cases ho
  · cases ho
/-! ### range with a step -/
def rangeC (a c : Int) (n : Nat) : List D := (List.range n).map fun i => .int (a + (i : Nat) * c)
theorem rangeC_len {a c : Int} {n : Nat} : (rangeC a c n).length = n := by simp [rangeC]
/-- how many turns; all ends small, the step above 0 -/
def turnsC (i j c : Int) : Option Nat := if -1000000000000 ≤ i ∧ i ≤ 1000000000000 ∧ -1000000000000 ≤ j ∧ j ≤ 1000000000000 ∧ 0 < c ∧ c ≤ 1000000 then some (if i < j then ((j - i - 1) / c + 1).toNat else 0) else none
theorem turns_ok {i j c : Int} {n : Nat} (h : turnsC i j c = some n) : RgC i j c n := by
  unfold turnsC at h
  split at h
  · rename_i hc
    obtain ⟨h1, h2, h3, h4, h5, h6⟩ := hc
    cases h
    have hd : i < j → 0 ≤ (j - i - 1) / c := fun z => Int.ediv_nonneg (by omega) (by omega)
    have hd2 : i < j → (j - i - 1) / c ≤ j - i - 1 := fun z => Int.ediv_le_self _ (by omega)
    have e : Builtin.Range.rangeSize i j c = ((if i < j then ((j - i - 1) / c + 1).toNat else 0 : Nat) : Int) := by
      unfold Builtin.Range.rangeSize
      rw [if_pos (show c > 0 from h5)]
      split
      · have := hd ‹_›; omega
      · rfl
    refine ⟨by omega, by omega, ?_, e⟩
    have hn : ((if i < j then ((j - i - 1) / c + 1).toNat else 0 : Nat) : Int) ≤ 2000000000001 := by
      split
      · have := hd ‹_›; have := hd2 ‹_›; omega
      · omega
    have hn0 : 0 ≤ ((if i < j then ((j - i - 1) / c + 1).toNat else 0 : Nat) : Int) := Int.natCast_nonneg _
    unfold Builtin.Range.small
    rw [e]
    generalize ((if i < j then ((j - i - 1) / c + 1).toNat else 0 : Nat) : Int) = n at hn hn0
    simp only [Builtin.Range.rangeFitsLong, Bool.and_eq_true, Bool.or_eq_true, decide_eq_true_eq, beq_iff_eq, show c > 0 from h5, if_true]
    omega
  · cases h
def rng3Of : List D → Option (List D)
  | [.int i, .int j, .int c] => (turnsC i j c).map fun n => rangeC i c n
  | _ => none
theorem feeds_rangeC {lo c : Int} {n : Nat} : Feeds K (Itc lo c n) R (rangeC lo c n) where
  stop := fun H i s hi => by rw [rangeC_len] at hi; exact hi
  go := fun H i s hi => by rw [rangeC_len] at hi; exact hi
  yld := fun H i x H' s hi y => by
    rw [rangeC_len] at hi
    obtain ⟨e, f⟩ := y
    exact ⟨.int (lo + i * c), by simp [rangeC, List.getElem?_map, List.getElem?_range hi], .inl ⟨e, by rw [f]; exact .int _⟩⟩
def dRange3 (da : Den (List DV)) : Den (List D) := dBind da fun as => dLift (rng3Of (as.map (·.2))) dRet
theorem range3_ok {da : Den (List DV)} {Q : It → Hp → Prop} (h : tI K mg W pa (dRange3 da) σ H Q) : iRng3 (tA K mg W pa da) σ H Q := by
  obtain ⟨ρ, R, F, res, hS, hden, hQ⟩ := h
  refine tG_bind hS hden hQ fun ρ1 a v H1 R1 F1 G1 e st q n s p => ?_
  obtain ⟨ds, e1, e2⟩ := lift_some e
  have qa := q.at st.sub
  unfold rng3Of at e1
  split at e1
  · rename_i i j c ej
    obtain ⟨n, e3, rfl⟩ := Option.map_eq_some_iff.mp e1
    cases e2
    rw [ej] at qa
    cases qa with | cons h1 h2 => cases h2 with | cons h3 h4 => cases h4 with | cons h5 h6 =>
    cases h6; cases h1; cases h3; cases h5
    exact ⟨i, j, c, n, rfl, turns_ok e3, (hQ.step s p).drop.ri st feeds_rangeC⟩
  · cases e1
theorem i_range3 {tg a b c : Expr} {p pos : Pos} {das : Den (List DV)} (hg : Gl X "range") (hm : X.mg "range" = none) (ha : RA X W pa [a, b, c] das) (hs : starEach [a, b, c] X.env = (false, eval a X.env) :: starEach [b, c] X.env := by rfl) (hpl : (backTo pos (starEach [b, c] X.env)).any (·.1) = false := by rfl) :
    RIt X W pa tg (.Call (.Name "range" p) [a, b, c] [] pos) (dRange3 das) := PI.imp (pi_range3 hg hm ha hs hpl) fun _ _ _ h => range3_ok h
/-! ### the place of a text in a text that has it -/
def sindexOp : D → List D → Option OR
  | .str a, [.str b] => (Txt.index0 a b).map fun k => .s (.int (k : Nat))
  | _, _ => none
theorem mx_sindex {σ : L2.St} : MethX K sindexOp (rIndexX W σ) := by
  intro d ds o v vs R H Q ho hs hv hu
  unfold sindexOp at ho
  split at ho
  · obtain ⟨k, e1, rfl⟩ := Option.map_eq_some_iff.mp ho
    cases hv
    cases hu with | cons h1 h2 =>
    cases h2; cases h1
    exact ⟨rfl, fun w => ⟨_, _, rfl, rfl, fun k' e => by rw [e1] at e; cases e; exact w.2, fun e => by rw [e1] at e; cases e⟩⟩
  · cases ho
theorem e_sindex {o e : Expr} {apos cpos : Pos} {da : Den DV} {das : Den (List DV)} (hc : X.calm = true) (tk : Takes X W) (ho : RE X W pa o da) (ha : RA X W pb [e] das) (hbase : attributeBase o "index" X.env (eval o X.env) = eval o X.env := by rfl) (hline : (apos.endLine == cpos.line) = true := by rfl)
    (hfew : ((backTo cpos (starEach [e] X.env)).all (fun x => !x.1) && (backToKw cpos (keywordEach [] X.env)).all (fun x => x.1.isSome) && decide (([e] : List Expr).length + ([] : List Keyword).length + (if ([] : List Keyword).isEmpty then 0 else 1) < 30)) = true := by rfl)
    (hst : starEach [e] X.env = (false, eval e X.env) :: starEach [] X.env := by rfl) (hplain : (backTo cpos (starEach [] X.env)).any (·.1) = false := by rfl) :
    RE X W (pa && pb) (.Call (.Attribute o "index" apos) [e] [] cpos) (dMeth pb isS sindexOp da das) := (pe_bmS PySem.F.plainAttrs_str PySem.F.slot_str_index PySem.F.type_str_index (mt_indexX hc tk) ho ha hbase hfew hline hst hplain).impD fun σ _ _ h => meth_ok (r := rIndexX W σ) ty_S mx_sindex h
end
section
variable {X : Cx} {W : WX}
theorem pe_callS0 {CX : CXT} {k : Nat} {f : Addr} {fd : FuncData} {ps : List Str} {sp : Sp} {E : L2.St → XK} {x : Str} {p pos : Pos} (F : FnOk X.prog X.w X.K X.mg X.base CX k f fd ps sp) (hr : Room k X.A) (hg : Gl X x) (hm : X.mg x = some (.ref f)) (hk : PySem.W.keepIn X.K (.ref f) = true) (hb : L2.Binds X.K fd ps []) (hx : ∀ σ, PassesAt CX X σ (E σ))
    (hdb : (x == ("__debug__" : Str)) = false := by decide) : PE X (.Call (.Name x p) [] [] pos) (tCallS sp E tNil) := by
  refine ⟨fun pins s σ H Q I h => ?_⟩
  refine wpAny_Call_Name_kw (ld_glob I hg hm ?_ hdb)
  exact PySem.W.callWith_K0 I.kIn hk (run_fnS (us := []) F hr hb (hx σ) I .nil h)
theorem e_call0 {k n : Nat} {f : Addr} {fd : FuncData} {ps : List Str} {fden : FDen} {x : Str} {p pos : Pos} (F : FnOk X.prog X.w X.K X.mg X.base (L2.CX X.prog X.w) k f fd ps (SpD X.K X.mg n fden)) (tk : Takes X W) (hr : Room k X.A) (hg : Gl X x) (hm : X.mg x = some (.ref f)) (hk : PySem.W.keepIn X.K (.ref f) = true) (hb : L2.Binds X.K fd ps [])
    (hdb : (x == ("__debug__" : Str)) = false := by decide) : RE X W false (.Call (.Name x p) [] [] pos) (dCallF n fden dAsNil) := (pe_callS0 F hr hg hm hk hb (fun σ => passAt tk σ) hdb).impD fun _ _ _ h => asNil_ok (callF_ok h)
end
/-! what is wanted of these -/
section
variable {Q : Rho → DV → Prop} {X : Rho → Exn → Prop} {ρ : Rho}
theorem uE_meth {pb : Bool} {k : D → Bool} {op : D → List D → Option OR} {da : Den DV} {das : Den (List DV)} : uE (dMeth pb k op da das) Q X ρ = uE da (fun ρ a => k a.2 = true ∧ (isBo a && !pb) = false ∧ uE das (fun ρ as => wO (op a.2 (as.map (·.2))) fun o => (!o.lent && (isBo a || !noBo as)) = false ∧ Q ρ o.val) X ρ) X ρ := by
  simp only [← noBo_eq]
  unfold dMeth; rw [uE_bind]; congr 1; funext ρ a
  rw [uE_ite]; split
  · rename_i h
    rw [Bool.or_eq_true] at h
    rcases h with h | h
    · simp at h; simp [h]
    · simp [h]
  · rename_i h
    rw [Bool.or_eq_true, not_or] at h
    have h1 : k a.2 = true := by simpa using h.1
    rw [eq_true h1, true_and, eq_true (Bool.eq_false_iff.2 h.2), true_and, uE_bind]; congr 1; funext ρ as; rw [uE_lift]; congr 1; funext o
    rw [uE_ite]; split
    · rename_i h; simp [h]
    · rename_i h; rw [eq_true (Bool.eq_false_iff.2 h), true_and]; rfl
@[simp ↓] theorem wE_meth_z {pb : Bool} {k : D → Bool} {op : D → List D → Option OR} {da : Den DV} {das : Den (List DV)} : wE (dMeth pb k op da das) Q X ρ = wE da (Lz (tgz fun ρ a => k a.2 = true ∧ (isBo a && !pb) = false ∧ wE das (Lz (tgz fun ρ as => wO (op a.2 (as.map (·.2))) (Lz (tgz fun o => (!o.lent && (isBo a || !noBo as)) = false ∧ Q ρ o.val)))) X ρ)) X ρ := by
  rewrite [feE]; exact uE_meth
@[simp ↓] theorem wE_range3_z {da : Den (List DV)} {Q : Rho → List D → Prop} : wE (dRange3 da) Q X ρ = wE da (Lz (tgz fun ρ as => wO (rng3Of (as.map (·.2))) (Q ρ))) X ρ := by
  rewrite [feE]; unfold dRange3; rw [uE_bind]; congr 1; funext ρ a; rw [uE_lift]; rfl
@[simp] theorem rev_l {xs : List D} : revOp (.lst xs) = some (.l xs.reverse) := id rfl
@[simp] theorem rev_t {xs : List D} : revOp (.tup xs) = some (.a (.tup xs.reverse)) := id rfl
@[simp] theorem isS_s {z : Str} : isS (.str z) = true := id rfl
@[simp] theorem isL_l {xs : List D} : isL (.lst xs) = true := id rfl
@[simp] theorem listS_l {xs : List D} : listSOp [.lst xs] = some (.l xs) := id rfl
@[simp] theorem listS_t {xs : List D} : listSOp [.tup xs] = some (.l xs) := id rfl
@[simp] theorem listS_s {z : Str} : listSOp [.str z] = if z.length ≤ sizeLine then some (.l (strItems z)) else none := id rfl
@[simp] theorem mulS_ii {i j : Int} : mulSOp (.int i) (.int j) = if mulOk i j = true then some (.s (.int (i * j))) else none := mul_ii
@[simp] theorem mulS_si {z : Str} {n : Int} : mulSOp (.str z) (.int n) = if 0 ≤ n ∧ n ≤ 1000 ∧ z.length ≤ 1000 then some (.s (.str (Txt.mul z n))) else none := id rfl
@[simp] theorem items_s {z : Str} : itemsOf (.str z) = some (strItems z) := id rfl
@[simp] theorem gcd_ii {i j : Int} : gcdOp [.int i, .int j] = some (.s (.int ((Nat.gcd i.natAbs j.natAbs : Nat) : Int))) := id rfl
end
theorem giveAs_valT {a : DV} {as : List Den.Arg} {os : List (Sh × D)} {ρ : Rho} : giveAs (.val a :: as) os ρ = giveAs as os.tail ρ := by
  cases os with
  | nil => cases as with
    | nil => rfl
    | cons b bs => cases b <;> rfl
  | cons o os => rfl
end Den

set_option maxHeartbeats 1000000
namespace Den
open PySem PySem.Spec PyProof.Rows L2
def bp_sameC (den : FDen) : DenS :=
  (sSeq (sIf (dTruth (dCall isiOp (dCons true (dVar 1) (dCons true (dC (.ty "dict")) dNil)))) (sSeq (sIf (dOr (dNot (dTruth (dCall isiOp (dCons true (dVar 0) (dCons true (dC (.ty "dict")) dNil))))) (dTst (dBin true neOp (dCall lenOp (dCons true (dVar 0) dNil)) (dCall lenOp (dCons true (dVar 1) dNil))))) (sRet (dC (.bl false))) sNil) (sRet (dCall allOp (dCons true (dComp [2] .im (dItems (dVarF 1)) (gSet 2) (dRet true) (dAndV (dBin true inOp (dVar 2) (dVar 0)) (dCallF 2 den (dAsC true (dIdx true (dVarF 0) (dVar 2)) (dAsC true (dIdx true (dVarF 1) (dVar 2)) dAsNil))))) dNil)))) sNil) (sSeq (sIf (dOr (dTruth (dCall isiOp (dCons true (dVar 1) (dCons true (dC (.ty "list")) dNil)))) (dTruth (dCall isiOp (dCons true (dVar 1) (dCons true (dC (.ty "tuple")) dNil))))) (sSeq (sIf (dOr (dTst (dBin true neOp (dCall isiOp (dCons true (dVar 1) (dCons true (dC (.ty "list")) dNil))) (dCall isiOp (dCons true (dVar 0) (dCons true (dC (.ty "list")) dNil))))) (dTst (dBin true neOp (dCall isiOp (dCons true (dVar 1) (dCons true (dC (.ty "tuple")) dNil))) (dCall isiOp (dCons true (dVar 0) (dCons true (dC (.ty "tuple")) dNil)))))) (sRet (dC (.bl false))) sNil) (sRet (dAndV (dBin true eqOp (dCall lenOp (dCons true (dVar 0) dNil)) (dCall lenOp (dCons true (dVar 1) dNil))) (dCall allOp (dCons true (dComp [3] .im (dRange (dCons true (dCall lenOp (dCons true (dVar 1) dNil)) dNil)) (gSet 3) (dRet true) (dCallF 2 den (dAsC true (dIdx true (dVarF 0) (dVar 3)) (dAsC true (dIdx true (dVarF 1) (dVar 3)) dAsNil)))) dNil))))) sNil) (sSeq (sIf (dTruth (dCall isiOp (dCons true (dVar 1) (dCons true (dC (.ty "str")) dNil)))) (sRet (dAndV (dCall isiOp (dCons true (dVar 0) (dCons true (dC (.ty "str")) dNil))) (dBin true eqOp (dVar 0) (dVar 1)))) sNil) (sSeq (sIf (dOr (dTst (dBin true isOp (dVar 1) (dC .non))) (dOr (dTst (dBin true isOp (dVar 1) (dC (.bl true)))) (dTst (dBin true isOp (dVar 1) (dC (.bl false)))))) (sRet (dOrV (dAndV (dBin true isOp (dVar 1) (dC .non)) (dBin true isOp (dVar 0) (dC .non))) (dOrV (dAndV (dBin true isOp (dVar 1) (dC (.bl true))) (dBin true isOp (dVar 0) (dC (.bl true)))) (dAndV (dBin true isOp (dVar 1) (dC (.bl false))) (dBin true isOp (dVar 0) (dC (.bl false))))))) sNil) (sRet (dAndV (dCall isiOp (dCons true (dVar 0) (dCons true (dC (.ty "int")) dNil))) (dAndV (dNotV (dCall isiOp (dCons true (dVar 0) (dCons true (dC (.ty "bool")) dNil)))) (dBin true eqOp (dVar 0) (dVar 1)))))))))
def dp_sameC : Nat → FDen
  | 0 => fun _ => none
  | k + 1 => fnDen [] 2 4 (bp_sameC (dp_sameC k))
theorem blsOf_map {ns : List Bool} : blsOf (ns.map D.bl) = some ns := by
  induction ns with
  | nil => rfl
  | cons n ns ih => rw [List.map_cons, blsOf, ih]; rfl
@[simp] theorem any_l {ns : List Bool} : anyOp [.lst (ns.map .bl)] = some (.s (.bl (ns.any id))) := by
  show (blsOf (ns.map .bl)).map _ = _
  rw [blsOf_map]; rfl
@[simp] theorem all_l {ns : List Bool} : allOp [.lst (ns.map .bl)] = some (.s (.bl (ns.all id))) := by
  show (blsOf (ns.map .bl)).map _ = _
  rw [blsOf_map]; rfl
theorem intsOf_map {ns : List Int} : intsOf (ns.map D.int) = some ns := by
  induction ns with
  | nil => rfl
  | cons n ns ih => rw [List.map_cons, intsOf, ih]; rfl
@[simp] theorem sum_l {ns : List Int} : sumOp [.lst (ns.map .int)] = some (.s (.int ns.sum)) := by
  show (intsOf (ns.map .int)).map _ = _
  rw [intsOf_map]; rfl
theorem strsOf_map {ns : List Str} : strsOf (ns.map D.str) = some ns := by
  induction ns with
  | nil => rfl
  | cons n ns ih => rw [List.map_cons, strsOf, ih]; rfl
theorem all_true {n : Nat} : allOp [.lst ((List.range n).map fun _ => D.bl true)] = some (.s (.bl true)) := by
  have : (List.range n).map (fun _ => D.bl true) = ((List.range n).map fun _ => true).map D.bl := by simp [Function.comp_def]
  rw [this, all_l]; simp
@[simp] theorem eq_bb {a b : Bool} : eqOp (.bl a) (.bl b) = some (.s (.bl (a == b))) := by cases a <;> cases b <;> rfl
@[simp] theorem ne_bb {a b : Bool} : neOp (.bl a) (.bl b) = some (.s (.bl (!(a == b)))) := by cases a <;> cases b <;> rfl
variable {Q : DV → List (Sh × D) → Prop} {X : Exn → List (Sh × D) → Prop}
theorem sameC_w : ∀ (k : Nat) (d : D), D.plain k d = true → ∀ (s s' : Sh) {Q : DV → List (Sh × D) → Prop} {X : Exn → List (Sh × D) → Prop}, (∀ s s', Q (.sh .im, .bl true) [(s, d), (s', d)]) → wF (dp_sameC (k + 1)) Q X [(s, d), (s', d)] := by
  intro k
  induction k with
  | zero =>
    intro d hd s s' Q X h
    unfold dp_sameC; rw [wF_fn_z]; unfold bp_sameC
    cases d <;> simp [D.plain] at hd
    · refine seq_skip (by simp [isiOp, tyName, isiB]) ?_
      refine seq_skip (by simp [isiOp, tyName, isiB]) ?_
      refine seq_skip (by simp [isiOp, tyName, isiB]) ?_
      refine seq_take (by simp [isOp, isD]) ?_
      simp [isOp, isD]; exact h _ _
    · rename_i b
      refine seq_skip (by simp [isiOp, tyName, isiB]) ?_
      refine seq_skip (by simp [isiOp, tyName, isiB]) ?_
      refine seq_skip (by simp [isiOp, tyName, isiB]) ?_
      refine seq_take (by cases b <;> simp [isOp, isD]) ?_
      cases b <;> (simp [isOp, isD]; exact h _ _)
    · refine seq_skip (by simp [isiOp, tyName, isiB]) ?_
      refine seq_skip (by simp [isiOp, tyName, isiB]) ?_
      refine seq_skip (by simp [isiOp, tyName, isiB]) ?_
      refine seq_skip (by simp [isOp, isD]) ?_
      simp [isiOp, tyName, isiB]; exact h _ _
    · refine seq_skip (by simp [isiOp, tyName, isiB]) ?_
      refine seq_skip (by simp [isiOp, tyName, isiB]) ?_
      refine seq_take (by simp [isiOp, tyName, isiB]) ?_
      simp [isiOp, tyName, isiB]; exact h _ _
  | succ k ih =>
    intro d hd s s' Q X h
    unfold dp_sameC; rw [wF_fn_z]; unfold bp_sameC
    cases d with
    | non =>
      refine seq_skip (by simp [isiOp, tyName, isiB]) ?_
      refine seq_skip (by simp [isiOp, tyName, isiB]) ?_
      refine seq_skip (by simp [isiOp, tyName, isiB]) ?_
      refine seq_take (by simp [isOp, isD]) ?_
      simp [isOp, isD]; exact h _ _
    | bl b =>
      refine seq_skip (by simp [isiOp, tyName, isiB]) ?_
      refine seq_skip (by simp [isiOp, tyName, isiB]) ?_
      refine seq_skip (by simp [isiOp, tyName, isiB]) ?_
      refine seq_take (by cases b <;> simp [isOp, isD]) ?_
      cases b <;> (simp [isOp, isD]; exact h _ _)
    | int i =>
      refine seq_skip (by simp [isiOp, tyName, isiB]) ?_
      refine seq_skip (by simp [isiOp, tyName, isiB]) ?_
      refine seq_skip (by simp [isiOp, tyName, isiB]) ?_
      refine seq_skip (by simp [isOp, isD]) ?_
      simp [isiOp, tyName, isiB]; exact h _ _
    | str x =>
      refine seq_skip (by simp [isiOp, tyName, isiB]) ?_
      refine seq_skip (by simp [isiOp, tyName, isiB]) ?_
      refine seq_take (by simp [isiOp, tyName, isiB]) ?_
      simp [isiOp, tyName, isiB]; exact h _ _
    | lst xs =>
      simp [D.plain] at hd
      have hl : xs.length ≤ 16777216 := hd.1
      refine seq_skip (by simp [isiOp, tyName, isiB]) ?_
      refine seq_take (by simp [isiOp, tyName, isiB]) ?_
      refine seq_skip (by simp [isiOp, tyName, isiB]) ?_
      simp [ownIm, wipeR]
      refine ⟨rngOk_n (by omega), ?_⟩
      refine wC_inv (I := fun j ρ acc => (∃ s s', ρ = [some (s, .lst xs), some (s', .lst xs), none, none]) ∧ acc = (List.range j).map fun _ => D.bl true) ⟨⟨_, _, rfl⟩, rfl⟩ ?_ ?_
      · intro j d ρ acc hj hI
        obtain ⟨⟨s, s', rfl⟩, rfl⟩ := hI
        obtain ⟨hk, rfl⟩ := rangeD_get hj
        have h2 : xs[j]? = some xs[j] := by simp [hk]
        simp [atI_n h2]
        refine ih _ (plains_mem hd.2 (List.getElem_mem hk)) .im .im fun s s' => ?_
        simp [wipeR, List.range_succ, sizeLine]
        omega
      · intro ρ acc hI
        obtain ⟨⟨s, s', rfl⟩, rfl⟩ := hI
        simp [rangeD_len, all_true, mergeR]
        exact h _ _
    | tup xs =>
      simp [D.plain] at hd
      have hl : xs.length ≤ 16777216 := hd.1
      refine seq_skip (by simp [isiOp, tyName, isiB]) ?_
      refine seq_take (by simp [isiOp, tyName, isiB]) ?_
      refine seq_skip (by simp [isiOp, tyName, isiB]) ?_
      simp [ownIm, wipeR]
      refine ⟨rngOk_n (by omega), ?_⟩
      refine wC_inv (I := fun j ρ acc => (∃ s s', ρ = [some (s, .tup xs), some (s', .tup xs), none, none]) ∧ acc = (List.range j).map fun _ => D.bl true) ⟨⟨_, _, rfl⟩, rfl⟩ ?_ ?_
      · intro j d ρ acc hj hI
        obtain ⟨⟨s, s', rfl⟩, rfl⟩ := hI
        obtain ⟨hk, rfl⟩ := rangeD_get hj
        have h2 : xs[j]? = some xs[j] := by simp [hk]
        simp [atI_n h2]
        refine ih _ (plains_mem hd.2 (List.getElem_mem hk)) .im .im fun s s' => ?_
        simp [wipeR, List.range_succ, sizeLine]
        omega
      · intro ρ acc hI
        obtain ⟨⟨s, s', rfl⟩, rfl⟩ := hI
        simp [rangeD_len, all_true, mergeR]
        exact h _ _
    | _ => simp [D.plain] at hd
def bp_sameA (den : FDen) : DenS :=
  (sSeq (sIf (dTruth (dCall isiOp (dCons true (dVar 0) (dCons true (dC (.ty "dict")) dNil)))) (sSeq (sIf (dOr (dNot (dTruth (dCall isiOp (dCons true (dVar 1) (dCons true (dC (.ty "dict")) dNil))))) (dTst (dBin true neOp (dCall lenOp (dCons true (dVar 0) dNil)) (dCall lenOp (dCons true (dVar 1) dNil))))) (sRet (dC (.bl false))) sNil) (sSeq (sFor (dItems (dVarF 0)) (gSet 2) (sIf (dOr (dTst (dBin true notInOp (dVar 2) (dVar 1))) (dNot (dTruth (dCallF 2 den (dAsC true (dIdx true (dVarF 0) (dVar 2)) (dAsC true (dIdx true (dVarF 1) (dVar 2)) dAsNil)))))) (sRet (dC (.bl false))) sNil)) (sRet (dC (.bl true))))) sNil) (sSeq (sIf (dOr (dTruth (dCall isiOp (dCons true (dVar 0) (dCons true (dC (.ty "list")) dNil)))) (dTruth (dCall isiOp (dCons true (dVar 0) (dCons true (dC (.ty "tuple")) dNil))))) (sSeq (sIf (dOr (dTst (dBin true neOp (dCall isiOp (dCons true (dVar 0) (dCons true (dC (.ty "list")) dNil))) (dCall isiOp (dCons true (dVar 1) (dCons true (dC (.ty "list")) dNil))))) (dTst (dBin true neOp (dCall isiOp (dCons true (dVar 0) (dCons true (dC (.ty "tuple")) dNil))) (dCall isiOp (dCons true (dVar 1) (dCons true (dC (.ty "tuple")) dNil)))))) (sRet (dC (.bl false))) sNil) (sRet (dAndV (dBin true eqOp (dCall lenOp (dCons true (dVar 0) dNil)) (dCall lenOp (dCons true (dVar 1) dNil))) (dCall allOp (dCons true (dComp [3] .im (dRange (dCons true (dCall lenOp (dCons true (dVar 0) dNil)) dNil)) (gSet 3) (dRet true) (dCallF 2 den (dAsC true (dIdx true (dVarF 0) (dVar 3)) (dAsC true (dIdx true (dVarF 1) (dVar 3)) dAsNil)))) dNil))))) sNil) (sSeq (sIf (dOr (dTst (dBin true isOp (dVar 0) (dC .non))) (dTst (dBin true isOp (dVar 1) (dC .non)))) (sRet (dAndV (dBin true isOp (dVar 0) (dC .non)) (dBin true isOp (dVar 1) (dC .non)))) sNil) (sSeq (sIf (dOr (dTruth (dCall isiOp (dCons true (dVar 0) (dCons true (dC (.ty "bool")) dNil)))) (dTruth (dCall isiOp (dCons true (dVar 1) (dCons true (dC (.ty "bool")) dNil))))) (sRet (dAndV (dCall isiOp (dCons true (dVar 0) (dCons true (dC (.ty "bool")) dNil))) (dAndV (dCall isiOp (dCons true (dVar 1) (dCons true (dC (.ty "bool")) dNil))) (dBin true eqOp (dVar 0) (dVar 1))))) sNil) (sSeq (sIf (dTruth (dCall isiOp (dCons true (dVar 0) (dCons true (dC (.ty "str")) dNil)))) (sRet (dAndV (dCall isiOp (dCons true (dVar 1) (dCons true (dC (.ty "str")) dNil))) (dBin true eqOp (dVar 0) (dVar 1)))) sNil) (sRet (dAndV (dCall isiOp (dCons true (dVar 1) (dCons true (dC (.ty "int")) dNil))) (dBin true eqOp (dVar 0) (dVar 1)))))))))
def dp_sameA : Nat → FDen
  | 0 => fun _ => none
  | k + 1 => fnDen [2] 2 4 (bp_sameA (dp_sameA k))
theorem sameA_w : ∀ (k : Nat) (d : D), D.plain k d = true → ∀ (s s' : Sh) {Q : DV → List (Sh × D) → Prop} {X : Exn → List (Sh × D) → Prop}, (∀ s s', Q (.sh .im, .bl true) [(s, d), (s', d)]) → wF (dp_sameA (k + 1)) Q X [(s, d), (s', d)] := by
  intro k
  induction k with
  | zero =>
    intro d hd s s' Q X h
    unfold dp_sameA; rw [wF_fn_z]; unfold bp_sameA
    cases d <;> simp [D.plain] at hd
    · refine seq_skip (by simp [isiOp, tyName, isiB]) ?_
      refine seq_skip (by simp [isiOp, tyName, isiB]) ?_
      refine seq_take (by simp [isOp, isD]) ?_
      simp [isOp, isD]; exact h _ _
    · rename_i b
      refine seq_skip (by simp [isiOp, tyName, isiB]) ?_
      refine seq_skip (by simp [isiOp, tyName, isiB]) ?_
      refine seq_skip (by cases b <;> simp [isOp, isD]) ?_
      refine seq_take (by simp [isiOp, tyName, isiB]) ?_
      cases b <;> (simp [isiOp, tyName, isiB]; exact h _ _)
    · refine seq_skip (by simp [isiOp, tyName, isiB]) ?_
      refine seq_skip (by simp [isiOp, tyName, isiB]) ?_
      refine seq_skip (by simp [isOp, isD]) ?_
      refine seq_skip (by simp [isiOp, tyName, isiB]) ?_
      refine seq_skip (by simp [isiOp, tyName, isiB]) ?_
      simp [isiOp, tyName, isiB]; exact h _ _
    · refine seq_skip (by simp [isiOp, tyName, isiB]) ?_
      refine seq_skip (by simp [isiOp, tyName, isiB]) ?_
      refine seq_skip (by simp [isOp, isD]) ?_
      refine seq_skip (by simp [isiOp, tyName, isiB]) ?_
      refine seq_take (by simp [isiOp, tyName, isiB]) ?_
      simp [isiOp, tyName, isiB]; exact h _ _
  | succ k ih =>
    intro d hd s s' Q X h
    unfold dp_sameA; rw [wF_fn_z]; unfold bp_sameA
    cases d with
    | non =>
      refine seq_skip (by simp [isiOp, tyName, isiB]) ?_
      refine seq_skip (by simp [isiOp, tyName, isiB]) ?_
      refine seq_take (by simp [isOp, isD]) ?_
      simp [isOp, isD]; exact h _ _
    | bl b =>
      refine seq_skip (by simp [isiOp, tyName, isiB]) ?_
      refine seq_skip (by simp [isiOp, tyName, isiB]) ?_
      refine seq_skip (by cases b <;> simp [isOp, isD]) ?_
      refine seq_take (by simp [isiOp, tyName, isiB]) ?_
      cases b <;> (simp [isiOp, tyName, isiB]; exact h _ _)
    | int i =>
      refine seq_skip (by simp [isiOp, tyName, isiB]) ?_
      refine seq_skip (by simp [isiOp, tyName, isiB]) ?_
      refine seq_skip (by simp [isOp, isD]) ?_
      refine seq_skip (by simp [isiOp, tyName, isiB]) ?_
      refine seq_skip (by simp [isiOp, tyName, isiB]) ?_
      simp [isiOp, tyName, isiB]; exact h _ _
    | str x =>
      refine seq_skip (by simp [isiOp, tyName, isiB]) ?_
      refine seq_skip (by simp [isiOp, tyName, isiB]) ?_
      refine seq_skip (by simp [isOp, isD]) ?_
      refine seq_skip (by simp [isiOp, tyName, isiB]) ?_
      refine seq_take (by simp [isiOp, tyName, isiB]) ?_
      simp [isiOp, tyName, isiB]; exact h _ _
    | lst xs =>
      simp [D.plain] at hd
      have hl : xs.length ≤ 16777216 := hd.1
      refine seq_skip (by simp [isiOp, tyName, isiB]) ?_
      refine seq_take (by simp [isiOp, tyName, isiB]) ?_
      refine seq_skip (by simp [isiOp, tyName, isiB]) ?_
      simp [ownIm, wipeR]
      refine ⟨rngOk_n (by omega), ?_⟩
      refine wC_inv (I := fun j ρ acc => (∃ s s', ρ = [some (s, .lst xs), some (s', .lst xs), none, none]) ∧ acc = (List.range j).map fun _ => D.bl true) ⟨⟨_, _, rfl⟩, rfl⟩ ?_ ?_
      · intro j d ρ acc hj hI
        obtain ⟨⟨s, s', rfl⟩, rfl⟩ := hI
        obtain ⟨hk, rfl⟩ := rangeD_get hj
        have h2 : xs[j]? = some xs[j] := by simp [hk]
        simp [atI_n h2]
        refine ih _ (plains_mem hd.2 (List.getElem_mem hk)) .im .im fun s s' => ?_
        simp [wipeR, List.range_succ, sizeLine]
        omega
      · intro ρ acc hI
        obtain ⟨⟨s, s', rfl⟩, rfl⟩ := hI
        simp [rangeD_len, all_true, mergeR]
        exact h _ _
    | tup xs =>
      simp [D.plain] at hd
      have hl : xs.length ≤ 16777216 := hd.1
      refine seq_skip (by simp [isiOp, tyName, isiB]) ?_
      refine seq_take (by simp [isiOp, tyName, isiB]) ?_
      refine seq_skip (by simp [isiOp, tyName, isiB]) ?_
      simp [ownIm, wipeR]
      refine ⟨rngOk_n (by omega), ?_⟩
      refine wC_inv (I := fun j ρ acc => (∃ s s', ρ = [some (s, .tup xs), some (s', .tup xs), none, none]) ∧ acc = (List.range j).map fun _ => D.bl true) ⟨⟨_, _, rfl⟩, rfl⟩ ?_ ?_
      · intro j d ρ acc hj hI
        obtain ⟨⟨s, s', rfl⟩, rfl⟩ := hI
        obtain ⟨hk, rfl⟩ := rangeD_get hj
        have h2 : xs[j]? = some xs[j] := by simp [hk]
        simp [atI_n h2]
        refine ih _ (plains_mem hd.2 (List.getElem_mem hk)) .im .im fun s s' => ?_
        simp [wipeR, List.range_succ, sizeLine]
        omega
      · intro ρ acc hI
        obtain ⟨⟨s, s', rfl⟩, rfl⟩ := hI
        simp [rangeD_len, all_true, mergeR]
        exact h _ _
    | _ => simp [D.plain] at hd
end Den

namespace Den
open PySem PySem.Spec PyProof.Rows L2
section
variable {Q : Rho → DV → Prop} {X : Rho → Exn → Prop} {ρ : Rho}
theorem uE_chain {op op' : D → D → Option OR} {da db dc : Den DV} : uE (dChain op op' da db dc) Q X ρ = uE da (fun ρ a => a.2.scal = true ∧ uE db (fun ρ b => b.2.scal = true ∧ wO (boolOf (op a.2 b.2)) fun k => if k = true then uE dc (fun ρ c => c.2.scal = true ∧ wO (boolOf (op' b.2 c.2)) fun k => Q ρ (.sh .im, .bl k)) X ρ else Q ρ (.sh .im, .bl false)) X ρ) X ρ := by
  unfold dChain; rw [uE_bind]; congr 1; funext ρ a
  rw [uE_ite]; split
  · rename_i h; rw [eq_true h, true_and, uE_bind]; congr 1; funext ρ b
    rw [uE_ite]; split
    · rename_i h; rw [eq_true h, true_and, uE_lift]; congr 1; funext k
      rw [uE_ite]; split
      · rw [uE_bind]; congr 1; funext ρ c
        rw [uE_ite]; split
        · rename_i h; rw [eq_true h, true_and, uE_lift]; rfl
        · rename_i h; rw [eq_false h, false_and]; rfl
      · rfl
    · rename_i h; rw [eq_false h, false_and]; rfl
  · rename_i h; rw [eq_false h, false_and]; rfl
@[simp ↓] theorem wE_chain_z {op op' : D → D → Option OR} {da db dc : Den DV} : wE (dChain op op' da db dc) Q X ρ = wE da (Lz (tgz fun ρ a => a.2.scal = true ∧ wE db (Lz (tgz fun ρ b => b.2.scal = true ∧ wO (boolOf (op a.2 b.2)) (Lz (tgz fun k => if k = true then wE dc (Lz (tgz fun ρ c => c.2.scal = true ∧ wO (boolOf (op' b.2 c.2)) (Lz (tgz fun k => Q ρ (.sh .im, .bl k))))) X ρ else Q ρ (.sh .im, .bl false))))) X ρ)) X ρ := by
  rewrite [feE]; exact uE_chain
end
@[simp] theorem boolOf_bl {k : Bool} : boolOf (some (.s (.bl k))) = some k := id rfl
@[simp] theorem scal_int {i : Int} : D.scal (.int i) = true := id rfl
@[simp] theorem scal_str {i : Str} : D.scal (.str i) = true := id rfl
@[simp] theorem max_ii {i j : Int} : maxOp [.int i, .int j] = some (.s (.int (max i j))) := id rfl
@[simp] theorem min_ii {i j : Int} : minOp [.int i, .int j] = some (.s (.int (min i j))) := id rfl
@[simp] theorem truth_t {xs : List D} : truthD (.tup xs) = some (!xs.isEmpty) := id rfl
@[simp] theorem truth_l {xs : List D} : truthD (.lst xs) = some (!xs.isEmpty) := id rfl
/-- a function of the numbers of a range -/
def ofI (g : Nat → D) : D → D
  | .int i => g i.toNat
  | _ => .non
@[simp] theorem ofI_n {g : Nat → D} {n : Nat} : ofI g (.int (n : Nat)) = g n := id rfl
theorem range_ofI {g : Nat → D} {s n : Nat} : (rangeD (s : Nat) n).map (ofI g) = (List.range n).map fun i => g (s + i) := by
  unfold rangeD
  rw [List.map_map]
  apply List.map_congr_left
  intro i _
  show g ((s : Int) + (i : Int)).toNat = _
  congr 1
theorem range_ofI0 {g : Nat → D} {n : Nat} : (rangeD 0 n).map (ofI g) = (List.range n).map g := by
  have := range_ofI (g := g) (s := 0) (n := n)
  rw [show ((0 : Nat) : Int) = 0 from rfl] at this
  rw [this]; simp
theorem mem_rangeD {s n : Nat} {d : D} (h : d ∈ rangeD (s : Nat) n) : ∃ j, s ≤ j ∧ j < s + n ∧ d = .int (j : Nat) := by
  unfold rangeD at h
  obtain ⟨j, hj, rfl⟩ := List.mem_map.1 h
  have := List.mem_range.1 hj
  exact ⟨s + j, by omega, by omega, rfl⟩
theorem mem_rangeD0 {n : Nat} {d : D} (h : d ∈ rangeD 0 n) : ∃ j, j < n ∧ d = .int (j : Nat) := by
  obtain ⟨j, _, h2, h3⟩ := mem_rangeD (s := 0) h
  exact ⟨j, by omega, h3⟩
theorem sIx_n {n k : Nat} : HT.sIx n n (some (k : Int)) = min k n := by simp [HT.sIx]; omega
theorem sIx_0 {n k : Nat} : HT.sIx n 0 (some (k : Int)) = min k n := by simp [HT.sIx]; omega
theorem cut_from {α : Type} {xs : List α} {k : Nat} : Den.cutD xs (some (k : Int)) none = xs.drop k := by
  unfold Den.cutD
  rw [sIx_0]
  have : HT.sIx xs.length xs.length none = xs.length := rfl
  rw [this]
  by_cases h : k ≤ xs.length
  · rw [Nat.min_eq_left h, List.take_of_length_le (by simp)]
  · rw [Nat.min_eq_right (by omega), List.drop_of_length_le (Nat.le_refl _), List.drop_of_length_le (by omega)]; simp
theorem cut_to {α : Type} {xs : List α} {k : Nat} : Den.cutD xs none (some (k : Int)) = xs.take k := by
  unfold Den.cutD
  rw [sIx_n]
  have : HT.sIx xs.length 0 none = 0 := rfl
  rw [this, List.drop_zero, Nat.sub_zero]
  by_cases h : k ≤ xs.length
  · rw [Nat.min_eq_left h]
  · rw [Nat.min_eq_right (by omega), List.take_of_length_le (Nat.le_refl _), List.take_of_length_le (by omega)]
theorem cut_mid {α : Type} {xs : List α} {j k : Nat} : Den.cutD xs (some (j : Int)) (some (k : Int)) = (xs.take k).drop j := by
  unfold Den.cutD
  rw [sIx_n, sIx_0, List.drop_take]
  by_cases h : j ≤ xs.length
  · rw [Nat.min_eq_left h]
    by_cases h2 : k ≤ xs.length
    · rw [Nat.min_eq_left h2]
    · rw [Nat.min_eq_right (Nat.le_of_not_le h2), List.take_of_length_le (by simp), List.take_of_length_le (by simp; omega)]
  · rw [Nat.min_eq_right (Nat.le_of_not_le h), List.drop_of_length_le (Nat.le_refl _), List.drop_of_length_le (Nat.le_of_not_le h)]; simp
@[simp] theorem slice_l {xs : List D} {lo hi : Option Int} : sliceOp (.lst xs) lo hi = some (.l (Den.cutD xs lo hi)) := id rfl
@[simp] theorem slice_t {xs : List D} {lo hi : Option Int} : sliceOp (.tup xs) lo hi = some (.a (.tup (Den.cutD xs lo hi))) := id rfl
theorem cut_map {α β : Type} {f : α → β} {xs : List α} {lo hi : Option Int} : Den.cutD (xs.map f) lo hi = (Den.cutD xs lo hi).map f := by
  simp [Den.cutD, List.map_drop, List.map_take]
end Den

/-! texts by their codes -/
namespace Den
open PySem PySem.Spec PyProof.Rows L2
def S (l : List Nat) : Str := ⟨l.toArray⟩
@[simp] theorem S_len {a : List Nat} : (S a).length = a.length := by show a.toArray.size = _; simp
theorem S_inj {a b : List Nat} : S a = S b ↔ a = b := ⟨fun h => by have := congrArg (fun s => s.cps.toList) h; simpa [S] using this, fun h => by rw [h]⟩
@[simp] theorem S_beq {a b : List Nat} : (S a == S b) = decide (a = b) := by
  rw [Bool.eq_iff_iff, beq_iff_eq, decide_eq_true_eq, S_inj]
@[simp] theorem S_app {a b : List Nat} : S a ++ S b = S (a ++ b) := by
  show Str.append _ _ = _
  unfold Str.append S; simp
theorem S_of (z : Str) : z = S z.cps.toList := by cases z; simp [S]
@[simp] theorem add_S {a b : List Nat} : addOp (.str (S a)) (.str (S b)) = if a.length + b.length ≤ sizeLine then some (.s (.str (S (a ++ b)))) else none := by
  rw [add_ss, S_len, S_len, S_app]
@[simp] theorem len_S {a : List Nat} : lenOp [.str (S a)] = if a.length ≤ sizeLine then some (.s (.int a.length)) else none := by
  rw [len_s, S_len]
@[simp] theorem slice_S {a : List Nat} {lo hi : Option Int} : sliceOp (.str (S a)) lo hi = if a.length ≤ sizeLine then some (.s (.str (S (Den.cutD a lo hi)))) else none := by
  show (if (S a).length ≤ sizeLine then some (OR.s (.str (cutS (S a) lo hi))) else none) = _
  rw [S_len]
  have : cutS (S a) lo hi = S (Den.cutD a lo hi) := by
    unfold cutS Den.cutD S
    simp only [List.toList_toArray]
    rfl
  rw [this]
@[simp] theorem idx_S {a : List Nat} {i : Int} : idxD (.str (S a)) (.int i) = if a.length ≤ sizeLine then (atI a i).map fun c => .str (S [c]) else none := by
  show (if (S a).length ≤ sizeLine then (atI (S a).cps.toList i).map fun c => D.str ⟨#[c]⟩ else none) = _
  rw [S_len]; simp [S]
@[simp] theorem eq_S {a b : List Nat} : eqOp (.str (S a)) (.str (S b)) = some (.s (.bl (decide (a = b)))) := by rw [eq_ss, S_beq]
@[simp] theorem ne_S {a b : List Nat} : neOp (.str (S a)) (.str (S b)) = some (.s (.bl (!decide (a = b)))) := by rw [ne_ss, S_beq]
@[simp] theorem strItems_S {a : List Nat} : strItems (S a) = a.map fun c => D.str (S [c]) := by unfold strItems S; simp
@[simp] theorem items_S {a : List Nat} : itemsOf (.str (S a)) = some (a.map fun c => .str (S [c])) := by rw [items_s]; unfold strItems S; simp
@[simp] theorem rev_S {a : List Nat} : revOp (.str (S a)) = if a.length ≤ sizeLine then some (.s (.str (S a.reverse))) else none := by
  show (if (S a).length ≤ sizeLine then some (OR.s (.str ⟨(S a).cps.reverse⟩)) else none) = _
  rw [S_len]
  have : (⟨(S a).cps.reverse⟩ : Str) = S a.reverse := by unfold S; simp
  rw [this]
@[simp] theorem in_S {c : Nat} {a : List Nat} : inOp (.str (S [c])) (.str (S a)) = some (.s (.bl (decide (c ∈ a)))) := by
  show some (OR.s (.bl (strIn (S [c]) (S a)))) = _
  unfold strIn S; simp
@[simp] theorem listS_S {a : List Nat} : listSOp [.str (S a)] = if a.length ≤ sizeLine then some (.l (a.map fun c => .str (S [c]))) else none := by
  rw [listS_s, S_len]; unfold strItems S; simp
@[simp] theorem isS_S {a : List Nat} : isS (.str (S a)) = true := id rfl
theorem strsOf_S {ls : List (List Nat)} : strsOf (ls.map fun l => D.str (S l)) = some (ls.map S) := by
  have := strsOf_map (ns := ls.map S)
  rw [List.map_map] at this; exact this
/-- what join puts together -/
def glueL (sep : List Nat) : List (List Nat) → List Nat
  | [] => []
  | x :: ls => x ++ (ls.map fun l => sep ++ l).flatten
theorem glue_fold {sep : List Nat} : ∀ (ls : List (List Nat)) (A : Array Nat), (ls.map S).foldl (fun acc p => acc ++ (S sep).cps ++ p.cps) A = (A.toList ++ (ls.map fun l => sep ++ l).flatten).toArray
  | [], A => by simp
  | l :: ls, A => by
    rw [List.map_cons, List.foldl_cons, glue_fold ls]
    simp [S]
theorem join_S {sep : List Nat} {ls : List (List Nat)} : Txt.join (S sep) (ls.map S) = S (glueL sep ls) := by
  show Builtin.Str.glued _ _ = _
  unfold Builtin.Str.glued
  cases ls with
  | nil => rfl
  | cons x ls =>
    simp only [List.map_cons, List.drop_succ_cons, List.drop_zero, List.headD_cons]
    rw [glue_fold]
    simp [S, glueL]
theorem glue0 : ∀ {ls : List (List Nat)}, glueL [] ls = ls.flatten
  | [] => rfl
  | x :: ls => by simp [glueL]
@[simp] theorem joinOp_S {sep : List Nat} {ls : List (List Nat)} : joinOp (.str (S sep)) [.lst (ls.map fun l => D.str (S l))] = if ((ls.map List.length).sum + ls.length * sep.length ≤ 16777216) then some (.s (.str (S (glueL sep ls)))) else none := by
  simp only [joinOp]
  rw [strsOf_S]
  simp only [join_S, S_len, List.length_map, List.map_map]
  have : (List.map ((fun x => x.length) ∘ S) ls) = ls.map List.length := by
    apply List.map_congr_left; intro l _; exact S_len
  rw [this]
def natsD (os : List Nat) : List D := os.map fun k => .int (k : Nat)
theorem shps_nats {k : Nat} : ∀ os : List Nat, D.shps k (natsD os) = true
  | [] => by cases k <;> rfl
  | n :: os => by show (D.shp k (.int n) && D.shps k (natsD os)) = true; rw [shps_nats os]; cases k <;> rfl
theorem beqs_nats : ∀ {os ns : List Nat}, D.beqs (natsD os) (natsD ns) = decide (os = ns)
  | [], [] => by simp [natsD, D.beqs]
  | [], _ :: _ => by simp [natsD, D.beqs]
  | _ :: _, [] => by simp [natsD, D.beqs]
  | t :: ts, u :: us => by
    show (D.beq (.int t) (.int u) && D.beqs (natsD ts) (natsD us)) = _
    rw [beqs_nats]
    have : D.beq (.int t) (.int u) = decide (t = u) := by
      show ((t : Int) == (u : Int)) = _
      rw [Bool.eq_iff_iff]; simp; omega
    rw [this]; simp
@[simp] theorem eq_nats {os ns : List Nat} : eqOp (.lst (natsD os)) (.lst (natsD ns)) = some (.s (.bl (decide (os = ns)))) := by
  unfold eqOp eqOk
  rw [show D.shp 60 (.lst (natsD os)) = true from shps_nats (k := 59) os, show D.shp 60 (.lst (natsD ns)) = true from shps_nats (k := 59) ns, show D.beq (.lst (natsD os)) (.lst (natsD ns)) = decide (os = ns) from beqs_nats]
  simp
@[simp] theorem eq_nats0 {os : List Nat} : eqOp (.lst (natsD os)) (.lst []) = some (.s (.bl (decide (os = [])))) := eq_nats (ns := [])
@[simp] theorem natsD_len {os : List Nat} : (natsD os).length = os.length := by simp [natsD]
theorem natsD_app {os ns : List Nat} : natsD (os ++ ns) = natsD os ++ natsD ns := by simp [natsD]
theorem mem_nats {os : List Nat} {d : D} (h : d ∈ natsD os) : ∃ k ∈ os, d = .int (k : Nat) := by
  obtain ⟨k, hk, rfl⟩ := List.mem_map.1 h; exact ⟨k, hk, rfl⟩
theorem all_const {α : Type} {xs : List α} : allOp [.lst (xs.map fun _ => D.bl true)] = some (.s (.bl true)) := by
  have : (xs.map fun _ => D.bl true) = (xs.map fun _ => true).map D.bl := by simp [Function.comp_def]
  rw [this, all_l]; simp
end Den

set_option maxHeartbeats 4000000
namespace Lk76
open PySem PySem.Spec PyProof.Rows L2 Den
def topS (i : Nat) : Stmt := PySem.Challenge.pw_whyform_k76_whole_least_ragged_settings.main.body.getD i (.Pass ⟨0, 0, 0, 0⟩)
abbrev s_length_of : Stmt := topS 1
abbrev s_left_over : Stmt := topS 2
abbrev s_ragged : Stmt := topS 3
abbrev s_best_begins : Stmt := topS 4
abbrev s_least_ragged : Stmt := topS 5
abbrev s_written : Stmt := topS 7
abbrev s_judge_setting : Stmt := topS 10
abbrev s__law_mixed : Stmt := topS 12
abbrev s__law_rest : Stmt := topS 13
abbrev s__law_pool : Stmt := topS 14
abbrev s__law_next : Stmt := topS 15
abbrev s__law_draw : Stmt := topS 16
abbrev s__law_pick : Stmt := topS 17
abbrev s__law_same : Stmt := topS 18
abbrev s__law_length : Stmt := topS 20
abbrev s__law_ragged : Stmt := topS 21
abbrev s__law_settings : Stmt := topS 22
abbrev s__law_is_int : Stmt := topS 19
abbrev s__law_potentials_right : Stmt := topS 23
abbrev s_filled : Stmt := topS 6
abbrev s__law_filled_right : Stmt := topS 24
abbrev s_in_lines : Stmt := topS 8
abbrev s__law_in_lines_right : Stmt := topS 25
abbrev s_law : Stmt := topS 26
theorem sc_length_of : FnScope ["words", "word"] ["words"] (defScope s_length_of) := ⟨rfl, rfl, rfl, by decide +kernel, rfl, by decide +kernel, by decide +kernel⟩
theorem sc_left_over : FnScope ["words", "width", "begin", "end", "length"] ["words", "width", "begin", "end"] (defScope s_left_over) := ⟨rfl, rfl, rfl, by decide +kernel, rfl, by decide +kernel, by decide +kernel⟩
theorem sc_ragged : FnScope ["words", "width", "setting", "total", "begin", "count", "over"] ["words", "width", "setting"] (defScope s_ragged) := ⟨rfl, rfl, rfl, by decide +kernel, rfl, by decide +kernel, by decide +kernel⟩
theorem sc_best_begins : FnScope ["words", "width", "best", "end", "found", "begin", "over"] ["words", "width", "best", "end"] (defScope s_best_begins) := ⟨rfl, rfl, rfl, by decide +kernel, rfl, by decide +kernel, by decide +kernel⟩
theorem sc_least_ragged : FnScope ["words", "width", "best", "begins", "end", "setting", "number", "begin"] ["words", "width"] (defScope s_least_ragged) := ⟨rfl, rfl, rfl, by decide +kernel, rfl, by decide +kernel, by decide +kernel⟩
theorem sc_written : FnScope ["words", "setting", "found", "begin", "count"] ["words", "setting"] (defScope s_written) := ⟨rfl, rfl, rfl, by decide +kernel, rfl, by decide +kernel, by decide +kernel⟩
theorem sc_judge_setting : FnScope ["words", "width", "setting", "number", "potentials", "begin", "end", "over"] ["words", "width", "setting", "number", "potentials"] (defScope s_judge_setting) := ⟨rfl, rfl, rfl, by decide +kernel, rfl, by decide +kernel, by decide +kernel⟩
theorem sc__law_mixed : FnScope ["number", "place", "first", "second", "third"] ["number", "place"] (defScope s__law_mixed) := ⟨rfl, rfl, rfl, by decide +kernel, rfl, by decide +kernel, by decide +kernel⟩
theorem sc__law_rest : FnScope ["script", "place", "fills", "number"] ["script", "place", "fills"] (defScope s__law_rest) := ⟨rfl, rfl, rfl, by decide +kernel, rfl, by decide +kernel, by decide +kernel⟩
theorem sc__law_pool : FnScope ["script"] ["script"] (defScope s__law_pool) := ⟨rfl, rfl, rfl, by decide +kernel, rfl, by decide +kernel, by decide +kernel⟩
theorem sc__law_next : FnScope ["pool"] ["pool"] (defScope s__law_next) := ⟨rfl, rfl, rfl, by decide +kernel, rfl, by decide +kernel, by decide +kernel⟩
theorem sc__law_draw : FnScope ["pool", "limit", "value"] ["pool", "limit"] (defScope s__law_draw) := ⟨rfl, rfl, rfl, by decide +kernel, rfl, by decide +kernel, by decide +kernel⟩
theorem sc__law_pick : FnScope ["pool", "options"] ["pool", "options"] (defScope s__law_pick) := ⟨rfl, rfl, rfl, by decide +kernel, rfl, by decide +kernel, by decide +kernel⟩
theorem sc__law_same : FnScope ["answer", "due", "key", "k"] ["answer", "due"] (defScope s__law_same) := ⟨rfl, rfl, rfl, by decide +kernel, rfl, by decide +kernel, by decide +kernel⟩
theorem sc__law_length : FnScope ["words"] ["words"] (defScope s__law_length) := ⟨rfl, rfl, rfl, by decide +kernel, rfl, by decide +kernel, by decide +kernel⟩
theorem sc__law_ragged : FnScope ["words", "width", "setting", "total", "at", "k", "length"] ["words", "width", "setting"] (defScope s__law_ragged) := ⟨rfl, rfl, rfl, by decide +kernel, rfl, by decide +kernel, by decide +kernel⟩
theorem sc__law_settings : FnScope ["words", "width", "found", "count", "rest"] ["words", "width"] (defScope s__law_settings) := ⟨rfl, rfl, rfl, by decide +kernel, rfl, by decide +kernel, by decide +kernel⟩
theorem sc__law_is_int : FnScope ["value"] ["value"] (defScope s__law_is_int) := ⟨rfl, rfl, rfl, by decide +kernel, rfl, by decide +kernel, by decide +kernel⟩
theorem sc__law_potentials_right : FnScope ["words", "width", "number", "potentials", "low", "high", "length", "over", "one"] ["words", "width", "number", "potentials"] (defScope s__law_potentials_right) := ⟨rfl, rfl, rfl, by decide +kernel, rfl, by decide +kernel, by decide +kernel⟩
theorem sc_filled : FnScope ["words", "width", "setting", "begin", "end"] ["words", "width"] (defScope s_filled) := ⟨rfl, rfl, rfl, by decide +kernel, rfl, by decide +kernel, by decide +kernel⟩
theorem sc__law_filled_right : FnScope ["words", "width", "settings", "told", "at", "count", "setting", "k"] ["words", "width", "settings"] (defScope s__law_filled_right) := ⟨rfl, rfl, rfl, by decide +kernel, rfl, by decide +kernel, by decide +kernel⟩
theorem sc_in_lines : FnScope ["words", "width", "count", "best", "layers", "_", "setting", "end", "found", "word", "told"] ["words", "width", "count"] (defScope s_in_lines) := ⟨rfl, rfl, rfl, by decide +kernel, rfl, by decide +kernel, by decide +kernel⟩
theorem sc__law_in_lines_right : FnScope ["words", "width", "settings", "count", "told", "due", "setting"] ["words", "width", "settings"] (defScope s__law_in_lines_right) := ⟨rfl, rfl, rfl, by decide +kernel, rfl, by decide +kernel, by decide +kernel⟩
theorem sc_law : FnScope ["script", "pool", "words", "k", "longest", "width", "handed", "told", "at", "lines", "count", "turn", "settings", "setting", "word"] ["script"] (defScope s_law) := ⟨rfl, rfl, rfl, by decide +kernel, rfl, by decide +kernel, by decide +kernel⟩
structure Txt (K : PySem.W.Frag) (mg : Str → Option Value) where
  a_length_of : Addr
  fd_length_of : FuncData
  F_length_of : L2.Fun K "length_of" "length_of" s_length_of a_length_of fd_length_of
  m_length_of : mg "length_of" = some (.ref a_length_of)
  b_length_of : L2.Binds K fd_length_of ["words"] []
  a_left_over : Addr
  fd_left_over : FuncData
  F_left_over : L2.Fun K "left_over" "left_over" s_left_over a_left_over fd_left_over
  m_left_over : mg "left_over" = some (.ref a_left_over)
  b_left_over : L2.Binds K fd_left_over ["words", "width", "begin", "end"] []
  a_ragged : Addr
  fd_ragged : FuncData
  F_ragged : L2.Fun K "ragged" "ragged" s_ragged a_ragged fd_ragged
  m_ragged : mg "ragged" = some (.ref a_ragged)
  b_ragged : L2.Binds K fd_ragged ["words", "width", "setting"] []
  a_best_begins : Addr
  fd_best_begins : FuncData
  F_best_begins : L2.Fun K "best_begins" "best_begins" s_best_begins a_best_begins fd_best_begins
  m_best_begins : mg "best_begins" = some (.ref a_best_begins)
  b_best_begins : L2.Binds K fd_best_begins ["words", "width", "best", "end"] []
  a_least_ragged : Addr
  fd_least_ragged : FuncData
  F_least_ragged : L2.Fun K "least_ragged" "least_ragged" s_least_ragged a_least_ragged fd_least_ragged
  m_least_ragged : mg "least_ragged" = some (.ref a_least_ragged)
  b_least_ragged : L2.Binds K fd_least_ragged ["words", "width"] []
  a_written : Addr
  fd_written : FuncData
  F_written : L2.Fun K "written" "written" s_written a_written fd_written
  m_written : mg "written" = some (.ref a_written)
  b_written : L2.Binds K fd_written ["words", "setting"] []
  a_judge_setting : Addr
  fd_judge_setting : FuncData
  F_judge_setting : L2.Fun K "judge_setting" "judge_setting" s_judge_setting a_judge_setting fd_judge_setting
  m_judge_setting : mg "judge_setting" = some (.ref a_judge_setting)
  b_judge_setting : L2.Binds K fd_judge_setting ["words", "width", "setting", "number", "potentials"] []
  a__law_mixed : Addr
  fd__law_mixed : FuncData
  F__law_mixed : L2.Fun K "_law_mixed" "_law_mixed" s__law_mixed a__law_mixed fd__law_mixed
  m__law_mixed : mg "_law_mixed" = some (.ref a__law_mixed)
  b__law_mixed : L2.Binds K fd__law_mixed ["number", "place"] []
  a__law_rest : Addr
  fd__law_rest : FuncData
  F__law_rest : L2.Fun K "_law_rest" "_law_rest" s__law_rest a__law_rest fd__law_rest
  m__law_rest : mg "_law_rest" = some (.ref a__law_rest)
  b__law_rest : L2.Binds K fd__law_rest ["script", "place", "fills"] []
  a__law_pool : Addr
  fd__law_pool : FuncData
  F__law_pool : L2.Fun K "_law_pool" "_law_pool" s__law_pool a__law_pool fd__law_pool
  m__law_pool : mg "_law_pool" = some (.ref a__law_pool)
  b__law_pool : L2.Binds K fd__law_pool ["script"] []
  a__law_next : Addr
  fd__law_next : FuncData
  F__law_next : L2.Fun K "_law_next" "_law_next" s__law_next a__law_next fd__law_next
  m__law_next : mg "_law_next" = some (.ref a__law_next)
  b__law_next : L2.Binds K fd__law_next ["pool"] []
  a__law_draw : Addr
  fd__law_draw : FuncData
  F__law_draw : L2.Fun K "_law_draw" "_law_draw" s__law_draw a__law_draw fd__law_draw
  m__law_draw : mg "_law_draw" = some (.ref a__law_draw)
  b__law_draw : L2.Binds K fd__law_draw ["pool", "limit"] []
  a__law_pick : Addr
  fd__law_pick : FuncData
  F__law_pick : L2.Fun K "_law_pick" "_law_pick" s__law_pick a__law_pick fd__law_pick
  m__law_pick : mg "_law_pick" = some (.ref a__law_pick)
  b__law_pick : L2.Binds K fd__law_pick ["pool", "options"] []
  a__law_same : Addr
  fd__law_same : FuncData
  F__law_same : L2.Fun K "_law_same" "_law_same" s__law_same a__law_same fd__law_same
  m__law_same : mg "_law_same" = some (.ref a__law_same)
  b__law_same : L2.Binds K fd__law_same ["answer", "due"] []
  a__law_length : Addr
  fd__law_length : FuncData
  F__law_length : L2.Fun K "_law_length" "_law_length" s__law_length a__law_length fd__law_length
  m__law_length : mg "_law_length" = some (.ref a__law_length)
  b__law_length : L2.Binds K fd__law_length ["words"] []
  a__law_ragged : Addr
  fd__law_ragged : FuncData
  F__law_ragged : L2.Fun K "_law_ragged" "_law_ragged" s__law_ragged a__law_ragged fd__law_ragged
  m__law_ragged : mg "_law_ragged" = some (.ref a__law_ragged)
  b__law_ragged : L2.Binds K fd__law_ragged ["words", "width", "setting"] []
  a__law_settings : Addr
  fd__law_settings : FuncData
  F__law_settings : L2.Fun K "_law_settings" "_law_settings" s__law_settings a__law_settings fd__law_settings
  m__law_settings : mg "_law_settings" = some (.ref a__law_settings)
  b__law_settings : L2.Binds K fd__law_settings ["words", "width"] []
  a__law_is_int : Addr
  fd__law_is_int : FuncData
  F__law_is_int : L2.Fun K "_law_is_int" "_law_is_int" s__law_is_int a__law_is_int fd__law_is_int
  m__law_is_int : mg "_law_is_int" = some (.ref a__law_is_int)
  b__law_is_int : L2.Binds K fd__law_is_int ["value"] []
  a__law_potentials_right : Addr
  fd__law_potentials_right : FuncData
  F__law_potentials_right : L2.Fun K "_law_potentials_right" "_law_potentials_right" s__law_potentials_right a__law_potentials_right fd__law_potentials_right
  m__law_potentials_right : mg "_law_potentials_right" = some (.ref a__law_potentials_right)
  b__law_potentials_right : L2.Binds K fd__law_potentials_right ["words", "width", "number", "potentials"] []
  a_filled : Addr
  fd_filled : FuncData
  F_filled : L2.Fun K "filled" "filled" s_filled a_filled fd_filled
  m_filled : mg "filled" = some (.ref a_filled)
  b_filled : L2.Binds K fd_filled ["words", "width"] []
  a__law_filled_right : Addr
  fd__law_filled_right : FuncData
  F__law_filled_right : L2.Fun K "_law_filled_right" "_law_filled_right" s__law_filled_right a__law_filled_right fd__law_filled_right
  m__law_filled_right : mg "_law_filled_right" = some (.ref a__law_filled_right)
  b__law_filled_right : L2.Binds K fd__law_filled_right ["words", "width", "settings"] []
  a_in_lines : Addr
  fd_in_lines : FuncData
  F_in_lines : L2.Fun K "in_lines" "in_lines" s_in_lines a_in_lines fd_in_lines
  m_in_lines : mg "in_lines" = some (.ref a_in_lines)
  b_in_lines : L2.Binds K fd_in_lines ["words", "width", "count"] []
  a__law_in_lines_right : Addr
  fd__law_in_lines_right : FuncData
  F__law_in_lines_right : L2.Fun K "_law_in_lines_right" "_law_in_lines_right" s__law_in_lines_right a__law_in_lines_right fd__law_in_lines_right
  m__law_in_lines_right : mg "_law_in_lines_right" = some (.ref a__law_in_lines_right)
  b__law_in_lines_right : L2.Binds K fd__law_in_lines_right ["words", "width", "settings"] []
  a_law : Addr
  fd_law : FuncData
  F_law : L2.Fun K "law" "law" s_law a_law fd_law
  m_law : mg "law" = some (.ref a_law)
  b_law : L2.Binds K fd_law ["script"] []
  z_all : mg "all" = none
  z_bool : mg "bool" = none
  z_dict : mg "dict" = none
  z_int : mg "int" = none
  z_isinstance : mg "isinstance" = none
  z_len : mg "len" = none
  z_list : mg "list" = none
  z_max : mg "max" = none
  z_min : mg "min" = none
  z_range : mg "range" = none
  z_str : mg "str" = none
  z_sum : mg "sum" = none
  z_tuple : mg "tuple" = none
def b_length_of : DenS :=
  (sRet (dBin true addOp (dCall sumOp (dCons true (dComp [1] .im (dItems (dVarF 0)) (gSet 1) (dRet true) (dCall lenOp (dCons true (dVar 1) dNil))) dNil)) (dCall maxOp (dCons true (dBin true subOp (dCall lenOp (dCons true (dVar 0) dNil)) (dC (.int 1))) (dCons true (dC (.int 0)) dNil)))))
def d_length_of : FDen := fnDen [] 1 2 b_length_of
def b_left_over : DenS :=
  (sSeq (sSet 4 (dCallF 1 (d_length_of) (dAsC true (dSl true (dVarF 0) (dPart (dVar 2)) (dPart (dVar 3))) dAsNil))) (sSeq (sIf (dTst (dBin true gtOp (dVar 4) (dVar 1))) (sRet (dC .non)) sNil) (sRet (dIf (dTst (dBin true eqOp (dVar 3) (dCall lenOp (dCons true (dVar 0) dNil)))) (dC (.int 0)) (dBin true powOp (dBin true subOp (dVar 1) (dVar 4)) (dC (.int 2)))))))
def d_left_over : FDen := fnDen [4] 4 5 b_left_over
def b_ragged : DenS :=
  (sSeq (sIf (dOr (dNot (dTruth (dCall allOp (dCons true (dComp [5] .im (dItems (dVarF 2)) (gSet 5) (dRet true) (dBin true geOp (dVar 5) (dC (.int 1)))) dNil)))) (dTst (dBin true neOp (dCall sumOp (dCons true (dVar 2) dNil)) (dCall lenOp (dCons true (dVar 0) dNil))))) (sRet (dC .non)) sNil) (sSeq (sSet 3 (dC (.int 0))) (sSeq (sSet 4 (dC (.int 0))) (sSeq (sFor (dItems (dVarF 2)) (gSet 5) (sSeq (sSet 6 (dCallF 4 (d_left_over) (dAsV 0 (dAsV 1 (dAsV 4 (dAsC true (dBin true addOp (dVarF 4) (dVarF 5)) dAsNil)))))) (sSeq (sIf (dTst (dBin true isOp (dVar 6) (dC .non))) (sRet (dC .non)) sNil) (sSeq (sSet 3 (dBin true addOp (dVarF 3) (dVarF 6))) (sSet 4 (dBin true addOp (dVarF 4) (dVarF 5))))))) (sRet (dVarM 3))))))
def d_ragged : FDen := fnDen [3, 4, 5, 6] 3 7 b_ragged
def b_best_begins : DenS :=
  (sSeq (sSet 4 (dC .non)) (sSeq (sSet 5 (dBin true subOp (dVar 3) (dC (.int 1)))) (sSeq (whileF (dTst (dBin true geOp (dVar 5) (dC (.int 0)))) (sSeq (sSet 6 (dCallF 4 (d_left_over) (dAsV 0 (dAsV 1 (dAsV 5 (dAsV 3 dAsNil)))))) (sSeq (sIf (dTst (dBin true isOp (dVar 6) (dC .non))) sBreak sNil) (sSeq (sIf (dAnd (dTst (dBin true isNotOp (dIdxV 2 (dVar 5)) (dC .non))) (dOr (dTst (dBin true isOp (dVar 4) (dC .non))) (dTst (dBin true ltOp (dBin true addOp (dIdxV 2 (dVar 5)) (dVarF 6)) (dIdxV 4 (dC (.int 0))))))) (sSet 4 (dTup (dCons true (dBin true addOp (dIdxV 2 (dVar 5)) (dVarF 6)) (dCons true (dVarF 5) dNil)))) sNil) (sSet 5 (dBin true subOp (dVar 5) (dC (.int 1))))))) WN) (sRet (dVarM 4)))))
def d_best_begins : FDen := fnDen [4, 5, 6] 4 7 b_best_begins
def b_least_ragged : DenS :=
  (sSeq (sSet 2 (dLst (dCons true (dC (.int 0)) dNil))) (sSeq (sSet 3 (dLst (dCons true (dC (.int 0)) dNil))) (sSeq (sFor (dRange2 (dCons true (dC (.int 1)) (dCons true (dBin true addOp (dCall lenOp (dCons true (dVar 0) dNil)) (dC (.int 1))) dNil))) (gSet 4) (sSeq (sAsg (dCallF 4 (d_best_begins) (dAsV 0 (dAsV 1 (dAsV 2 (dAsV 4 dAsNil))))) (gTupD 2 (gsCons (gSet 6) (gsCons (gSet 7) gsNil)))) (sSeq (sAppend .im 2 (dVarF 6)) (sAppend .im 3 (dVarF 7))))) (sSeq (sSet 5 (dLst dNil)) (sSeq (sSet 4 (dCall lenOp (dCons true (dVar 0) dNil))) (sSeq (whileF (dTst (dBin true gtOp (dVar 4) (dC (.int 0)))) (sSeq (sAppend .im 5 (dBin true subOp (dVar 4) (dIdxV 3 (dVar 4)))) (sSet 4 (dIdxV 3 (dVar 4)))) WN) (sRet (dTup (dCons true (dUn revOp (dVarF 5)) (dCons true (dIdxV 2 (dUn negOp (dC (.int 1)))) (dCons true (dVarF 2) dNil)))))))))))
def d_least_ragged : FDen := fnDen [2, 3, 4, 5, 6, 7] 2 8 b_least_ragged
def b_written : DenS :=
  (sSeq (sSet 2 (dLst dNil)) (sSeq (sSet 3 (dC (.int 0))) (sSeq (sFor (dItems (dVarF 1)) (gSet 4) (sSeq (sAppend .im 2 (dMeth true isS joinOp (dC (.str " ")) (dCons true (dSl true (dVarF 0) (dPart (dVar 3)) (dPart (dBin true addOp (dVarF 3) (dVarF 4)))) dNil))) (sSet 3 (dBin true addOp (dVarF 3) (dVarF 4))))) (sRet (dVarM 2)))))
def d_written : FDen := fnDen [2, 3, 4] 2 5 b_written
def b_judge_setting : DenS :=
  (sSeq (sIf (dOr (dTst (dBin true neOp (dCallF 3 (d_ragged) (dAsV 0 (dAsV 1 (dAsV 2 dAsNil)))) (dVar 3))) (dTst (dBin true neOp (dCall lenOp (dCons true (dVar 4) dNil)) (dBin true addOp (dCall lenOp (dCons true (dVar 0) dNil)) (dC (.int 1)))))) (sRet (dC (.bl false))) sNil) (sSeq (sIf (dOr (dTst (dBin true neOp (dIdxV 4 (dC (.int 0))) (dC (.int 0)))) (dTst (dBin true neOp (dIdxV 4 (dUn negOp (dC (.int 1)))) (dVar 3)))) (sRet (dC (.bl false))) sNil) (sSeq (sFor (dRange (dCons true (dCall lenOp (dCons true (dVar 0) dNil)) dNil)) (gSet 5) (sFor (dRange2 (dCons true (dBin true addOp (dVarF 5) (dC (.int 1))) (dCons true (dBin true addOp (dCall lenOp (dCons true (dVar 0) dNil)) (dC (.int 1))) dNil))) (gSet 6) (sSeq (sSet 7 (dCallF 4 (d_left_over) (dAsV 0 (dAsV 1 (dAsV 5 (dAsV 6 dAsNil)))))) (sSeq (sIf (dTst (dBin true isOp (dVar 7) (dC .non))) sBreak sNil) (sIf (dTst (dBin true gtOp (dIdxV 4 (dVar 6)) (dBin true addOp (dIdxV 4 (dVar 5)) (dVarF 7)))) (sRet (dC (.bl false))) sNil))))) (sRet (dC (.bl true))))))
def d_judge_setting : FDen := fnDen [5, 6, 7] 5 8 b_judge_setting
def b__law_mixed : DenS :=
  (sSeq (sSet 2 (dBin true modOp (dCall int1Op (dCons true (dBin true addOp (dBin true addOp (dBin true mulOp (dVarF 0) (dC (.int 48271))) (dBin true mulOp (dVarF 1) (dC (.int 69621)))) (dC (.int 11))) dNil)) (dC (.int 618970019642690137449562111)))) (sSeq (sSet 3 (dBin true modOp (dCall int1Op (dCons true (dBin true addOp (dBin true addOp (dBin true mulOp (dVarF 2) (dVarF 2)) (dBin true mulOp (dC (.int 7)) (dVarF 2))) (dVarF 1)) dNil)) (dC (.int 162259276829213363391578010288127)))) (sSeq (sSet 4 (dBin true modOp (dCall int1Op (dCons true (dBin true addOp (dBin true mulOp (dVarF 3) (dVarF 3)) (dVarF 2)) dNil)) (dC (.int 618970019642690137449562111)))) (sRet (dBin true addOp (dBin true mulOp (dVarF 3) (dC (.int 618970019642690137449562111))) (dVarF 4))))))
def d__law_mixed : FDen := fnDen [2, 3, 4] 2 5 b__law_mixed
def b__law_rest : DenS :=
  (sSeq (sSet 3 (dC (.int 0))) (sSeq (sIf (dTst (dBin true gtOp (dCall lenOp (dCons true (dVar 0) dNil)) (dC (.int 0)))) (sSet 3 (dCall int1Op (dCons true (dIdxV 0 (dBin true modOp (dCall int1Op (dCons true (dVar 1) dNil)) (dCall lenOp (dCons true (dVar 0) dNil)))) dNil))) sNil) (sSeq (sIf (dTst (dBin true ltOp (dVar 3) (dC (.int 0)))) (sSet 3 (dBin true subOp (dC (.int 1)) (dBin true mulOp (dC (.int 2)) (dVarF 3)))) sNil) (sSeq (sIf (dAnd (dTst (dBin true eqOp (dVar 2) (dC (.int 0)))) (dAnd (dTst (dBin true ltOp (dVar 1) (dCall lenOp (dCons true (dVar 0) dNil)))) (dTst (dBin true geOp (dVar 3) (dBin true powOp (dC (.int 10)) (dC (.int 18))))))) (sRet (dBin true subOp (dVar 3) (dBin true powOp (dC (.int 10)) (dC (.int 18))))) sNil) (sRet (dCallF 2 (d__law_mixed) (dAsC true (dBin true addOp (dVarF 3) (dBin true mulOp (dVarF 2) (dC (.int 1000003)))) (dAsV 1 dAsNil))))))))
def d__law_rest : FDen := fnDen [3] 3 4 b__law_rest
def b__law_pool : DenS :=
  (sRet (dLst (dCons false (dVarF 0) (dCons false (dC (.int 0)) (dCons true (dCallF 3 (d__law_rest) (dAsV 0 (dAsC true (dC (.int 0)) (dAsC true (dC (.int 0)) dAsNil)))) (dCons true (dC (.int 0)) dNil))))))
def d__law_pool : FDen := fnDen [] 1 1 b__law_pool
def b__law_next : DenS :=
  (sSeq (sSetItem 0 (dBin true addOp (dIdxV 0 (dC (.int 1))) (dC (.int 1))) (dC (.int 1))) (sSeq (sSetItem 0 (dCallF 3 (d__law_rest) (dAsC true (dIdxV 0 (dC (.int 0))) (dAsC true (dIdxV 0 (dC (.int 1))) (dAsC true (dC (.int 0)) dAsNil)))) (dC (.int 2))) (sSetItem 0 (dC (.int 0)) (dC (.int 3)))))
def d__law_next : FDen := fnDen [] 1 1 b__law_next
def b__law_draw : DenS :=
  (sSeq (sIf (dTst (dBin true leOp (dIdxV 0 (dC (.int 2))) (dC (.int 1)))) (sSeq (sSetItem 0 (dBin true addOp (dIdxV 0 (dC (.int 3))) (dC (.int 1))) (dC (.int 3))) (sSetItem 0 (dCallF 3 (d__law_rest) (dAsC true (dIdxV 0 (dC (.int 0))) (dAsC true (dIdxV 0 (dC (.int 1))) (dAsC true (dIdxV 0 (dC (.int 3))) dAsNil)))) (dC (.int 2)))) sNil) (sSeq (sSet 2 (dBin true modOp (dCall int1Op (dCons true (dIdxV 0 (dC (.int 2))) dNil)) (dVar 1))) (sSeq (sSetItem 0 (dBin true fdivOp (dCall int1Op (dCons true (dIdxV 0 (dC (.int 2))) dNil)) (dVar 1)) (dC (.int 2))) (sRet (dVarM 2)))))
def d__law_draw : FDen := fnDen [2] 2 3 b__law_draw
def b__law_pick : DenS :=
  (sRet (dIdx false (dVarF 1) (dCallF 2 (d__law_draw) (dAsV 0 (dAsC true (dCall lenOp (dCons true (dVar 1) dNil)) dAsNil)))))
def d__law_pick : FDen := fnDen [] 2 2 b__law_pick
def b__law_same (den : FDen) : DenS :=
  (sSeq (sIf (dTruth (dCall isiOp (dCons true (dVar 1) (dCons true (dC (.ty "dict")) dNil)))) (sSeq (sIf (dOr (dNot (dTruth (dCall isiOp (dCons true (dVar 0) (dCons true (dC (.ty "dict")) dNil))))) (dTst (dBin true neOp (dCall lenOp (dCons true (dVar 0) dNil)) (dCall lenOp (dCons true (dVar 1) dNil))))) (sRet (dC (.bl false))) sNil) (sRet (dCall allOp (dCons true (dComp [2] .im (dItems (dVarF 1)) (gSet 2) (dRet true) (dAndV (dBin true inOp (dVar 2) (dVar 0)) (dCallF 2 den (dAsC true (dIdx true (dVarF 0) (dVar 2)) (dAsC true (dIdx true (dVarF 1) (dVar 2)) dAsNil))))) dNil)))) sNil) (sSeq (sIf (dOr (dTruth (dCall isiOp (dCons true (dVar 1) (dCons true (dC (.ty "list")) dNil)))) (dTruth (dCall isiOp (dCons true (dVar 1) (dCons true (dC (.ty "tuple")) dNil))))) (sSeq (sIf (dOr (dTst (dBin true neOp (dCall isiOp (dCons true (dVar 1) (dCons true (dC (.ty "list")) dNil))) (dCall isiOp (dCons true (dVar 0) (dCons true (dC (.ty "list")) dNil))))) (dTst (dBin true neOp (dCall isiOp (dCons true (dVar 1) (dCons true (dC (.ty "tuple")) dNil))) (dCall isiOp (dCons true (dVar 0) (dCons true (dC (.ty "tuple")) dNil)))))) (sRet (dC (.bl false))) sNil) (sRet (dAndV (dBin true eqOp (dCall lenOp (dCons true (dVar 0) dNil)) (dCall lenOp (dCons true (dVar 1) dNil))) (dCall allOp (dCons true (dComp [3] .im (dRange (dCons true (dCall lenOp (dCons true (dVar 1) dNil)) dNil)) (gSet 3) (dRet true) (dCallF 2 den (dAsC true (dIdx true (dVarF 0) (dVar 3)) (dAsC true (dIdx true (dVarF 1) (dVar 3)) dAsNil)))) dNil))))) sNil) (sSeq (sIf (dTruth (dCall isiOp (dCons true (dVar 1) (dCons true (dC (.ty "str")) dNil)))) (sRet (dAndV (dCall isiOp (dCons true (dVar 0) (dCons true (dC (.ty "str")) dNil))) (dBin true eqOp (dVar 0) (dVar 1)))) sNil) (sSeq (sIf (dOr (dTst (dBin true isOp (dVar 1) (dC .non))) (dOr (dTst (dBin true isOp (dVar 1) (dC (.bl true)))) (dTst (dBin true isOp (dVar 1) (dC (.bl false)))))) (sRet (dOrV (dAndV (dBin true isOp (dVar 1) (dC .non)) (dBin true isOp (dVar 0) (dC .non))) (dOrV (dAndV (dBin true isOp (dVar 1) (dC (.bl true))) (dBin true isOp (dVar 0) (dC (.bl true)))) (dAndV (dBin true isOp (dVar 1) (dC (.bl false))) (dBin true isOp (dVar 0) (dC (.bl false))))))) sNil) (sRet (dAndV (dCall isiOp (dCons true (dVar 0) (dCons true (dC (.ty "int")) dNil))) (dAndV (dNotV (dCall isiOp (dCons true (dVar 0) (dCons true (dC (.ty "bool")) dNil)))) (dBin true eqOp (dVar 0) (dVar 1)))))))))
def d__law_same : Nat → FDen
  | 0 => fun _ => none
  | k + 1 => fnDen [] 2 4 (b__law_same (d__law_same k))
def b__law_length : DenS :=
  (sRet (dCall lenOp (dCons true (dMeth true isS joinOp (dC (.str " ")) (dCons true (dVar 0) dNil)) dNil)))
def d__law_length : FDen := fnDen [] 1 1 b__law_length
def b__law_ragged : DenS :=
  (sSeq (sIf (dOr (dTst (dBin true neOp (dCall sumOp (dCons true (dVar 2) dNil)) (dCall lenOp (dCons true (dVar 0) dNil)))) (dTst (dBin true ltOp (dCall minOp (dCons true (dBin true addOp (dVarF 2) (dLst (dCons true (dC (.int 1)) dNil))) dNil)) (dC (.int 1))))) (sRet (dC .non)) sNil) (sSeq (sSet 3 (dC (.int 0))) (sSeq (sSet 4 (dC (.int 0))) (sSeq (sFor (dRange (dCons true (dCall lenOp (dCons true (dVar 2) dNil)) dNil)) (gSet 5) (sSeq (sSet 6 (dCallF 1 (d__law_length) (dAsC true (dSl true (dVarF 0) (dPart (dVar 4)) (dPart (dBin true addOp (dVarF 4) (dIdxV 2 (dVar 5))))) dAsNil))) (sSeq (sIf (dTst (dBin true gtOp (dVar 6) (dVar 1))) (sRet (dC .non)) sNil) (sSeq (sIf (dTst (dBin true ltOp (dBin true addOp (dVarF 5) (dC (.int 1))) (dCall lenOp (dCons true (dVar 2) dNil)))) (sSet 3 (dBin true addOp (dVarF 3) (dBin true mulOp (dBin true subOp (dVar 1) (dVar 6)) (dBin true subOp (dVar 1) (dVar 6))))) sNil) (sSet 4 (dBin true addOp (dVarF 4) (dIdxV 2 (dVar 5)))))))) (sRet (dVarM 3))))))
def d__law_ragged : FDen := fnDen [3, 4, 5, 6] 3 7 b__law_ragged
def b__law_settings (den : FDen) : DenS :=
  (sSeq (sIf (dTst (dBin true eqOp (dVar 0) (dLst dNil))) (sRet (dLst (dCons true (dLst dNil) dNil))) sNil) (sSeq (sSet 2 (dLst dNil)) (sSeq (sFor (dRange2 (dCons true (dC (.int 1)) (dCons true (dBin true addOp (dCall lenOp (dCons true (dVar 0) dNil)) (dC (.int 1))) dNil))) (gSet 3) (sIf (dTst (dBin true leOp (dCallF 1 (d__law_length) (dAsC true (dSl true (dVarF 0) dNoPart (dPart (dVar 3))) dAsNil)) (dVar 1))) (sSet 2 (dBin false addOp (dVarF 2) (dComp [4] .im (dItems (dCallF 2 den (dAsC true (dSl true (dVarF 0) (dPart (dVar 3)) dNoPart) (dAsV 1 dAsNil)))) (gSet 4) (dRet true) (dBin true addOp (dLst (dCons true (dVarF 3) dNil)) (dVarF 4))))) sNil)) (sRet (dVarM 2)))))
def d__law_settings : Nat → FDen
  | 0 => fun _ => none
  | k + 1 => fnDen [2, 3] 2 5 (b__law_settings (d__law_settings k))
def b__law_is_int : DenS :=
  (sRet (dAndV (dCall isiOp (dCons true (dVar 0) (dCons true (dC (.ty "int")) dNil))) (dNotV (dCall isiOp (dCons true (dVar 0) (dCons true (dC (.ty "bool")) dNil))))))
def d__law_is_int : FDen := fnDen [] 1 1 b__law_is_int
def b__law_potentials_right : DenS :=
  (sSeq (sIf (dOr (dNot (dTruth (dCall isiOp (dCons true (dVar 3) (dCons true (dC (.ty "list")) dNil))))) (dOr (dTst (dBin true neOp (dCall lenOp (dCons true (dVar 3) dNil)) (dBin true addOp (dCall lenOp (dCons true (dVar 0) dNil)) (dC (.int 1))))) (dNot (dTruth (dCall allOp (dCons true (dComp [8] .im (dItems (dVarF 3)) (gSet 8) (dRet true) (dCallF 1 (d__law_is_int) (dAsV 8 dAsNil))) dNil)))))) (sRet (dC (.bl false))) sNil) (sSeq (sIf (dOr (dTst (dBin true neOp (dIdxV 3 (dC (.int 0))) (dC (.int 0)))) (dTst (dBin true neOp (dIdxV 3 (dUn negOp (dC (.int 1)))) (dVar 2)))) (sRet (dC (.bl false))) sNil) (sSeq (sFor (dRange (dCons true (dCall lenOp (dCons true (dVar 0) dNil)) dNil)) (gSet 4) (sFor (dRange2 (dCons true (dBin true addOp (dVarF 4) (dC (.int 1))) (dCons true (dBin true addOp (dCall lenOp (dCons true (dVar 0) dNil)) (dC (.int 1))) dNil))) (gSet 5) (sSeq (sSet 6 (dCallF 1 (d__law_length) (dAsC true (dSl true (dVarF 0) (dPart (dVar 4)) (dPart (dVar 5))) dAsNil))) (sIf (dTst (dBin true leOp (dVar 6) (dVar 1))) (sSeq (sSet 7 (dIf (dTst (dBin true eqOp (dVar 5) (dCall lenOp (dCons true (dVar 0) dNil)))) (dC (.int 0)) (dBin true mulOp (dBin true subOp (dVar 1) (dVar 6)) (dBin true subOp (dVar 1) (dVar 6))))) (sIf (dTst (dBin true gtOp (dIdxV 3 (dVar 5)) (dBin true addOp (dIdxV 3 (dVar 4)) (dVarF 7)))) (sRet (dC (.bl false))) sNil)) sNil)))) (sRet (dC (.bl true))))))
def d__law_potentials_right : FDen := fnDen [4, 5, 6, 7] 4 9 b__law_potentials_right
def b_filled : DenS :=
  (sSeq (sSet 2 (dLst dNil)) (sSeq (sSet 3 (dC (.int 0))) (sSeq (whileF (dTst (dBin true ltOp (dVar 3) (dCall lenOp (dCons true (dVar 0) dNil)))) (sSeq (sSet 4 (dBin true addOp (dVarF 3) (dC (.int 1)))) (sSeq (whileF (dAnd (dTst (dBin true ltOp (dVar 4) (dCall lenOp (dCons true (dVar 0) dNil)))) (dTst (dBin true leOp (dCallF 1 (d_length_of) (dAsC true (dSl true (dVarF 0) (dPart (dVar 3)) (dPart (dBin true addOp (dVarF 4) (dC (.int 1))))) dAsNil)) (dVar 1)))) (sSet 4 (dBin true addOp (dVarF 4) (dC (.int 1)))) WN) (sSeq (sAppend .im 2 (dBin true subOp (dVar 4) (dVar 3))) (sSet 3 (dVarF 4))))) WN) (sRet (dVarM 2)))))
def d_filled : FDen := fnDen [2, 3, 4] 2 5 b_filled
def b__law_filled_right : DenS :=
  (sSeq (sSet 3 (dCallF 2 (d_filled) (dAsC true (dCall listSOp (dCons true (dVarF 0) dNil)) (dAsV 1 dAsNil)))) (sSeq (sIf (dTst (dBin true isOp (dCallF 3 (d__law_ragged) (dAsV 0 (dAsV 1 (dAsV 3 dAsNil)))) (dC .non))) (sRet (dC (.bl false))) sNil) (sSeq (sSet 4 (dC (.int 0))) (sSeq (sFor (dItems (dVarF 3)) (gSet 5) (sSeq (sIf (dAnd (dTst (dBin true ltOp (dBin true addOp (dVarF 4) (dVarF 5)) (dCall lenOp (dCons true (dVar 0) dNil)))) (dTst (dBin true leOp (dCallF 1 (d__law_length) (dAsC true (dSl true (dVarF 0) (dPart (dVar 4)) (dPart (dBin true addOp (dBin true addOp (dVarF 4) (dVarF 5)) (dC (.int 1))))) dAsNil)) (dVar 1)))) (sRet (dC (.bl false))) sNil) (sSet 4 (dBin true addOp (dVarF 4) (dVarF 5))))) (sSeq (sFor (dItems (dVarF 2)) (gSet 6) (sSeq (sFor (dRange (dCons true (dCall minOp (dCons true (dCall lenOp (dCons true (dVar 6) dNil)) (dCons true (dCall lenOp (dCons true (dVar 3) dNil)) dNil))) dNil)) (gSet 7) (sIf (dTst (dBin true gtOp (dCall sumOp (dCons true (dSl true (dVarF 6) dNoPart (dPart (dBin true addOp (dVarF 7) (dC (.int 1))))) dNil)) (dCall sumOp (dCons true (dSl true (dVarF 3) dNoPart (dPart (dBin true addOp (dVarF 7) (dC (.int 1))))) dNil)))) (sRet (dC (.bl false))) sNil)) (sIf (dTst (dBin true ltOp (dCall lenOp (dCons true (dVar 6) dNil)) (dCall lenOp (dCons true (dVar 3) dNil)))) (sRet (dC (.bl false))) sNil))) (sRet (dC (.bl true))))))))
def d__law_filled_right : FDen := fnDen [3, 4, 5, 6, 7] 3 8 b__law_filled_right
def b_in_lines : DenS :=
  (sSeq (sSet 3 (dBin true addOp (dLst (dCons true (dC (.int 0)) dNil)) (dComp [9] .im (dItems (dVarF 0)) (gSet 9) (dRet true) (dC .non)))) (sSeq (sSet 4 (dLst dNil)) (sSeq (sFor (dRange (dCons true (dVar 2) dNil)) (gSet 5) (sSeq (sSet 8 (dBin false addOp (dLst (dCons true (dC .non) dNil)) (dComp [7] .im (dRange2 (dCons true (dC (.int 1)) (dCons true (dBin true addOp (dCall lenOp (dCons true (dVar 0) dNil)) (dC (.int 1))) dNil))) (gSet 7) (dRet true) (dCallF 4 (d_best_begins) (dAsV 0 (dAsV 1 (dAsV 3 (dAsV 7 dAsNil)))))))) (sSeq (sAppend .im 4 (dVarF 8)) (sSet 3 (dComp [10] .im (dItems (dVarF 8)) (gSet 10) (dRet true) (dIf (dTst (dBin true isOp (dVar 10) (dC .non))) (dC .non) (dIdx true (dVarF 10) (dC (.int 0))))))))) (sSeq (sIf (dOr (dTst (dBin true ltOp (dVar 2) (dC (.int 1)))) (dTst (dBin true isOp (dIdxV 3 (dUn negOp (dC (.int 1)))) (dC .non)))) (sRet (dC .non)) sNil) (sSeq (sSet 6 (dLst dNil)) (sSeq (sSet 7 (dCall lenOp (dCons true (dVar 0) dNil))) (sSeq (sFor (dItems (dUn revOp (dVarF 4))) (gSet 8) (sSeq (sAppend .im 6 (dBin true subOp (dVar 7) (dIdx true (dIdxV 8 (dVar 7)) (dC (.int 1))))) (sSet 7 (dIdx true (dIdx true (dVarF 8) (dVar 7)) (dC (.int 1)))))) (sRet (dTup (dCons true (dUn revOp (dVarF 6)) (dCons true (dIdx true (dVarF 3) (dUn negOp (dC (.int 1)))) dNil)))))))))))
def d_in_lines : FDen := fnDen [3, 4, 5, 6, 7, 8] 3 11 b_in_lines
def b__law_in_lines_right : DenS :=
  (sSeq (sFor (dRange (dCons true (dBin true addOp (dCall lenOp (dCons true (dVar 0) dNil)) (dC (.int 2))) dNil)) (gSet 3) (sSeq (sSet 4 (dCallF 3 (d_in_lines) (dAsC true (dCall listSOp (dCons true (dVarF 0) dNil)) (dAsV 1 (dAsV 3 dAsNil))))) (sSeq (sSet 5 (dComp [6] .im (dItems (dVarF 2)) (gSet 6) (dTst (dBin true eqOp (dCall lenOp (dCons true (dVar 6) dNil)) (dVar 3))) (dCallF 3 (d__law_ragged) (dAsV 0 (dAsV 1 (dAsV 6 dAsNil)))))) (sSeq (sIf (dAnd (dTst (dBin true eqOp (dVar 5) (dLst dNil))) (dTst (dBin true isNotOp (dVar 4) (dC .non)))) (sRet (dC (.bl false))) sNil) (sSeq (sIf (dAnd (dTst (dBin true neOp (dVar 5) (dLst dNil))) (dOr (dTst (dBin true isOp (dVar 4) (dC .non))) (dOr (dTst (dBin true neOp (dIdxV 4 (dC (.int 1))) (dCall minOp (dCons true (dVar 5) dNil)))) (dTst (dBin true neOp (dCall lenOp (dCons true (dIdxV 4 (dC (.int 0))) dNil)) (dVar 3)))))) (sRet (dC (.bl false))) sNil) (sIf (dAnd (dTst (dBin true neOp (dVar 5) (dLst dNil))) (dTst (dBin true neOp (dCallF 3 (d__law_ragged) (dAsV 0 (dAsV 1 (dAsC true (dIdx true (dVarF 4) (dC (.int 0))) dAsNil)))) (dIdxV 4 (dC (.int 1)))))) (sRet (dC (.bl false))) sNil)))))) (sRet (dC (.bl true))))
def d__law_in_lines_right : FDen := fnDen [3, 4, 5] 3 7 b__law_in_lines_right
def b_law : DenS :=
  (sSeq (sSet 1 (dCallF 1 (d__law_pool) (dAsV 0 dAsNil))) (sSeq (sSet 2 (dLst dNil)) (sSeq (sFor (dRange (dCons true (dBin false addOp (dC (.int 1)) (dCallF 2 (d__law_draw) (dAsV 1 (dAsC true (dC (.int 14)) dAsNil)))) dNil)) (gSet 3) (sSeq (sExpr (dCallF 1 (d__law_next) (dAsV 1 dAsNil))) (sAppend .im 2 (dIf (dTst (dBin true gtOp (dCallF 2 (d__law_draw) (dAsV 1 (dAsC true (dC (.int 4)) dAsNil))) (dC (.int 0)))) (dSl false (dC (.str "abcdefghi")) (dPart (dCallF 2 (d__law_draw) (dAsV 1 (dAsC true (dC (.int 9)) dAsNil)))) dNoPart) (dC (.str "a")))))) (sSeq (sSet 4 (dCall maxOp (dCons true (dComp [14] .im (dItems (dVarF 2)) (gSet 14) (dRet true) (dCall lenOp (dCons true (dVar 14) dNil))) dNil))) (sSeq (sSet 5 (dBin false addOp (dVarF 4) (dCallF 2 (d__law_draw) (dAsV 1 (dAsC true (dCallF 2 (d__law_pick) (dAsV 1 (dAsC true (dLst (dCons true (dC (.int 1)) (dCons true (dC (.int 6)) (dCons true (dC (.int 30)) dNil)))) dAsNil))) dAsNil))))) (sSeq (sSet 6 (dCall listSOp (dCons true (dVarF 2) dNil))) (sSeq (sSet 7 (dCallF 2 (d_least_ragged) (dAsV 6 (dAsV 5 dAsNil)))) (sSeq (sIf (dOr (dNot (dTruth (dCallF 2 (d__law_same 10) (dAsV 6 (dAsV 2 dAsNil))))) (dOr (dNot (dTruth (dCall isiOp (dCons true (dVar 7) (dCons true (dC (.ty "tuple")) dNil))))) (dTst (dBin true neOp (dCall lenOp (dCons true (dVar 7) dNil)) (dC (.int 3)))))) (sRet (dC (.bl false))) sNil) (sSeq (sIf (dOr (dNot (dTruth (dCallF 2 (d__law_same 10) (dAsC true (dCallF 3 (d__law_ragged) (dAsV 2 (dAsV 5 (dAsC true (dIdx true (dVarF 7) (dC (.int 0))) dAsNil)))) (dAsC true (dIdx true (dVarF 7) (dC (.int 1))) dAsNil))))) (dNot (dTruth (dCallF 4 (d__law_potentials_right) (dAsV 2 (dAsV 5 (dAsC true (dIdx true (dVarF 7) (dC (.int 1))) (dAsC true (dIdx true (dVarF 7) (dC (.int 2))) dAsNil)))))))) (sRet (dC (.bl false))) sNil) (sSeq (sIf (dTst (dBin true isNotOp (dCallF 5 (d_judge_setting) (dAsV 2 (dAsV 5 (dAsC true (dCall listSOp (dCons true (dIdx true (dVarF 7) (dC (.int 0))) dNil)) (dAsC true (dIdx true (dVarF 7) (dC (.int 1))) (dAsC true (dCall listSOp (dCons true (dIdx true (dVarF 7) (dC (.int 2))) dNil)) dAsNil)))))) (dC (.bl true)))) (sRet (dC (.bl false))) sNil) (sSeq (sSet 8 (dC (.int 0))) (sSeq (sSet 9 (dLst dNil)) (sSeq (sFor (dItems (dIdx true (dVarF 7) (dC (.int 0)))) (gSet 10) (sSeq (sAppend .im 9 (dMeth true isS joinOp (dC (.str " ")) (dCons true (dSl true (dVarF 2) (dPart (dVar 8)) (dPart (dBin true addOp (dVarF 8) (dVarF 10)))) dNil))) (sSet 8 (dBin true addOp (dVarF 8) (dVarF 10))))) (sSeq (sIf (dNot (dTruth (dCallF 2 (d__law_same 10) (dAsC true (dCallF 2 (d_written) (dAsC true (dCall listSOp (dCons true (dVarF 2) dNil)) (dAsC true (dCall listSOp (dCons true (dIdx true (dVarF 7) (dC (.int 0))) dNil)) dAsNil))) (dAsV 9 dAsNil))))) (sRet (dC (.bl false))) sNil) (sSeq (sFor (dRange (dCons true (dC (.int 4)) dNil)) (gSet 11) (sSeq (sSet 13 (dComp [3] .im (dRange (dCons true (dCallF 2 (d__law_draw) (dAsV 1 (dAsC true (dC (.int 7)) dAsNil))) dNil)) (gSet 3) (dRet true) (dBin false subOp (dCallF 2 (d__law_draw) (dAsV 1 (dAsC true (dC (.int 5)) dAsNil))) (dCall int1Op (dCons true (dBin true eqOp (dCallF 2 (d__law_draw) (dAsV 1 (dAsC true (dC (.int 30)) dAsNil))) (dC (.int 0))) dNil))))) (sSeq (sIf (dTst (dBin true eqOp (dCallF 2 (d__law_draw) (dAsV 1 (dAsC true (dC (.int 2)) dAsNil))) (dC (.int 0)))) (sSet 13 (dBin true addOp (dVarF 13) (dLst (dCons true (dCall maxOp (dCons true (dBin true subOp (dCall lenOp (dCons true (dVar 2) dNil)) (dCall sumOp (dCons true (dVar 13) dNil))) (dCons true (dC (.int 1)) dNil))) dNil)))) sNil) (sIf (dNot (dTruth (dCallF 2 (d__law_same 10) (dAsC false (dCallF 3 (d_ragged) (dAsV 2 (dAsV 5 (dAsC true (dCall listSOp (dCons true (dVarF 13) dNil)) dAsNil)))) (dAsC true (dCallF 3 (d__law_ragged) (dAsV 2 (dAsV 5 (dAsV 13 dAsNil)))) dAsNil))))) (sRet (dC (.bl false))) sNil)))) (sSeq (sSet 12 (dIf (dTst (dBin true ltOp (dCall lenOp (dCons true (dVar 2) dNil)) (dC (.int 10)))) (dCallF 2 (d__law_settings 10) (dAsV 2 (dAsV 5 dAsNil))) (dLst dNil))) (sSeq (sIf (dNot (dTruth (dCall allOp (dCons true (dComp [13] .im (dItems (dVarF 12)) (gSet 13) (dRet true) (dBin true geOp (dCallF 3 (d__law_ragged) (dAsV 2 (dAsV 5 (dAsV 13 dAsNil)))) (dIdxV 7 (dC (.int 1))))) dNil)))) (sRet (dC (.bl false))) sNil) (sRet (dAndV (dCallF 3 (d__law_filled_right) (dAsV 2 (dAsV 5 (dAsV 12 dAsNil)))) (dOrV (dBin true eqOp (dVar 12) (dLst dNil)) (dCallF 3 (d__law_in_lines_right) (dAsV 2 (dAsV 5 (dAsV 12 dAsNil))))))))))))))))))))))))
def d_law : FDen := fnDen [1, 2, 3, 4, 5, 6, 7, 8, 9, 10, 11, 12, 13] 1 15 b_law
end Lk76

set_option maxHeartbeats 4000000
namespace Lk76
open PySem PySem.Spec PyProof.Rows L2 Den
section
variable {P : Program} {w : World} {K : PySem.W.Frag} {mg : Str → Option Value} {base : Heap}
theorem ok_length_of (T : Txt K mg) : FnOk P w K mg base (L2.CX P w) 1 T.a_length_of T.fd_length_of ["words"] (SpD K mg 1 d_length_of) :=
  fn_ok (N := ["words", "word"]) (ps := ["words"]) (A := []) (body := b_length_of) T.F_length_of sc_length_of fun cdv Ar outer s H E hr tk po => (b_one (s_ret (e_add (e_callB (cr_sum rfl) cx_sum (by rfl) T.z_sum (by decide +kernel) (a_cons (e_comp (own := [("word", 1)]) rfl sc_length_of.nd (i_any (e_varF (pv 0))) (blkOk_by (own := [("word", 1)]) (by kernel_rfl)) (fun _ _ _ _ _ => (g_name (pg_name (i := 1) sc_length_of.nd rfl (by first | exact Or.inl rfl | exact Or.inr rfl)) (by decide))) (fun _ _ _ _ _ => ts_nil) (fun _ _ _ _ _ => (e_callB cr_len cx_len (by rfl) T.z_len boot_len (a_cons (e_var (pv 1)) a_nil)))) a_nil)) (e_callB (cr_maxA rfl) cx_max (by rfl) T.z_max (by decide +kernel) (a_cons (e_sub (e_callB cr_len cx_len (by rfl) T.z_len boot_len (a_cons (e_var (pv 0)) a_nil)) e_int) (a_cons e_int a_nil))))))
theorem ok_left_over (T : Txt K mg) : FnOk P w K mg base (L2.CX P w) 2 T.a_left_over T.fd_left_over ["words", "width", "begin", "end"] (SpD K mg 4 d_left_over) :=
  fn_ok (N := ["words", "width", "begin", "end", "length"]) (ps := ["words", "width", "begin", "end"]) (A := [4]) (body := b_left_over) T.F_left_over sc_left_over fun cdv Ar outer s H E hr tk po => (b_cons (s_set (i := 4) (by decide) sc_left_over.nd rfl (by first | exact Or.inl rfl | exact Or.inr rfl) (e_call (ok_length_of T) tk (hr.mono (by decide)) (by rfl) T.m_length_of T.F_length_of.kp T.b_length_of (x_cons (e_sl (e_varF (pv 0)) (o_some (e_var (pv 2))) (o_some (e_var (pv 3)))) x_nil))) (b_cons (s_if (t_cmp or_gt ox_cmp (e_var (pv 4)) (e_var (pv 1)) (nomark _)) (b_one (s_ret e_non)) b_nil) (b_one (s_ret (e_if (t_cmp (or_eq hr.units) ox_eq (e_var (pv 3)) (e_callB cr_len cx_len (by rfl) T.z_len boot_len (a_cons (e_var (pv 0)) a_nil)) (nomark _)) e_int (e_pow (e_sub (e_var (pv 1)) (e_var (pv 4))) e_int))))))
theorem ok_ragged (T : Txt K mg) : FnOk P w K mg base (L2.CX P w) 3 T.a_ragged T.fd_ragged ["words", "width", "setting"] (SpD K mg 3 d_ragged) :=
  fn_ok (N := ["words", "width", "setting", "total", "begin", "count", "over"]) (ps := ["words", "width", "setting"]) (A := [3, 4, 5, 6]) (body := b_ragged) T.F_ragged sc_ragged fun cdv Ar outer s H E hr tk po => (b_cons (s_if (t_w (w_or (t_not (t_truth (e_callB (cr_all rfl) cx_all (by rfl) T.z_all (by decide +kernel) (a_cons (e_comp (own := [("count", 5)]) rfl sc_ragged.nd (i_any (e_varF (pv 2))) (blkOk_by (own := [("count", 5)]) (by kernel_rfl)) (fun _ _ _ _ _ => (g_name (pg_name (i := 5) sc_ragged.nd rfl (by first | exact Or.inl rfl | exact Or.inr rfl)) (by decide))) (fun _ _ _ _ _ => ts_nil) (fun _ _ _ _ _ => (e_cmp or_ge ox_cmp (e_var (pv 5)) e_int (nomark _)))) a_nil)))) (w_or1 (t_cmp (or_ne hr.units) ox_ne (e_callB (cr_sum rfl) cx_sum (by rfl) T.z_sum (by decide +kernel) (a_cons (e_var (pv 2)) a_nil)) (e_callB cr_len cx_len (by rfl) T.z_len boot_len (a_cons (e_var (pv 0)) a_nil)) (nomark _))))) (b_one (s_ret e_non)) b_nil) (b_cons (s_set (i := 3) (by decide) sc_ragged.nd rfl (by first | exact Or.inl rfl | exact Or.inr rfl) e_int) (b_cons (s_set (i := 4) (by decide) sc_ragged.nd rfl (by first | exact Or.inl rfl | exact Or.inr rfl) e_int) (b_cons (s_for po rfl (i_any (e_varF (pv 2))) (g_name (pg_name (i := 5) sc_ragged.nd rfl (by first | exact Or.inl rfl | exact Or.inr rfl)) (by decide)) (b_cons (s_set (i := 6) (by decide) sc_ragged.nd rfl (by first | exact Or.inl rfl | exact Or.inr rfl) (e_call (ok_left_over T) tk (hr.mono (by decide)) (by rfl) T.m_left_over T.F_left_over.kp T.b_left_over (x_var (pv 0) (x_var (pv 1) (x_var (pv 4) (x_cons (e_add (e_varF (pv 4)) (e_varF (pv 5))) x_nil)))))) (b_cons (s_if (t_cmp or_is ox_is (e_var (pv 6)) e_non (nomark _)) (b_one (s_ret e_non)) b_nil) (b_cons (s_set (i := 3) (by decide) sc_ragged.nd rfl (by first | exact Or.inl rfl | exact Or.inr rfl) (e_add (e_varF (pv 3)) (e_varF (pv 6)))) (b_one (s_set (i := 4) (by decide) sc_ragged.nd rfl (by first | exact Or.inl rfl | exact Or.inr rfl) (e_add (e_varF (pv 4)) (e_varF (pv 5))))))))) (b_one (s_ret (e_varM (pv 3))))))))
theorem ok_best_begins (T : Txt K mg) : FnOk P w K mg base (L2.CX P w) 3 T.a_best_begins T.fd_best_begins ["words", "width", "best", "end"] (SpD K mg 4 d_best_begins) :=
  fn_ok (N := ["words", "width", "best", "end", "found", "begin", "over"]) (ps := ["words", "width", "best", "end"]) (A := [4, 5, 6]) (body := b_best_begins) T.F_best_begins sc_best_begins fun cdv Ar outer s H E hr tk po => (b_cons (s_set (i := 4) (by decide) sc_best_begins.nd rfl (by first | exact Or.inl rfl | exact Or.inr rfl) e_non) (b_cons (s_set (i := 5) (by decide) sc_best_begins.nd rfl (by first | exact Or.inl rfl | exact Or.inr rfl) (e_sub (e_var (pv 3)) e_int)) (b_cons (s_while po (t_cmp or_ge ox_cmp (e_var (pv 5)) e_int (nomark _)) (b_cons (s_set (i := 6) (by decide) sc_best_begins.nd rfl (by first | exact Or.inl rfl | exact Or.inr rfl) (e_call (ok_left_over T) tk (hr.mono (by decide)) (by rfl) T.m_left_over T.F_left_over.kp T.b_left_over (x_var (pv 0) (x_var (pv 1) (x_var (pv 5) (x_var (pv 3) x_nil)))))) (b_cons (s_if (t_cmp or_is ox_is (e_var (pv 6)) e_non (nomark _)) (b_one s_break) b_nil) (b_cons (s_if (t_w (w_and (t_cmp or_isNot ox_isNot (e_idxV (pv 2) (e_var (pv 5))) e_non (nomark _)) (w_and1 (t_w (w_or (t_cmp or_is ox_is (e_var (pv 4)) e_non (nomark _)) (w_or1 (t_cmp or_lt ox_cmp (e_add (e_idxV (pv 2) (e_var (pv 5))) (e_varF (pv 6))) (e_idxV (pv 4) e_int) (nomark _)))))))) (b_one (s_set (i := 4) (by decide) sc_best_begins.nd rfl (by first | exact Or.inl rfl | exact Or.inr rfl) (e_tup (a_cons (e_add (e_idxV (pv 2) (e_var (pv 5))) (e_varF (pv 6))) (a_cons (e_varF (pv 5)) a_nil))))) b_nil) (b_one (s_set (i := 5) (by decide) sc_best_begins.nd rfl (by first | exact Or.inl rfl | exact Or.inr rfl) (e_sub (e_var (pv 5)) e_int))))))) (b_one (s_ret (e_varM (pv 4)))))))
theorem ok_least_ragged (T : Txt K mg) : FnOk P w K mg base (L2.CX P w) 4 T.a_least_ragged T.fd_least_ragged ["words", "width"] (SpD K mg 2 d_least_ragged) :=
  fn_ok (N := ["words", "width", "best", "begins", "end", "setting", "number", "begin"]) (ps := ["words", "width"]) (A := [2, 3, 4, 5, 6, 7]) (body := b_least_ragged) T.F_least_ragged sc_least_ragged fun cdv Ar outer s H E hr tk po => (b_cons (s_set (i := 2) (by decide) sc_least_ragged.nd rfl (by first | exact Or.inl rfl | exact Or.inr rfl) (e_lst (a_cons e_int a_nil))) (b_cons (s_set (i := 3) (by decide) sc_least_ragged.nd rfl (by first | exact Or.inl rfl | exact Or.inr rfl) (e_lst (a_cons e_int a_nil))) (b_cons (s_for po rfl (i_range2 (by rfl) T.z_range (a_cons e_int (a_cons (e_add (e_callB cr_len cx_len (by rfl) T.z_len boot_len (a_cons (e_var (pv 0)) a_nil)) e_int) a_nil))) (g_name (pg_name (i := 4) sc_least_ragged.nd rfl (by first | exact Or.inl rfl | exact Or.inr rfl)) (by decide)) (b_cons (s_asg (e_call (ok_best_begins T) tk (hr.mono (by decide)) (by rfl) T.m_best_begins T.F_best_begins.kp T.b_best_begins (x_var (pv 0) (x_var (pv 1) (x_var (pv 2) (x_var (pv 4) x_nil))))) (g_tup rfl (gs_cons (g_name (pg_name (i := 6) sc_least_ragged.nd rfl (by first | exact Or.inl rfl | exact Or.inr rfl)) (by decide)) (gs_cons (g_name (pg_name (i := 7) sc_least_ragged.nd rfl (by first | exact Or.inl rfl | exact Or.inr rfl)) (by decide)) gs_nil)))) (b_cons (s_append (pv 2) (e_varF (pv 6))) (b_one (s_append (pv 3) (e_varF (pv 7))))))) (b_cons (s_set (i := 5) (by decide) sc_least_ragged.nd rfl (by first | exact Or.inl rfl | exact Or.inr rfl) (e_lst a_nil)) (b_cons (s_set (i := 4) (by decide) sc_least_ragged.nd rfl (by first | exact Or.inl rfl | exact Or.inr rfl) (e_callB cr_len cx_len (by rfl) T.z_len boot_len (a_cons (e_var (pv 0)) a_nil))) (b_cons (s_while po (t_cmp or_gt ox_cmp (e_var (pv 4)) e_int (nomark _)) (b_cons (s_append (pv 5) (e_sub (e_var (pv 4)) (e_idxV (pv 3) (e_var (pv 4))))) (b_one (s_set (i := 4) (by decide) sc_least_ragged.nd rfl (by first | exact Or.inl rfl | exact Or.inr rfl) (e_idxV (pv 3) (e_var (pv 4))))))) (b_one (s_ret (e_tup (a_cons (e_rev (e_varF (pv 5))) (a_cons (e_idxV (pv 2) (e_neg e_int)) (a_cons (e_varF (pv 2)) a_nil))))))))))))
theorem ok_written (T : Txt K mg) : FnOk P w K mg base (L2.CX P w) 1 T.a_written T.fd_written ["words", "setting"] (SpD K mg 2 d_written) :=
  fn_ok (N := ["words", "setting", "found", "begin", "count"]) (ps := ["words", "setting"]) (A := [2, 3, 4]) (body := b_written) T.F_written sc_written fun cdv Ar outer s H E hr tk po => (b_cons (s_set (i := 2) (by decide) sc_written.nd rfl (by first | exact Or.inl rfl | exact Or.inr rfl) (e_lst a_nil)) (b_cons (s_set (i := 3) (by decide) sc_written.nd rfl (by first | exact Or.inl rfl | exact Or.inr rfl) e_int) (b_cons (s_for po rfl (i_any (e_varF (pv 1))) (g_name (pg_name (i := 4) sc_written.nd rfl (by first | exact Or.inl rfl | exact Or.inr rfl)) (by decide)) (b_cons (s_append (pv 2) (e_join e_str (a_cons (e_sl (e_varF (pv 0)) (o_some (e_var (pv 3))) (o_some (e_add (e_varF (pv 3)) (e_varF (pv 4))))) a_nil))) (b_one (s_set (i := 3) (by decide) sc_written.nd rfl (by first | exact Or.inl rfl | exact Or.inr rfl) (e_add (e_varF (pv 3)) (e_varF (pv 4))))))) (b_one (s_ret (e_varM (pv 2)))))))
theorem ok_judge_setting (T : Txt K mg) : FnOk P w K mg base (L2.CX P w) 4 T.a_judge_setting T.fd_judge_setting ["words", "width", "setting", "number", "potentials"] (SpD K mg 5 d_judge_setting) :=
  fn_ok (N := ["words", "width", "setting", "number", "potentials", "begin", "end", "over"]) (ps := ["words", "width", "setting", "number", "potentials"]) (A := [5, 6, 7]) (body := b_judge_setting) T.F_judge_setting sc_judge_setting fun cdv Ar outer s H E hr tk po => (b_cons (s_if (t_w (w_or (t_cmp (or_ne hr.units) ox_ne (e_call (ok_ragged T) tk (hr.mono (by decide)) (by rfl) T.m_ragged T.F_ragged.kp T.b_ragged (x_var (pv 0) (x_var (pv 1) (x_var (pv 2) x_nil)))) (e_var (pv 3)) (nomark _)) (w_or1 (t_cmp (or_ne hr.units) ox_ne (e_callB cr_len cx_len (by rfl) T.z_len boot_len (a_cons (e_var (pv 4)) a_nil)) (e_add (e_callB cr_len cx_len (by rfl) T.z_len boot_len (a_cons (e_var (pv 0)) a_nil)) e_int) (nomark _))))) (b_one (s_ret e_bl)) b_nil) (b_cons (s_if (t_w (w_or (t_cmp (or_ne hr.units) ox_ne (e_idxV (pv 4) e_int) e_int (nomark _)) (w_or1 (t_cmp (or_ne hr.units) ox_ne (e_idxV (pv 4) (e_neg e_int)) (e_var (pv 3)) (nomark _))))) (b_one (s_ret e_bl)) b_nil) (b_cons (s_for po rfl (i_range (by rfl) T.z_range (a_cons (e_callB cr_len cx_len (by rfl) T.z_len boot_len (a_cons (e_var (pv 0)) a_nil)) a_nil)) (g_name (pg_name (i := 5) sc_judge_setting.nd rfl (by first | exact Or.inl rfl | exact Or.inr rfl)) (by decide)) (b_one (s_for po rfl (i_range2 (by rfl) T.z_range (a_cons (e_add (e_varF (pv 5)) e_int) (a_cons (e_add (e_callB cr_len cx_len (by rfl) T.z_len boot_len (a_cons (e_var (pv 0)) a_nil)) e_int) a_nil))) (g_name (pg_name (i := 6) sc_judge_setting.nd rfl (by first | exact Or.inl rfl | exact Or.inr rfl)) (by decide)) (b_cons (s_set (i := 7) (by decide) sc_judge_setting.nd rfl (by first | exact Or.inl rfl | exact Or.inr rfl) (e_call (ok_left_over T) tk (hr.mono (by decide)) (by rfl) T.m_left_over T.F_left_over.kp T.b_left_over (x_var (pv 0) (x_var (pv 1) (x_var (pv 5) (x_var (pv 6) x_nil)))))) (b_cons (s_if (t_cmp or_is ox_is (e_var (pv 7)) e_non (nomark _)) (b_one s_break) b_nil) (b_one (s_if (t_cmp or_gt ox_cmp (e_idxV (pv 4) (e_var (pv 6))) (e_add (e_idxV (pv 4) (e_var (pv 5))) (e_varF (pv 7))) (nomark _)) (b_one (s_ret e_bl)) b_nil))))))) (b_one (s_ret e_bl)))))
theorem ok__law_mixed (T : Txt K mg) : FnOk P w K mg base (L2.CX P w) 1 T.a__law_mixed T.fd__law_mixed ["number", "place"] (SpD K mg 2 d__law_mixed) :=
  fn_ok (N := ["number", "place", "first", "second", "third"]) (ps := ["number", "place"]) (A := [2, 3, 4]) (body := b__law_mixed) T.F__law_mixed sc__law_mixed fun cdv Ar outer s H E hr tk po => (b_cons (s_set (i := 2) (by decide) sc__law_mixed.nd rfl (by first | exact Or.inl rfl | exact Or.inr rfl) (e_mod (e_callT call_int1 cx_int1 (by rfl) T.z_int (by decide +kernel) (a_cons (e_add (e_add (e_mul (e_varF (pv 0)) e_int) (e_mul (e_varF (pv 1)) e_int)) e_int) a_nil)) e_int)) (b_cons (s_set (i := 3) (by decide) sc__law_mixed.nd rfl (by first | exact Or.inl rfl | exact Or.inr rfl) (e_mod (e_callT call_int1 cx_int1 (by rfl) T.z_int (by decide +kernel) (a_cons (e_add (e_add (e_mul (e_varF (pv 2)) (e_varF (pv 2))) (e_mul e_int (e_varF (pv 2)))) (e_varF (pv 1))) a_nil)) e_int)) (b_cons (s_set (i := 4) (by decide) sc__law_mixed.nd rfl (by first | exact Or.inl rfl | exact Or.inr rfl) (e_mod (e_callT call_int1 cx_int1 (by rfl) T.z_int (by decide +kernel) (a_cons (e_add (e_mul (e_varF (pv 3)) (e_varF (pv 3))) (e_varF (pv 2))) a_nil)) e_int)) (b_one (s_ret (e_add (e_mul (e_varF (pv 3)) e_int) (e_varF (pv 4))))))))
theorem ok__law_rest (T : Txt K mg) : FnOk P w K mg base (L2.CX P w) 2 T.a__law_rest T.fd__law_rest ["script", "place", "fills"] (SpD K mg 3 d__law_rest) :=
  fn_ok (N := ["script", "place", "fills", "number"]) (ps := ["script", "place", "fills"]) (A := [3]) (body := b__law_rest) T.F__law_rest sc__law_rest fun cdv Ar outer s H E hr tk po => (b_cons (s_set (i := 3) (by decide) sc__law_rest.nd rfl (by first | exact Or.inl rfl | exact Or.inr rfl) e_int) (b_cons (s_if (t_cmp or_gt ox_cmp (e_callB cr_len cx_len (by rfl) T.z_len boot_len (a_cons (e_var (pv 0)) a_nil)) e_int (nomark _)) (b_one (s_set (i := 3) (by decide) sc__law_rest.nd rfl (by first | exact Or.inl rfl | exact Or.inr rfl) (e_callT call_int1 cx_int1 (by rfl) T.z_int (by decide +kernel) (a_cons (e_idxV (pv 0) (e_mod (e_callT call_int1 cx_int1 (by rfl) T.z_int (by decide +kernel) (a_cons (e_var (pv 1)) a_nil)) (e_callB cr_len cx_len (by rfl) T.z_len boot_len (a_cons (e_var (pv 0)) a_nil)))) a_nil)))) b_nil) (b_cons (s_if (t_cmp or_lt ox_cmp (e_var (pv 3)) e_int (nomark _)) (b_one (s_set (i := 3) (by decide) sc__law_rest.nd rfl (by first | exact Or.inl rfl | exact Or.inr rfl) (e_sub e_int (e_mul e_int (e_varF (pv 3)))))) b_nil) (b_cons (s_if (t_w (w_and (t_cmp (or_eq hr.units) ox_eq (e_var (pv 2)) e_int (nomark _)) (w_and (t_cmp or_lt ox_cmp (e_var (pv 1)) (e_callB cr_len cx_len (by rfl) T.z_len boot_len (a_cons (e_var (pv 0)) a_nil)) (nomark _)) (w_and1 (t_cmp or_ge ox_cmp (e_var (pv 3)) (e_pow e_int e_int) (nomark _)))))) (b_one (s_ret (e_sub (e_var (pv 3)) (e_pow e_int e_int)))) b_nil) (b_one (s_ret (e_call (ok__law_mixed T) tk (hr.mono (by decide)) (by rfl) T.m__law_mixed T.F__law_mixed.kp T.b__law_mixed (x_cons (e_add (e_varF (pv 3)) (e_mul (e_varF (pv 2)) e_int)) (x_var (pv 1) x_nil)))))))))
theorem ok__law_pool (T : Txt K mg) : FnOk P w K mg base (L2.CX P w) 3 T.a__law_pool T.fd__law_pool ["script"] (SpD K mg 1 d__law_pool) :=
  fn_ok (N := ["script"]) (ps := ["script"]) (A := []) (body := b__law_pool) T.F__law_pool sc__law_pool fun cdv Ar outer s H E hr tk po => (b_one (s_ret (e_lst (a_cons (e_varF (pv 0)) (a_cons e_int (a_cons (e_call (ok__law_rest T) tk (hr.mono (by decide)) (by rfl) T.m__law_rest T.F__law_rest.kp T.b__law_rest (x_var (pv 0) (x_cons e_int (x_cons e_int x_nil)))) (a_cons e_int a_nil)))))))
theorem ok__law_next (T : Txt K mg) : FnOk P w K mg base (L2.CX P w) 3 T.a__law_next T.fd__law_next ["pool"] (SpD K mg 1 d__law_next) :=
  fn_ok (N := ["pool"]) (ps := ["pool"]) (A := []) (body := b__law_next) T.F__law_next sc__law_next fun cdv Ar outer s H E hr tk po => (b_cons (s_setItem (pv 0) e_int (e_add (e_idxV (pv 0) e_int) e_int)) (b_cons (s_setItem (pv 0) e_int (e_call (ok__law_rest T) tk (hr.mono (by decide)) (by rfl) T.m__law_rest T.F__law_rest.kp T.b__law_rest (x_cons (e_idxV (pv 0) e_int) (x_cons (e_idxV (pv 0) e_int) (x_cons e_int x_nil))))) (b_one (s_setItem (pv 0) e_int e_int))))
theorem ok__law_draw (T : Txt K mg) : FnOk P w K mg base (L2.CX P w) 3 T.a__law_draw T.fd__law_draw ["pool", "limit"] (SpD K mg 2 d__law_draw) :=
  fn_ok (N := ["pool", "limit", "value"]) (ps := ["pool", "limit"]) (A := [2]) (body := b__law_draw) T.F__law_draw sc__law_draw fun cdv Ar outer s H E hr tk po => (b_cons (s_if (t_cmp or_le ox_cmp (e_idxV (pv 0) e_int) e_int (nomark _)) (b_cons (s_setItem (pv 0) e_int (e_add (e_idxV (pv 0) e_int) e_int)) (b_one (s_setItem (pv 0) e_int (e_call (ok__law_rest T) tk (hr.mono (by decide)) (by rfl) T.m__law_rest T.F__law_rest.kp T.b__law_rest (x_cons (e_idxV (pv 0) e_int) (x_cons (e_idxV (pv 0) e_int) (x_cons (e_idxV (pv 0) e_int) x_nil))))))) b_nil) (b_cons (s_set (i := 2) (by decide) sc__law_draw.nd rfl (by first | exact Or.inl rfl | exact Or.inr rfl) (e_mod (e_callT call_int1 cx_int1 (by rfl) T.z_int (by decide +kernel) (a_cons (e_idxV (pv 0) e_int) a_nil)) (e_var (pv 1)))) (b_cons (s_setItem (pv 0) e_int (e_fdiv (e_callT call_int1 cx_int1 (by rfl) T.z_int (by decide +kernel) (a_cons (e_idxV (pv 0) e_int) a_nil)) (e_var (pv 1)))) (b_one (s_ret (e_varM (pv 2)))))))
theorem ok__law_pick (T : Txt K mg) : FnOk P w K mg base (L2.CX P w) 4 T.a__law_pick T.fd__law_pick ["pool", "options"] (SpD K mg 2 d__law_pick) :=
  fn_ok (N := ["pool", "options"]) (ps := ["pool", "options"]) (A := []) (body := b__law_pick) T.F__law_pick sc__law_pick fun cdv Ar outer s H E hr tk po => (b_one (s_ret (e_idx (e_varF (pv 1)) (e_call (ok__law_draw T) tk (hr.mono (by decide)) (by rfl) T.m__law_draw T.F__law_draw.kp T.b__law_draw (x_var (pv 0) (x_cons (e_callB cr_len cx_len (by rfl) T.z_len boot_len (a_cons (e_var (pv 1)) a_nil)) x_nil))))))
theorem ok__law_same (T : Txt K mg) : ∀ k : Nat, FnOk P w K mg base (L2.CX P w) (0 + k) T.a__law_same T.fd__law_same ["answer", "due"] (SpD K mg 2 (d__law_same k))
  | 0 => fn_none
  | k + 1 => fn_ok (N := ["answer", "due", "key", "k"]) (ps := ["answer", "due"]) (A := []) (body := b__law_same (d__law_same k)) T.F__law_same sc__law_same fun cdv Ar outer s H E hr tk po => by
    have IH := ok__law_same T k
    exact (b_cons (s_if (t_truth (e_callB call_isi cx_isi (by rfl) T.z_isinstance (by decide +kernel) (a_cons (e_var (pv 1)) (a_cons (e_ty (by rfl) T.z_dict (by decide +kernel)) a_nil)))) (b_cons (s_if (t_w (w_or (t_not (t_truth (e_callB call_isi cx_isi (by rfl) T.z_isinstance (by decide +kernel) (a_cons (e_var (pv 0)) (a_cons (e_ty (by rfl) T.z_dict (by decide +kernel)) a_nil))))) (w_or1 (t_cmp (or_ne hr.units) ox_ne (e_callB cr_len cx_len (by rfl) T.z_len boot_len (a_cons (e_var (pv 0)) a_nil)) (e_callB cr_len cx_len (by rfl) T.z_len boot_len (a_cons (e_var (pv 1)) a_nil)) (nomark _))))) (b_one (s_ret e_bl)) b_nil) (b_one (s_ret (e_callB (cr_all rfl) cx_all (by rfl) T.z_all (by decide +kernel) (a_cons (e_comp (own := [("key", 2)]) rfl sc__law_same.nd (i_any (e_varF (pv 1))) (blkOk_by (own := [("key", 2)]) (by kernel_rfl)) (fun _ _ _ _ _ => (g_name (pg_name (i := 2) sc__law_same.nd rfl (by first | exact Or.inl rfl | exact Or.inr rfl)) (by decide))) (fun _ _ _ _ _ => ts_nil) (fun _ _ _ _ _ => (e_andV (e_cmp (or_in (room65 hr)) ox_in (e_var (pv 2)) (e_var (pv 0)) (by rfl)) (e_and1 (e_call IH takes0 hr (by rfl) T.m__law_same T.F__law_same.kp T.b__law_same (x_cons (e_idx (e_varF (pv 0)) (e_var (pv 2))) (x_cons (e_idx (e_varF (pv 1)) (e_var (pv 2))) x_nil))))))) a_nil))))) b_nil) (b_cons (s_if (t_w (w_or (t_truth (e_callB call_isi cx_isi (by rfl) T.z_isinstance (by decide +kernel) (a_cons (e_var (pv 1)) (a_cons (e_ty (by rfl) T.z_list (by decide +kernel)) a_nil)))) (w_or1 (t_truth (e_callB call_isi cx_isi (by rfl) T.z_isinstance (by decide +kernel) (a_cons (e_var (pv 1)) (a_cons (e_ty (by rfl) T.z_tuple (by decide +kernel)) a_nil))))))) (b_cons (s_if (t_w (w_or (t_cmp (or_ne hr.units) ox_ne (e_callB call_isi cx_isi (by rfl) T.z_isinstance (by decide +kernel) (a_cons (e_var (pv 1)) (a_cons (e_ty (by rfl) T.z_list (by decide +kernel)) a_nil))) (e_callB call_isi cx_isi (by rfl) T.z_isinstance (by decide +kernel) (a_cons (e_var (pv 0)) (a_cons (e_ty (by rfl) T.z_list (by decide +kernel)) a_nil))) (nomark _)) (w_or1 (t_cmp (or_ne hr.units) ox_ne (e_callB call_isi cx_isi (by rfl) T.z_isinstance (by decide +kernel) (a_cons (e_var (pv 1)) (a_cons (e_ty (by rfl) T.z_tuple (by decide +kernel)) a_nil))) (e_callB call_isi cx_isi (by rfl) T.z_isinstance (by decide +kernel) (a_cons (e_var (pv 0)) (a_cons (e_ty (by rfl) T.z_tuple (by decide +kernel)) a_nil))) (nomark _))))) (b_one (s_ret e_bl)) b_nil) (b_one (s_ret (e_andV (e_cmp (or_eq hr.units) ox_eq (e_callB cr_len cx_len (by rfl) T.z_len boot_len (a_cons (e_var (pv 0)) a_nil)) (e_callB cr_len cx_len (by rfl) T.z_len boot_len (a_cons (e_var (pv 1)) a_nil)) (nomark _)) (e_and1 (e_callB (cr_all rfl) cx_all (by rfl) T.z_all (by decide +kernel) (a_cons (e_comp (own := [("k", 3)]) rfl sc__law_same.nd (i_range (by rfl) T.z_range (a_cons (e_callB cr_len cx_len (by rfl) T.z_len boot_len (a_cons (e_var (pv 1)) a_nil)) a_nil)) (blkOk_by (own := [("k", 3)]) (by kernel_rfl)) (fun _ _ _ _ _ => (g_name (pg_name (i := 3) sc__law_same.nd rfl (by first | exact Or.inl rfl | exact Or.inr rfl)) (by decide))) (fun _ _ _ _ _ => ts_nil) (fun _ _ _ _ _ => (e_call IH takes0 hr (by rfl) T.m__law_same T.F__law_same.kp T.b__law_same (x_cons (e_idx (e_varF (pv 0)) (e_var (pv 3))) (x_cons (e_idx (e_varF (pv 1)) (e_var (pv 3))) x_nil))))) a_nil))))))) b_nil) (b_cons (s_if (t_truth (e_callB call_isi cx_isi (by rfl) T.z_isinstance (by decide +kernel) (a_cons (e_var (pv 1)) (a_cons (e_ty (by rfl) T.z_str (by decide +kernel)) a_nil)))) (b_one (s_ret (e_andV (e_callB call_isi cx_isi (by rfl) T.z_isinstance (by decide +kernel) (a_cons (e_var (pv 0)) (a_cons (e_ty (by rfl) T.z_str (by decide +kernel)) a_nil))) (e_and1 (e_cmp (or_eq hr.units) ox_eq (e_var (pv 0)) (e_var (pv 1)) (nomark _)))))) b_nil) (b_cons (s_if (t_w (w_or (t_cmp or_is ox_is (e_var (pv 1)) e_non (nomark _)) (w_or (t_cmp or_is ox_is (e_var (pv 1)) e_bl (nomark _)) (w_or1 (t_cmp or_is ox_is (e_var (pv 1)) e_bl (nomark _)))))) (b_one (s_ret (e_orV (e_andV (e_cmp or_is ox_is (e_var (pv 1)) e_non (nomark _)) (e_and1 (e_cmp or_is ox_is (e_var (pv 0)) e_non (nomark _)))) (e_orV (e_andV (e_cmp or_is ox_is (e_var (pv 1)) e_bl (nomark _)) (e_and1 (e_cmp or_is ox_is (e_var (pv 0)) e_bl (nomark _)))) (e_and1 (e_andV (e_cmp or_is ox_is (e_var (pv 1)) e_bl (nomark _)) (e_and1 (e_cmp or_is ox_is (e_var (pv 0)) e_bl (nomark _))))))))) b_nil) (b_one (s_ret (e_andV (e_callB call_isi cx_isi (by rfl) T.z_isinstance (by decide +kernel) (a_cons (e_var (pv 0)) (a_cons (e_ty (by rfl) T.z_int (by decide +kernel)) a_nil))) (e_andV (e_notV (e_callB call_isi cx_isi (by rfl) T.z_isinstance (by decide +kernel) (a_cons (e_var (pv 0)) (a_cons (e_ty (by rfl) T.z_bool (by decide +kernel)) a_nil)))) (e_and1 (e_cmp (or_eq hr.units) ox_eq (e_var (pv 0)) (e_var (pv 1)) (nomark _)))))))))))
theorem ok__law_length (T : Txt K mg) : FnOk P w K mg base (L2.CX P w) 1 T.a__law_length T.fd__law_length ["words"] (SpD K mg 1 d__law_length) :=
  fn_ok (N := ["words"]) (ps := ["words"]) (A := []) (body := b__law_length) T.F__law_length sc__law_length fun cdv Ar outer s H E hr tk po => (b_one (s_ret (e_callB cr_len cx_len (by rfl) T.z_len boot_len (a_cons (e_join e_str (a_cons (e_var (pv 0)) a_nil)) a_nil))))
theorem ok__law_ragged (T : Txt K mg) : FnOk P w K mg base (L2.CX P w) 2 T.a__law_ragged T.fd__law_ragged ["words", "width", "setting"] (SpD K mg 3 d__law_ragged) :=
  fn_ok (N := ["words", "width", "setting", "total", "at", "k", "length"]) (ps := ["words", "width", "setting"]) (A := [3, 4, 5, 6]) (body := b__law_ragged) T.F__law_ragged sc__law_ragged fun cdv Ar outer s H E hr tk po => (b_cons (s_if (t_w (w_or (t_cmp (or_ne hr.units) ox_ne (e_callB (cr_sum rfl) cx_sum (by rfl) T.z_sum (by decide +kernel) (a_cons (e_var (pv 2)) a_nil)) (e_callB cr_len cx_len (by rfl) T.z_len boot_len (a_cons (e_var (pv 0)) a_nil)) (nomark _)) (w_or1 (t_cmp or_lt ox_cmp (e_callB (cr_minA rfl) cx_min (by rfl) T.z_min (by decide +kernel) (a_cons (e_add (e_varF (pv 2)) (e_lst (a_cons e_int a_nil))) a_nil)) e_int (nomark _))))) (b_one (s_ret e_non)) b_nil) (b_cons (s_set (i := 3) (by decide) sc__law_ragged.nd rfl (by first | exact Or.inl rfl | exact Or.inr rfl) e_int) (b_cons (s_set (i := 4) (by decide) sc__law_ragged.nd rfl (by first | exact Or.inl rfl | exact Or.inr rfl) e_int) (b_cons (s_for po rfl (i_range (by rfl) T.z_range (a_cons (e_callB cr_len cx_len (by rfl) T.z_len boot_len (a_cons (e_var (pv 2)) a_nil)) a_nil)) (g_name (pg_name (i := 5) sc__law_ragged.nd rfl (by first | exact Or.inl rfl | exact Or.inr rfl)) (by decide)) (b_cons (s_set (i := 6) (by decide) sc__law_ragged.nd rfl (by first | exact Or.inl rfl | exact Or.inr rfl) (e_call (ok__law_length T) tk (hr.mono (by decide)) (by rfl) T.m__law_length T.F__law_length.kp T.b__law_length (x_cons (e_sl (e_varF (pv 0)) (o_some (e_var (pv 4))) (o_some (e_add (e_varF (pv 4)) (e_idxV (pv 2) (e_var (pv 5)))))) x_nil))) (b_cons (s_if (t_cmp or_gt ox_cmp (e_var (pv 6)) (e_var (pv 1)) (nomark _)) (b_one (s_ret e_non)) b_nil) (b_cons (s_if (t_cmp or_lt ox_cmp (e_add (e_varF (pv 5)) e_int) (e_callB cr_len cx_len (by rfl) T.z_len boot_len (a_cons (e_var (pv 2)) a_nil)) (nomark _)) (b_one (s_set (i := 3) (by decide) sc__law_ragged.nd rfl (by first | exact Or.inl rfl | exact Or.inr rfl) (e_add (e_varF (pv 3)) (e_mul (e_sub (e_var (pv 1)) (e_var (pv 6))) (e_sub (e_var (pv 1)) (e_var (pv 6))))))) b_nil) (b_one (s_set (i := 4) (by decide) sc__law_ragged.nd rfl (by first | exact Or.inl rfl | exact Or.inr rfl) (e_add (e_varF (pv 4)) (e_idxV (pv 2) (e_var (pv 5)))))))))) (b_one (s_ret (e_varM (pv 3))))))))
theorem ok__law_settings (T : Txt K mg) : ∀ k : Nat, FnOk P w K mg base (L2.CX P w) (1 + k) T.a__law_settings T.fd__law_settings ["words", "width"] (SpD K mg 2 (d__law_settings k))
  | 0 => fn_none
  | k + 1 => fn_ok (N := ["words", "width", "found", "count", "rest"]) (ps := ["words", "width"]) (A := [2, 3]) (body := b__law_settings (d__law_settings k)) T.F__law_settings sc__law_settings fun cdv Ar outer s H E hr tk po => by
    have IH := ok__law_settings T k
    exact (b_cons (s_if (t_cmp (or_eq hr.units) ox_eq (e_var (pv 0)) (e_lst a_nil) (nomark _)) (b_one (s_ret (e_lst (a_cons (e_lst a_nil) a_nil)))) b_nil) (b_cons (s_set (i := 2) (by decide) sc__law_settings.nd rfl (by first | exact Or.inl rfl | exact Or.inr rfl) (e_lst a_nil)) (b_cons (s_for po rfl (i_range2 (by rfl) T.z_range (a_cons e_int (a_cons (e_add (e_callB cr_len cx_len (by rfl) T.z_len boot_len (a_cons (e_var (pv 0)) a_nil)) e_int) a_nil))) (g_name (pg_name (i := 3) sc__law_settings.nd rfl (by first | exact Or.inl rfl | exact Or.inr rfl)) (by decide)) (b_one (s_if (t_cmp or_le ox_cmp (e_call (ok__law_length T) tk (hr.mono (Nat.le_trans (show 1 ≤ 1 by decide) (Nat.le_add_right _ _))) (by rfl) T.m__law_length T.F__law_length.kp T.b__law_length (x_cons (e_sl (e_varF (pv 0)) o_none (o_some (e_var (pv 3)))) x_nil)) (e_var (pv 1)) (nomark _)) (b_one (s_set (i := 2) (by decide) sc__law_settings.nd rfl (by first | exact Or.inl rfl | exact Or.inr rfl) (e_add (e_varF (pv 2)) (e_comp (own := [("rest", 4)]) rfl sc__law_settings.nd (i_any (e_call IH tk hr (by rfl) T.m__law_settings T.F__law_settings.kp T.b__law_settings (x_cons (e_sl (e_varF (pv 0)) (o_some (e_var (pv 3))) o_none) (x_var (pv 1) x_nil)))) (blkOk_by (own := [("rest", 4)]) (by kernel_rfl)) (fun _ _ _ _ _ => (g_name (pg_name (i := 4) sc__law_settings.nd rfl (by first | exact Or.inl rfl | exact Or.inr rfl)) (by decide))) (fun _ _ _ _ _ => ts_nil) (fun _ _ _ _ _ => (e_add (e_lst (a_cons (e_varF (pv 3)) a_nil)) (e_varF (pv 4)))))))) b_nil))) (b_one (s_ret (e_varM (pv 2)))))))
theorem ok__law_is_int (T : Txt K mg) : FnOk P w K mg base (L2.CX P w) 1 T.a__law_is_int T.fd__law_is_int ["value"] (SpD K mg 1 d__law_is_int) :=
  fn_ok (N := ["value"]) (ps := ["value"]) (A := []) (body := b__law_is_int) T.F__law_is_int sc__law_is_int fun cdv Ar outer s H E hr tk po => (b_one (s_ret (e_andV (e_callB call_isi cx_isi (by rfl) T.z_isinstance (by decide +kernel) (a_cons (e_var (pv 0)) (a_cons (e_ty (by rfl) T.z_int (by decide +kernel)) a_nil))) (e_and1 (e_notV (e_callB call_isi cx_isi (by rfl) T.z_isinstance (by decide +kernel) (a_cons (e_var (pv 0)) (a_cons (e_ty (by rfl) T.z_bool (by decide +kernel)) a_nil))))))))
theorem ok__law_potentials_right (T : Txt K mg) : FnOk P w K mg base (L2.CX P w) 2 T.a__law_potentials_right T.fd__law_potentials_right ["words", "width", "number", "potentials"] (SpD K mg 4 d__law_potentials_right) :=
  fn_ok (N := ["words", "width", "number", "potentials", "low", "high", "length", "over", "one"]) (ps := ["words", "width", "number", "potentials"]) (A := [4, 5, 6, 7]) (body := b__law_potentials_right) T.F__law_potentials_right sc__law_potentials_right fun cdv Ar outer s H E hr tk po => (b_cons (s_if (t_w (w_or (t_not (t_truth (e_callB call_isi cx_isi (by rfl) T.z_isinstance (by decide +kernel) (a_cons (e_var (pv 3)) (a_cons (e_ty (by rfl) T.z_list (by decide +kernel)) a_nil))))) (w_or (t_cmp (or_ne hr.units) ox_ne (e_callB cr_len cx_len (by rfl) T.z_len boot_len (a_cons (e_var (pv 3)) a_nil)) (e_add (e_callB cr_len cx_len (by rfl) T.z_len boot_len (a_cons (e_var (pv 0)) a_nil)) e_int) (nomark _)) (w_or1 (t_not (t_truth (e_callB (cr_all rfl) cx_all (by rfl) T.z_all (by decide +kernel) (a_cons (e_comp (own := [("one", 8)]) rfl sc__law_potentials_right.nd (i_any (e_varF (pv 3))) (blkOk_by (own := [("one", 8)]) (by kernel_rfl)) (fun _ _ _ _ _ => (g_name (pg_name (i := 8) sc__law_potentials_right.nd rfl (by first | exact Or.inl rfl | exact Or.inr rfl)) (by decide))) (fun _ _ _ _ _ => ts_nil) (fun _ _ _ _ _ => (e_call (ok__law_is_int T) takes0 (hr.mono (by decide)) (by rfl) T.m__law_is_int T.F__law_is_int.kp T.b__law_is_int (x_var (pv 8) x_nil)))) a_nil)))))))) (b_one (s_ret e_bl)) b_nil) (b_cons (s_if (t_w (w_or (t_cmp (or_ne hr.units) ox_ne (e_idxV (pv 3) e_int) e_int (nomark _)) (w_or1 (t_cmp (or_ne hr.units) ox_ne (e_idxV (pv 3) (e_neg e_int)) (e_var (pv 2)) (nomark _))))) (b_one (s_ret e_bl)) b_nil) (b_cons (s_for po rfl (i_range (by rfl) T.z_range (a_cons (e_callB cr_len cx_len (by rfl) T.z_len boot_len (a_cons (e_var (pv 0)) a_nil)) a_nil)) (g_name (pg_name (i := 4) sc__law_potentials_right.nd rfl (by first | exact Or.inl rfl | exact Or.inr rfl)) (by decide)) (b_one (s_for po rfl (i_range2 (by rfl) T.z_range (a_cons (e_add (e_varF (pv 4)) e_int) (a_cons (e_add (e_callB cr_len cx_len (by rfl) T.z_len boot_len (a_cons (e_var (pv 0)) a_nil)) e_int) a_nil))) (g_name (pg_name (i := 5) sc__law_potentials_right.nd rfl (by first | exact Or.inl rfl | exact Or.inr rfl)) (by decide)) (b_cons (s_set (i := 6) (by decide) sc__law_potentials_right.nd rfl (by first | exact Or.inl rfl | exact Or.inr rfl) (e_call (ok__law_length T) tk (hr.mono (by decide)) (by rfl) T.m__law_length T.F__law_length.kp T.b__law_length (x_cons (e_sl (e_varF (pv 0)) (o_some (e_var (pv 4))) (o_some (e_var (pv 5)))) x_nil))) (b_one (s_if (t_cmp or_le ox_cmp (e_var (pv 6)) (e_var (pv 1)) (nomark _)) (b_cons (s_set (i := 7) (by decide) sc__law_potentials_right.nd rfl (by first | exact Or.inl rfl | exact Or.inr rfl) (e_if (t_cmp (or_eq hr.units) ox_eq (e_var (pv 5)) (e_callB cr_len cx_len (by rfl) T.z_len boot_len (a_cons (e_var (pv 0)) a_nil)) (nomark _)) e_int (e_mul (e_sub (e_var (pv 1)) (e_var (pv 6))) (e_sub (e_var (pv 1)) (e_var (pv 6)))))) (b_one (s_if (t_cmp or_gt ox_cmp (e_idxV (pv 3) (e_var (pv 5))) (e_add (e_idxV (pv 3) (e_var (pv 4))) (e_varF (pv 7))) (nomark _)) (b_one (s_ret e_bl)) b_nil))) b_nil)))))) (b_one (s_ret e_bl)))))
theorem ok_filled (T : Txt K mg) : FnOk P w K mg base (L2.CX P w) 2 T.a_filled T.fd_filled ["words", "width"] (SpD K mg 2 d_filled) :=
  fn_ok (N := ["words", "width", "setting", "begin", "end"]) (ps := ["words", "width"]) (A := [2, 3, 4]) (body := b_filled) T.F_filled sc_filled fun cdv Ar outer s H E hr tk po => (b_cons (s_set (i := 2) (by decide) sc_filled.nd rfl (by first | exact Or.inl rfl | exact Or.inr rfl) (e_lst a_nil)) (b_cons (s_set (i := 3) (by decide) sc_filled.nd rfl (by first | exact Or.inl rfl | exact Or.inr rfl) e_int) (b_cons (s_while po (t_cmp or_lt ox_cmp (e_var (pv 3)) (e_callB cr_len cx_len (by rfl) T.z_len boot_len (a_cons (e_var (pv 0)) a_nil)) (nomark _)) (b_cons (s_set (i := 4) (by decide) sc_filled.nd rfl (by first | exact Or.inl rfl | exact Or.inr rfl) (e_add (e_varF (pv 3)) e_int)) (b_cons (s_while po (t_w (w_and (t_cmp or_lt ox_cmp (e_var (pv 4)) (e_callB cr_len cx_len (by rfl) T.z_len boot_len (a_cons (e_var (pv 0)) a_nil)) (nomark _)) (w_and1 (t_cmp or_le ox_cmp (e_call (ok_length_of T) tk (hr.mono (by decide)) (by rfl) T.m_length_of T.F_length_of.kp T.b_length_of (x_cons (e_sl (e_varF (pv 0)) (o_some (e_var (pv 3))) (o_some (e_add (e_varF (pv 4)) e_int))) x_nil)) (e_var (pv 1)) (nomark _))))) (b_one (s_set (i := 4) (by decide) sc_filled.nd rfl (by first | exact Or.inl rfl | exact Or.inr rfl) (e_add (e_varF (pv 4)) e_int)))) (b_cons (s_append (pv 2) (e_sub (e_var (pv 4)) (e_var (pv 3)))) (b_one (s_set (i := 3) (by decide) sc_filled.nd rfl (by first | exact Or.inl rfl | exact Or.inr rfl) (e_varF (pv 4)))))))) (b_one (s_ret (e_varM (pv 2)))))))
theorem ok__law_filled_right (T : Txt K mg) : FnOk P w K mg base (L2.CX P w) 3 T.a__law_filled_right T.fd__law_filled_right ["words", "width", "settings"] (SpD K mg 3 d__law_filled_right) :=
  fn_ok (N := ["words", "width", "settings", "told", "at", "count", "setting", "k"]) (ps := ["words", "width", "settings"]) (A := [3, 4, 5, 6, 7]) (body := b__law_filled_right) T.F__law_filled_right sc__law_filled_right fun cdv Ar outer s H E hr tk po => (b_cons (s_set (i := 3) (by decide) sc__law_filled_right.nd rfl (by first | exact Or.inl rfl | exact Or.inr rfl) (e_call (ok_filled T) tk (hr.mono (by decide)) (by rfl) T.m_filled T.F_filled.kp T.b_filled (x_cons (e_callT (cr_listS rfl) cx_listS (by rfl) T.z_list (by decide +kernel) (a_cons (e_varF (pv 0)) a_nil)) (x_var (pv 1) x_nil)))) (b_cons (s_if (t_cmp or_is ox_is (e_call (ok__law_ragged T) tk (hr.mono (by decide)) (by rfl) T.m__law_ragged T.F__law_ragged.kp T.b__law_ragged (x_var (pv 0) (x_var (pv 1) (x_var (pv 3) x_nil)))) e_non (nomark _)) (b_one (s_ret e_bl)) b_nil) (b_cons (s_set (i := 4) (by decide) sc__law_filled_right.nd rfl (by first | exact Or.inl rfl | exact Or.inr rfl) e_int) (b_cons (s_for po rfl (i_any (e_varF (pv 3))) (g_name (pg_name (i := 5) sc__law_filled_right.nd rfl (by first | exact Or.inl rfl | exact Or.inr rfl)) (by decide)) (b_cons (s_if (t_w (w_and (t_cmp or_lt ox_cmp (e_add (e_varF (pv 4)) (e_varF (pv 5))) (e_callB cr_len cx_len (by rfl) T.z_len boot_len (a_cons (e_var (pv 0)) a_nil)) (nomark _)) (w_and1 (t_cmp or_le ox_cmp (e_call (ok__law_length T) tk (hr.mono (by decide)) (by rfl) T.m__law_length T.F__law_length.kp T.b__law_length (x_cons (e_sl (e_varF (pv 0)) (o_some (e_var (pv 4))) (o_some (e_add (e_add (e_varF (pv 4)) (e_varF (pv 5))) e_int))) x_nil)) (e_var (pv 1)) (nomark _))))) (b_one (s_ret e_bl)) b_nil) (b_one (s_set (i := 4) (by decide) sc__law_filled_right.nd rfl (by first | exact Or.inl rfl | exact Or.inr rfl) (e_add (e_varF (pv 4)) (e_varF (pv 5))))))) (b_cons (s_for po rfl (i_any (e_varF (pv 2))) (g_name (pg_name (i := 6) sc__law_filled_right.nd rfl (by first | exact Or.inl rfl | exact Or.inr rfl)) (by decide)) (b_cons (s_for po rfl (i_range (by rfl) T.z_range (a_cons (e_callB (cr_minA rfl) cx_min (by rfl) T.z_min (by decide +kernel) (a_cons (e_callB cr_len cx_len (by rfl) T.z_len boot_len (a_cons (e_var (pv 6)) a_nil)) (a_cons (e_callB cr_len cx_len (by rfl) T.z_len boot_len (a_cons (e_var (pv 3)) a_nil)) a_nil))) a_nil)) (g_name (pg_name (i := 7) sc__law_filled_right.nd rfl (by first | exact Or.inl rfl | exact Or.inr rfl)) (by decide)) (b_one (s_if (t_cmp or_gt ox_cmp (e_callB (cr_sum rfl) cx_sum (by rfl) T.z_sum (by decide +kernel) (a_cons (e_sl (e_varF (pv 6)) o_none (o_some (e_add (e_varF (pv 7)) e_int))) a_nil)) (e_callB (cr_sum rfl) cx_sum (by rfl) T.z_sum (by decide +kernel) (a_cons (e_sl (e_varF (pv 3)) o_none (o_some (e_add (e_varF (pv 7)) e_int))) a_nil)) (nomark _)) (b_one (s_ret e_bl)) b_nil))) (b_one (s_if (t_cmp or_lt ox_cmp (e_callB cr_len cx_len (by rfl) T.z_len boot_len (a_cons (e_var (pv 6)) a_nil)) (e_callB cr_len cx_len (by rfl) T.z_len boot_len (a_cons (e_var (pv 3)) a_nil)) (nomark _)) (b_one (s_ret e_bl)) b_nil)))) (b_one (s_ret e_bl)))))))
theorem ok_in_lines (T : Txt K mg) : FnOk P w K mg base (L2.CX P w) 4 T.a_in_lines T.fd_in_lines ["words", "width", "count"] (SpD K mg 3 d_in_lines) :=
  fn_ok (N := ["words", "width", "count", "best", "layers", "_", "setting", "end", "found", "word", "told"]) (ps := ["words", "width", "count"]) (A := [3, 4, 5, 6, 7, 8]) (body := b_in_lines) T.F_in_lines sc_in_lines fun cdv Ar outer s H E hr tk po => (b_cons (s_set (i := 3) (by decide) sc_in_lines.nd rfl (by first | exact Or.inl rfl | exact Or.inr rfl) (e_add (e_lst (a_cons e_int a_nil)) (e_comp (own := [("word", 9)]) rfl sc_in_lines.nd (i_any (e_varF (pv 0))) (blkOk_by (own := [("word", 9)]) (by kernel_rfl)) (fun _ _ _ _ _ => (g_name (pg_name (i := 9) sc_in_lines.nd rfl (by first | exact Or.inl rfl | exact Or.inr rfl)) (by decide))) (fun _ _ _ _ _ => ts_nil) (fun _ _ _ _ _ => e_non)))) (b_cons (s_set (i := 4) (by decide) sc_in_lines.nd rfl (by first | exact Or.inl rfl | exact Or.inr rfl) (e_lst a_nil)) (b_cons (s_for po rfl (i_range (by rfl) T.z_range (a_cons (e_var (pv 2)) a_nil)) (g_name (pg_name (i := 5) sc_in_lines.nd rfl (by first | exact Or.inl rfl | exact Or.inr rfl)) (by decide)) (b_cons (s_set (i := 8) (by decide) sc_in_lines.nd rfl (by first | exact Or.inl rfl | exact Or.inr rfl) (e_add (e_lst (a_cons e_non a_nil)) (e_comp (own := [("end", 7)]) rfl sc_in_lines.nd (i_range2 (by rfl) T.z_range (a_cons e_int (a_cons (e_add (e_callB cr_len cx_len (by rfl) T.z_len boot_len (a_cons (e_var (pv 0)) a_nil)) e_int) a_nil))) (blkOk_by (own := [("end", 7)]) (by kernel_rfl)) (fun _ _ _ _ _ => (g_name (pg_name (i := 7) sc_in_lines.nd rfl (by first | exact Or.inl rfl | exact Or.inr rfl)) (by decide))) (fun _ _ _ _ _ => ts_nil) (fun _ _ _ _ _ => (e_call (ok_best_begins T) takes0 (hr.mono (by decide)) (by rfl) T.m_best_begins T.F_best_begins.kp T.b_best_begins (x_var (pv 0) (x_var (pv 1) (x_var (pv 3) (x_var (pv 7) x_nil))))))))) (b_cons (s_append (pv 4) (e_varF (pv 8))) (b_one (s_set (i := 3) (by decide) sc_in_lines.nd rfl (by first | exact Or.inl rfl | exact Or.inr rfl) (e_comp (own := [("told", 10)]) rfl sc_in_lines.nd (i_any (e_varF (pv 8))) (blkOk_by (own := [("told", 10)]) (by kernel_rfl)) (fun _ _ _ _ _ => (g_name (pg_name (i := 10) sc_in_lines.nd rfl (by first | exact Or.inl rfl | exact Or.inr rfl)) (by decide))) (fun _ _ _ _ _ => ts_nil) (fun _ _ _ _ _ => (e_if (t_cmp or_is ox_is (e_var (pv 10)) e_non (nomark _)) e_non (e_idx (e_varF (pv 10)) e_int))))))))) (b_cons (s_if (t_w (w_or (t_cmp or_lt ox_cmp (e_var (pv 2)) e_int (nomark _)) (w_or1 (t_cmp or_is ox_is (e_idxV (pv 3) (e_neg e_int)) e_non (nomark _))))) (b_one (s_ret e_non)) b_nil) (b_cons (s_set (i := 6) (by decide) sc_in_lines.nd rfl (by first | exact Or.inl rfl | exact Or.inr rfl) (e_lst a_nil)) (b_cons (s_set (i := 7) (by decide) sc_in_lines.nd rfl (by first | exact Or.inl rfl | exact Or.inr rfl) (e_callB cr_len cx_len (by rfl) T.z_len boot_len (a_cons (e_var (pv 0)) a_nil))) (b_cons (s_for po rfl (i_any (e_rev (e_varF (pv 4)))) (g_name (pg_name (i := 8) sc_in_lines.nd rfl (by first | exact Or.inl rfl | exact Or.inr rfl)) (by decide)) (b_cons (s_append (pv 6) (e_sub (e_var (pv 7)) (e_idx (e_idxV (pv 8) (e_var (pv 7))) e_int))) (b_one (s_set (i := 7) (by decide) sc_in_lines.nd rfl (by first | exact Or.inl rfl | exact Or.inr rfl) (e_idx (e_idx (e_varF (pv 8)) (e_var (pv 7))) e_int))))) (b_one (s_ret (e_tup (a_cons (e_rev (e_varF (pv 6))) (a_cons (e_idx (e_varF (pv 3)) (e_neg e_int)) a_nil))))))))))))
theorem ok__law_in_lines_right (T : Txt K mg) : FnOk P w K mg base (L2.CX P w) 5 T.a__law_in_lines_right T.fd__law_in_lines_right ["words", "width", "settings"] (SpD K mg 3 d__law_in_lines_right) :=
  fn_ok (N := ["words", "width", "settings", "count", "told", "due", "setting"]) (ps := ["words", "width", "settings"]) (A := [3, 4, 5]) (body := b__law_in_lines_right) T.F__law_in_lines_right sc__law_in_lines_right fun cdv Ar outer s H E hr tk po => (b_cons (s_for po rfl (i_range (by rfl) T.z_range (a_cons (e_add (e_callB cr_len cx_len (by rfl) T.z_len boot_len (a_cons (e_var (pv 0)) a_nil)) e_int) a_nil)) (g_name (pg_name (i := 3) sc__law_in_lines_right.nd rfl (by first | exact Or.inl rfl | exact Or.inr rfl)) (by decide)) (b_cons (s_set (i := 4) (by decide) sc__law_in_lines_right.nd rfl (by first | exact Or.inl rfl | exact Or.inr rfl) (e_call (ok_in_lines T) tk (hr.mono (by decide)) (by rfl) T.m_in_lines T.F_in_lines.kp T.b_in_lines (x_cons (e_callT (cr_listS rfl) cx_listS (by rfl) T.z_list (by decide +kernel) (a_cons (e_varF (pv 0)) a_nil)) (x_var (pv 1) (x_var (pv 3) x_nil))))) (b_cons (s_setLc (i := 5) (own := [("setting", 6)]) (by decide) rfl sc__law_in_lines_right.nd rfl rfl (sw_true rfl rfl rfl (by decide +kernel)) (i_any (e_varF (pv 2))) (blkOk_by (own := [("setting", 6)]) (by kernel_rfl)) (fun _ _ _ _ _ => (g_name (pg_name (i := 6) sc__law_in_lines_right.nd rfl (by first | exact Or.inl rfl | exact Or.inr rfl)) (by decide))) (fun _ _ _ _ _ => (ts_one (t_cmp (or_eq hr.units) ox_eq (e_callB cr_len cx_len (by rfl) T.z_len boot_len (a_cons (e_var (pv 6)) a_nil)) (e_var (pv 3)) (nomark _)))) (fun _ _ _ _ _ => (e_call (ok__law_ragged T) takes0 (hr.mono (by decide)) (by rfl) T.m__law_ragged T.F__law_ragged.kp T.b__law_ragged (x_var (pv 0) (x_var (pv 1) (x_var (pv 6) x_nil)))))) (b_cons (s_if (t_w (w_and (t_cmp (or_eq hr.units) ox_eq (e_var (pv 5)) (e_lst a_nil) (nomark _)) (w_and1 (t_cmp or_isNot ox_isNot (e_var (pv 4)) e_non (nomark _))))) (b_one (s_ret e_bl)) b_nil) (b_cons (s_if (t_w (w_and (t_cmp (or_ne hr.units) ox_ne (e_var (pv 5)) (e_lst a_nil) (nomark _)) (w_and1 (t_w (w_or (t_cmp or_is ox_is (e_var (pv 4)) e_non (nomark _)) (w_or (t_cmp (or_ne hr.units) ox_ne (e_idxV (pv 4) e_int) (e_callB (cr_minA rfl) cx_min (by rfl) T.z_min (by decide +kernel) (a_cons (e_var (pv 5)) a_nil)) (nomark _)) (w_or1 (t_cmp (or_ne hr.units) ox_ne (e_callB cr_len cx_len (by rfl) T.z_len boot_len (a_cons (e_idxV (pv 4) e_int) a_nil)) (e_var (pv 3)) (nomark _))))))))) (b_one (s_ret e_bl)) b_nil) (b_one (s_if (t_w (w_and (t_cmp (or_ne hr.units) ox_ne (e_var (pv 5)) (e_lst a_nil) (nomark _)) (w_and1 (t_cmp (or_ne hr.units) ox_ne (e_call (ok__law_ragged T) tk (hr.mono (by decide)) (by rfl) T.m__law_ragged T.F__law_ragged.kp T.b__law_ragged (x_var (pv 0) (x_var (pv 1) (x_cons (e_idx (e_varF (pv 4)) e_int) x_nil)))) (e_idxV (pv 4) e_int) (nomark _))))) (b_one (s_ret e_bl)) b_nil))))))) (b_one (s_ret e_bl)))
theorem ok_law (T : Txt K mg) : FnOk P w K mg base (L2.CX P w) 13 T.a_law T.fd_law ["script"] (SpD K mg 1 d_law) :=
  fn_ok (N := ["script", "pool", "words", "k", "longest", "width", "handed", "told", "at", "lines", "count", "turn", "settings", "setting", "word"]) (ps := ["script"]) (A := [1, 2, 3, 4, 5, 6, 7, 8, 9, 10, 11, 12, 13]) (body := b_law) T.F_law sc_law fun cdv Ar outer s H E hr tk po => (b_cons (s_set (i := 1) (by decide) sc_law.nd rfl (by first | exact Or.inl rfl | exact Or.inr rfl) (e_call (ok__law_pool T) tk (hr.mono (by decide)) (by rfl) T.m__law_pool T.F__law_pool.kp T.b__law_pool (x_var (pv 0) x_nil))) (b_cons (s_set (i := 2) (by decide) sc_law.nd rfl (by first | exact Or.inl rfl | exact Or.inr rfl) (e_lst a_nil)) (b_cons (s_for po rfl (i_range (by rfl) T.z_range (a_cons (e_add e_int (e_call (ok__law_draw T) tk (hr.mono (by decide)) (by rfl) T.m__law_draw T.F__law_draw.kp T.b__law_draw (x_var (pv 1) (x_cons e_int x_nil)))) a_nil)) (g_name (pg_name (i := 3) sc_law.nd rfl (by first | exact Or.inl rfl | exact Or.inr rfl)) (by decide)) (b_cons (s_expr (e_call (ok__law_next T) tk (hr.mono (by decide)) (by rfl) T.m__law_next T.F__law_next.kp T.b__law_next (x_var (pv 1) x_nil))) (b_one (s_append (pv 2) (e_if (t_cmp or_gt ox_cmp (e_call (ok__law_draw T) tk (hr.mono (by decide)) (by rfl) T.m__law_draw T.F__law_draw.kp T.b__law_draw (x_var (pv 1) (x_cons e_int x_nil))) e_int (nomark _)) (e_sl e_str (o_some (e_call (ok__law_draw T) tk (hr.mono (by decide)) (by rfl) T.m__law_draw T.F__law_draw.kp T.b__law_draw (x_var (pv 1) (x_cons e_int x_nil)))) o_none) e_str))))) (b_cons (s_set (i := 4) (by decide) sc_law.nd rfl (by first | exact Or.inl rfl | exact Or.inr rfl) (e_callB (cr_maxA rfl) cx_max (by rfl) T.z_max (by decide +kernel) (a_cons (e_comp (own := [("word", 14)]) rfl sc_law.nd (i_any (e_varF (pv 2))) (blkOk_by (own := [("word", 14)]) (by kernel_rfl)) (fun _ _ _ _ _ => (g_name (pg_name (i := 14) sc_law.nd rfl (by first | exact Or.inl rfl | exact Or.inr rfl)) (by decide))) (fun _ _ _ _ _ => ts_nil) (fun _ _ _ _ _ => (e_callB cr_len cx_len (by rfl) T.z_len boot_len (a_cons (e_var (pv 14)) a_nil)))) a_nil))) (b_cons (s_set (i := 5) (by decide) sc_law.nd rfl (by first | exact Or.inl rfl | exact Or.inr rfl) (e_add (e_varF (pv 4)) (e_call (ok__law_draw T) tk (hr.mono (by decide)) (by rfl) T.m__law_draw T.F__law_draw.kp T.b__law_draw (x_var (pv 1) (x_cons (e_call (ok__law_pick T) tk (hr.mono (by decide)) (by rfl) T.m__law_pick T.F__law_pick.kp T.b__law_pick (x_var (pv 1) (x_cons (e_lst (a_cons e_int (a_cons e_int (a_cons e_int a_nil)))) x_nil))) x_nil))))) (b_cons (s_set (i := 6) (by decide) sc_law.nd rfl (by first | exact Or.inl rfl | exact Or.inr rfl) (e_callT (cr_listS rfl) cx_listS (by rfl) T.z_list (by decide +kernel) (a_cons (e_varF (pv 2)) a_nil))) (b_cons (s_set (i := 7) (by decide) sc_law.nd rfl (by first | exact Or.inl rfl | exact Or.inr rfl) (e_call (ok_least_ragged T) tk (hr.mono (by decide)) (by rfl) T.m_least_ragged T.F_least_ragged.kp T.b_least_ragged (x_var (pv 6) (x_var (pv 5) x_nil)))) (b_cons (s_if (t_w (w_or (t_not (t_truth (e_call (ok__law_same T 10) tk (hr.mono (by decide)) (by rfl) T.m__law_same T.F__law_same.kp T.b__law_same (x_var (pv 6) (x_var (pv 2) x_nil))))) (w_or (t_not (t_truth (e_callB call_isi cx_isi (by rfl) T.z_isinstance (by decide +kernel) (a_cons (e_var (pv 7)) (a_cons (e_ty (by rfl) T.z_tuple (by decide +kernel)) a_nil))))) (w_or1 (t_cmp (or_ne hr.units) ox_ne (e_callB cr_len cx_len (by rfl) T.z_len boot_len (a_cons (e_var (pv 7)) a_nil)) e_int (nomark _)))))) (b_one (s_ret e_bl)) b_nil) (b_cons (s_if (t_w (w_or (t_not (t_truth (e_call (ok__law_same T 10) tk (hr.mono (by decide)) (by rfl) T.m__law_same T.F__law_same.kp T.b__law_same (x_cons (e_call (ok__law_ragged T) tk (hr.mono (by decide)) (by rfl) T.m__law_ragged T.F__law_ragged.kp T.b__law_ragged (x_var (pv 2) (x_var (pv 5) (x_cons (e_idx (e_varF (pv 7)) e_int) x_nil)))) (x_cons (e_idx (e_varF (pv 7)) e_int) x_nil))))) (w_or1 (t_not (t_truth (e_call (ok__law_potentials_right T) tk (hr.mono (by decide)) (by rfl) T.m__law_potentials_right T.F__law_potentials_right.kp T.b__law_potentials_right (x_var (pv 2) (x_var (pv 5) (x_cons (e_idx (e_varF (pv 7)) e_int) (x_cons (e_idx (e_varF (pv 7)) e_int) x_nil)))))))))) (b_one (s_ret e_bl)) b_nil) (b_cons (s_if (t_cmp or_isNot ox_isNot (e_call (ok_judge_setting T) tk (hr.mono (by decide)) (by rfl) T.m_judge_setting T.F_judge_setting.kp T.b_judge_setting (x_var (pv 2) (x_var (pv 5) (x_cons (e_callT (cr_listS rfl) cx_listS (by rfl) T.z_list (by decide +kernel) (a_cons (e_idx (e_varF (pv 7)) e_int) a_nil)) (x_cons (e_idx (e_varF (pv 7)) e_int) (x_cons (e_callT (cr_listS rfl) cx_listS (by rfl) T.z_list (by decide +kernel) (a_cons (e_idx (e_varF (pv 7)) e_int) a_nil)) x_nil)))))) e_bl (nomark _)) (b_one (s_ret e_bl)) b_nil) (b_cons (s_set (i := 8) (by decide) sc_law.nd rfl (by first | exact Or.inl rfl | exact Or.inr rfl) e_int) (b_cons (s_set (i := 9) (by decide) sc_law.nd rfl (by first | exact Or.inl rfl | exact Or.inr rfl) (e_lst a_nil)) (b_cons (s_for po rfl (i_any (e_idx (e_varF (pv 7)) e_int)) (g_name (pg_name (i := 10) sc_law.nd rfl (by first | exact Or.inl rfl | exact Or.inr rfl)) (by decide)) (b_cons (s_append (pv 9) (e_join e_str (a_cons (e_sl (e_varF (pv 2)) (o_some (e_var (pv 8))) (o_some (e_add (e_varF (pv 8)) (e_varF (pv 10))))) a_nil))) (b_one (s_set (i := 8) (by decide) sc_law.nd rfl (by first | exact Or.inl rfl | exact Or.inr rfl) (e_add (e_varF (pv 8)) (e_varF (pv 10))))))) (b_cons (s_if (t_not (t_truth (e_call (ok__law_same T 10) tk (hr.mono (by decide)) (by rfl) T.m__law_same T.F__law_same.kp T.b__law_same (x_cons (e_call (ok_written T) tk (hr.mono (by decide)) (by rfl) T.m_written T.F_written.kp T.b_written (x_cons (e_callT (cr_listS rfl) cx_listS (by rfl) T.z_list (by decide +kernel) (a_cons (e_varF (pv 2)) a_nil)) (x_cons (e_callT (cr_listS rfl) cx_listS (by rfl) T.z_list (by decide +kernel) (a_cons (e_idx (e_varF (pv 7)) e_int) a_nil)) x_nil))) (x_var (pv 9) x_nil))))) (b_one (s_ret e_bl)) b_nil) (b_cons (s_for po rfl (i_range (by rfl) T.z_range (a_cons e_int a_nil)) (g_name (pg_name (i := 11) sc_law.nd rfl (by first | exact Or.inl rfl | exact Or.inr rfl)) (by decide)) (b_cons (s_setLc (i := 13) (own := [("k", 3)]) (by decide) rfl sc_law.nd rfl rfl (sw_true rfl rfl rfl (by decide +kernel)) (i_range (by rfl) T.z_range (a_cons (e_call (ok__law_draw T) tk (hr.mono (by decide)) (by rfl) T.m__law_draw T.F__law_draw.kp T.b__law_draw (x_var (pv 1) (x_cons e_int x_nil))) a_nil)) (blkOk_by (own := [("k", 3)]) (by kernel_rfl)) (fun _ _ _ _ _ => (g_name (pg_name (i := 3) sc_law.nd rfl (by first | exact Or.inl rfl | exact Or.inr rfl)) (by decide))) (fun _ _ _ _ _ => ts_nil) (fun _ _ _ _ _ => (e_sub (e_call (ok__law_draw T) takes0 (hr.mono (by decide)) (by rfl) T.m__law_draw T.F__law_draw.kp T.b__law_draw (x_var (pv 1) (x_cons e_int x_nil))) (e_callT call_int1 cx_int1 (by rfl) T.z_int (by decide +kernel) (a_cons (e_cmp (or_eq hr.units) ox_eq (e_call (ok__law_draw T) takes0 (hr.mono (by decide)) (by rfl) T.m__law_draw T.F__law_draw.kp T.b__law_draw (x_var (pv 1) (x_cons e_int x_nil))) e_int (nomark _)) a_nil))))) (b_cons (s_if (t_cmp (or_eq hr.units) ox_eq (e_call (ok__law_draw T) tk (hr.mono (by decide)) (by rfl) T.m__law_draw T.F__law_draw.kp T.b__law_draw (x_var (pv 1) (x_cons e_int x_nil))) e_int (nomark _)) (b_one (s_set (i := 13) (by decide) sc_law.nd rfl (by first | exact Or.inl rfl | exact Or.inr rfl) (e_add (e_varF (pv 13)) (e_lst (a_cons (e_callB (cr_maxA rfl) cx_max (by rfl) T.z_max (by decide +kernel) (a_cons (e_sub (e_callB cr_len cx_len (by rfl) T.z_len boot_len (a_cons (e_var (pv 2)) a_nil)) (e_callB (cr_sum rfl) cx_sum (by rfl) T.z_sum (by decide +kernel) (a_cons (e_var (pv 13)) a_nil))) (a_cons e_int a_nil))) a_nil))))) b_nil) (b_one (s_if (t_not (t_truth (e_call (ok__law_same T 10) tk (hr.mono (by decide)) (by rfl) T.m__law_same T.F__law_same.kp T.b__law_same (x_cons (e_call (ok_ragged T) tk (hr.mono (by decide)) (by rfl) T.m_ragged T.F_ragged.kp T.b_ragged (x_var (pv 2) (x_var (pv 5) (x_cons (e_callT (cr_listS rfl) cx_listS (by rfl) T.z_list (by decide +kernel) (a_cons (e_varF (pv 13)) a_nil)) x_nil)))) (x_cons (e_call (ok__law_ragged T) tk (hr.mono (by decide)) (by rfl) T.m__law_ragged T.F__law_ragged.kp T.b__law_ragged (x_var (pv 2) (x_var (pv 5) (x_var (pv 13) x_nil)))) x_nil))))) (b_one (s_ret e_bl)) b_nil))))) (b_cons (s_set (i := 12) (by decide) sc_law.nd rfl (by first | exact Or.inl rfl | exact Or.inr rfl) (e_if (t_cmp or_lt ox_cmp (e_callB cr_len cx_len (by rfl) T.z_len boot_len (a_cons (e_var (pv 2)) a_nil)) e_int (nomark _)) (e_call (ok__law_settings T 10) tk (hr.mono (by decide)) (by rfl) T.m__law_settings T.F__law_settings.kp T.b__law_settings (x_var (pv 2) (x_var (pv 5) x_nil))) (e_lst a_nil))) (b_cons (s_if (t_not (t_truth (e_callB (cr_all rfl) cx_all (by rfl) T.z_all (by decide +kernel) (a_cons (e_comp (own := [("setting", 13)]) rfl sc_law.nd (i_any (e_varF (pv 12))) (blkOk_by (own := [("setting", 13)]) (by kernel_rfl)) (fun _ _ _ _ _ => (g_name (pg_name (i := 13) sc_law.nd rfl (by first | exact Or.inl rfl | exact Or.inr rfl)) (by decide))) (fun _ _ _ _ _ => ts_nil) (fun _ _ _ _ _ => (e_cmp or_ge ox_cmp (e_call (ok__law_ragged T) takes0 (hr.mono (by decide)) (by rfl) T.m__law_ragged T.F__law_ragged.kp T.b__law_ragged (x_var (pv 2) (x_var (pv 5) (x_var (pv 13) x_nil)))) (e_idxV (pv 7) e_int) (nomark _)))) a_nil)))) (b_one (s_ret e_bl)) b_nil) (b_one (s_ret (e_andV (e_call (ok__law_filled_right T) tk (hr.mono (by decide)) (by rfl) T.m__law_filled_right T.F__law_filled_right.kp T.b__law_filled_right (x_var (pv 2) (x_var (pv 5) (x_var (pv 12) x_nil)))) (e_and1 (e_orV (e_cmp (or_eq hr.units) ox_eq (e_var (pv 12)) (e_lst a_nil) (nomark _)) (e_and1 (e_call (ok__law_in_lines_right T) tk (hr.mono (by decide)) (by rfl) T.m__law_in_lines_right T.F__law_in_lines_right.kp T.b__law_in_lines_right (x_var (pv 2) (x_var (pv 5) (x_var (pv 12) x_nil)))))))))))))))))))))))))))
end
end Lk76

set_option maxHeartbeats 1000000
namespace Lk76
open PySem PySem.Spec PyProof.Rows L2 Den
theorem e_mixed : d__law_mixed = dp_mixed := rfl
theorem e_rest : d__law_rest = dp_rest := rfl
theorem e_pool : d__law_pool = dp_pool := rfl
theorem e_next : d__law_next = dp_next := rfl
theorem e_draw : d__law_draw = dp_draw := rfl
theorem e_pick : d__law_pick = dp_pick := rfl
theorem e_same : ∀ k, d__law_same k = dp_sameC k
  | 0 => rfl
  | k + 1 => by
    show fnDen _ _ _ (b__law_same (d__law_same k)) = fnDen _ _ _ (bp_sameC (dp_sameC k))
    rw [e_same k]; rfl
variable {Q : DV → List (Sh × D) → Prop} {X : Exn → List (Sh × D) → Prop}
def encS (ts : List Str) : List D := ts.map .str
theorem shps_strs {k : Nat} : ∀ {ts : List Str}, (∀ t ∈ ts, PyData.strOk t = true) → D.shps k (ts.map D.str) = true
  | [], _ => rfl
  | t :: ts, h => by
    show (D.shp k (.str t) && D.shps k (ts.map D.str)) = true
    rw [shps_strs fun q hq => h q (List.mem_cons_of_mem _ hq), Bool.and_true]
    have := h t (List.mem_cons_self ..)
    cases k <;> simpa [D.shp] using this
theorem beqs_strs : ∀ {ts us : List Str}, D.beqs (ts.map D.str) (us.map D.str) = decide (ts = us)
  | [], [] => by simp [D.beqs]
  | [], _ :: _ => by simp [D.beqs]
  | _ :: _, [] => by simp [D.beqs]
  | t :: ts, u :: us => by
    rw [List.map_cons, List.map_cons, D.beqs, beqs_strs]
    simp [D.beq]
    rw [Bool.beq_eq_decide_eq]
def AllOk (ts : List Str) : Prop := ∀ t ∈ ts, PyData.strOk t = true
theorem eq_strsL {ts us : List Str} (h : AllOk ts) (h' : AllOk us) : eqOp (.lst (ts.map D.str)) (.lst (us.map D.str)) = some (.s (.bl (decide (ts = us)))) := by
  have e : D.beq (.lst (ts.map D.str)) (.lst (us.map D.str)) = decide (ts = us) := by rw [D.beq, beqs_strs]
  unfold eqOp eqOk
  rw [e, show D.shp 60 (.lst (ts.map D.str)) = true from shps_strs (k := 59) h, show D.shp 60 (.lst (us.map D.str)) = true from shps_strs (k := 59) h']
  simp
theorem eq_strsT {ts us : List Str} (h : AllOk ts) (h' : AllOk us) : eqOp (.tup (ts.map D.str)) (.tup (us.map D.str)) = some (.s (.bl (decide (ts = us)))) := by
  have e : D.beq (.tup (ts.map D.str)) (.tup (us.map D.str)) = decide (ts = us) := by rw [D.beq, beqs_strs]
  unfold eqOp eqOk
  rw [e, show D.shp 60 (.tup (ts.map D.str)) = true from shps_strs (k := 59) h, show D.shp 60 (.tup (us.map D.str)) = true from shps_strs (k := 59) h']
  simp
theorem getD_l {α : Type} {xs ys : List α} {d : α} {i : Nat} (h : i < xs.length) : (xs ++ ys).getD i d = xs.getD i d := by
  simp [List.getD, List.getElem?_append_left h]
theorem getD_r {α : Type} {xs ys : List α} {d : α} {i : Nat} (h : xs.length ≤ i) : (xs ++ ys).getD i d = ys.getD (i - xs.length) d := by
  simp [List.getD, List.getElem?_append_right h]
theorem e_length : ∀ {ls : List (List Nat)}, (glueL [32] ls).length = (ls.map List.length).sum + (ls.length - 1)
  | [] => rfl
  | x :: ls => by
    have : (ls.map fun l => [32] ++ l).flatten.length = (ls.map List.length).sum + ls.length := by
      induction ls with
      | nil => rfl
      | cons y ys ih => simp at ih ⊢; omega
    unfold glueL; rw [List.length_append, this]; simp; omega
/-- words as lists of codes -/
abbrev Ws := List (List Nat)
def encWs (ls : Ws) : List D := ls.map fun l => D.str (S l)
def encW (ls : Ws) : D := .lst (encWs ls)
def lenW (ls : Ws) : Nat := (ls.map List.length).sum + (ls.length - 1)
def Small (ls : Ws) : Prop := ls.length ≤ 14 ∧ ∀ l ∈ ls, 1 ≤ l.length ∧ l.length ≤ 9
theorem sum_le : ∀ {ls : Ws}, (∀ l ∈ ls, 1 ≤ l.length ∧ l.length ≤ 9) → (ls.map List.length).sum ≤ 9 * ls.length
  | [], _ => by simp
  | l :: ls, h => by
    have := sum_le (ls := ls) fun q hq => h q (List.mem_cons_of_mem _ hq)
    have := (h l (List.mem_cons_self ..)).2
    simp; omega
theorem Small.le {ls : Ws} (h : Small ls) : lenW ls ≤ 200 := by
  have := sum_le h.2; have := h.1
  unfold lenW; omega
theorem Small.cut {ls : Ws} (h : Small ls) (b e : Nat) : Small ((ls.take e).drop b) := by
  refine ⟨by have := h.1; simp; omega, fun l hl => h.2 l (List.mem_of_mem_take (List.mem_of_mem_drop hl))⟩
def lenD : D → D
  | .str s => .int s.length
  | _ => .non
theorem sum_int : ∀ {ls : Ws}, (ls.map fun l => (l.length : Int)).sum = ((ls.map List.length).sum : Nat)
  | [] => rfl
  | l :: ls => by simp [sum_int (ls := ls)]
theorem length_w {s : Sh} {ls : Ws} (hs : Small ls) (h : Q (.sh .im, .int (lenW ls : Nat)) [(.im, encW ls)]) : wF d_length_of Q X [(s, encW ls)] := by
  unfold d_length_of; rw [wF_fn_z]; unfold b_length_of
  have h12 := hs.1
  simp [encW, ownIm, wipeR]
  refine wC_map lenD (by simp [encWs, sizeLine]; omega) ?_ ?_
  · intro d hd
    simp [encWs] at hd; obtain ⟨l, hl, rfl⟩ := hd
    have := (hs.2 l hl).2
    have hz : l.length ≤ 16777216 := by omega
    simp [sizeLine, hz, lenD, wipeR]
  · have e : (encWs ls).map lenD = (ls.map fun l => (l.length : Int)).map D.int := by simp [encWs, lenD]
    have e4 := sum_int (ls := ls)
    rw [List.nil_append, e]
    generalize (ls.map fun l => (l.length : Int)) = zs at *
    simp [mergeR]
    rw [e4]
    have e3 : (((ls.map List.length).sum : Nat) : Int) + max (((encWs ls).length : Int) - 1) 0 = (lenW ls : Nat) := by
      unfold lenW; simp [encWs]; omega
    rw [e3]; exact h
theorem llen_w {s : Sh} {ls : Ws} (hs : Small ls) (h : Q (.sh .im, .int (lenW ls : Nat)) [(s, encW ls)]) : wF d__law_length Q X [(s, encW ls)] := by
  unfold d__law_length; rw [wF_fn_z]; unfold b__law_length
  have h12 := hs.1
  have h1 := sum_le hs.2
  have hz : (glueL [32] ls).length ≤ 16777216 := by rw [e_length]; have := hs.le; unfold lenW at this; omega
  have e := e_length (ls := ls)
  rw [show (.str " " : D) = .str (S [32]) from rfl]
  have hj : (ls.map List.length).sum + ls.length * [32].length ≤ 16777216 := by simp; omega
  simp [encW, encWs, hj, hz, sizeLine]
  rw [e]
  exact ⟨by omega, h⟩
end Lk76

set_option maxHeartbeats 1000000
namespace Lk76
open PySem PySem.Spec PyProof.Rows L2 Den
variable {Q : DV → List (Sh × D) → Prop} {X : Exn → List (Sh × D) → Prop}
def optD : Option Int → D
  | none => .non
  | some i => .int i
def lenAt (ls : Ws) (b e : Nat) : Nat := lenW ((ls.take e).drop b)
def sq (w : Int) (ls : Ws) (b e : Nat) : Int := if e = ls.length then 0 else (w - (lenAt ls b e : Nat)) * (w - (lenAt ls b e : Nat))
def over (ls : Ws) (w : Int) (b e : Nat) : Option Int := if w < (lenAt ls b e : Nat) then none else some (sq w ls b e)
theorem cut_encW {ls : Ws} {b e : Nat} : Den.cutD (encWs ls) (some (b : Int)) (some (e : Int)) = encWs ((ls.take e).drop b) := by
  unfold encWs; rw [cut_map, cut_mid]
theorem left_w {s : Sh} {ls : Ws} {w : Int} {b e : Nat} (hs : Small ls) (hw : 0 ≤ w ∧ w ≤ 1000) (h : Q (.sh .im, optD (over ls w b e)) [(.im, encW ls), iS w, iS b, iS e]) : wF d_left_over Q X [(s, encW ls), iS w, iS b, iS e] := by
  unfold d_left_over; rw [wF_fn_z]; unfold b_left_over
  have h12 := hs.1
  have hl : (encWs ls).length = ls.length := by simp [encWs]
  have hc := (hs.cut b e).le
  simp [encW]
  rw [cut_encW]
  refine length_w (hs.cut b e) ?_
  unfold over sq lenAt at h
  generalize lenW ((ls.take e).drop b) = L at *
  simp [hl]
  split
  · rename_i c
    rw [if_pos c] at h
    simpa [encW, optD] using h
  · rename_i c
    rw [if_neg c] at h
    split
    · rename_i c2
      rw [if_pos (by omega)] at h
      simpa [encW, optD] using h
    · rename_i c2
      rw [if_neg (by omega)] at h
      have h64 : (w - (L : Int)).natAbs < 18446744073709551616 := by omega
      simp [h64]
      rw [show (w - (L : Int)) ^ 2 = (w - L) * (w - L) by rw [Int.pow_succ, Int.pow_succ, Int.pow_zero, Int.one_mul]]
      simpa [encW, optD] using h
def encI (cs : List Int) : D := .lst (cs.map .int)
def ragL (ls : Ws) (w : Int) : List Int → Nat → Int → Option Int
  | [], _, t => some t
  | c :: cs, b, t => match over ls w b (b + c.toNat) with
    | none => none
    | some o => ragL ls w cs (b + c.toNat) (t + o)
def okC (ls : Ws) (cs : List Int) : Bool := (cs.map fun c => decide (1 ≤ c)).all id && decide (cs.sum = ls.length)
def ragP (ls : Ws) (w : Int) (cs : List Int) : Option Int := if okC ls cs = true then ragL ls w cs 0 0 else none
def geD : D → D
  | .int i => .bl (decide (1 ≤ i))
  | _ => .non
theorem ragged_w {s' : Sh} {ls : Ws} {w : Int} {cs : List Int} (hs : Small ls) (hw : 0 ≤ w ∧ w ≤ 1000) (hc : cs.length ≤ 100) (h : Q (.sh .im, optD (ragP ls w cs)) [(.im, encW ls), iS w, (.im, encI cs)]) : wF d_ragged Q X [(.im, encW ls), iS w, (s', encI cs)] := by
  unfold d_ragged; rw [wF_fn_z]; unfold b_ragged
  have h12 := hs.1
  have hl : (encWs ls).length = ls.length := by simp [encWs]
  unfold ragP okC at h
  rw [wS_seq_z, wS_if_z]
  simp [encI, encW, ownIm, wipeR]
  refine wC_map geD (by simp [sizeLine]; omega) ?_ ?_
  · intro d hd
    simp at hd; obtain ⟨i, hi, rfl⟩ := hd
    simp [geD, wipeR]
  · have e : (cs.map D.int).map geD = (cs.map fun c => decide (1 ≤ c)).map D.bl := by simp [geD]
    rw [List.nil_append, e]
    have hall : (cs.map fun c => decide (1 ≤ c)).all id = true → ∀ z ∈ cs, 1 ≤ z := fun h z hz => by simp at h; exact h z hz
    generalize (cs.map fun c => decide (1 ≤ c)) = zs at *
    simp [mergeR]
    have hz : zs.all id = !decide (false ∈ zs) := by
      rw [Bool.eq_iff_iff]; simp
    rw [hz] at h hall
    by_cases hF : false ∈ zs
    · simp [hF]
      simp [hF] at h
      simpa [encW, encI, optD] using h
    simp [hF, hl]
    simp [hF] at h
    by_cases hS : cs.sum = ls.length
    rotate_left
    · simp [hS]
      simp [hS] at h
      simpa [encW, encI, optD] using h
    have h1 := hall (by simp [hF])
    simp [hS]
    simp [hS] at h
    refine loop_inv (I := fun j ρ => ∃ (b : Nat) (t : Int) (x y : Slot), ragL ls w cs 0 0 = ragL ls w (cs.drop j) b t ∧ ρ = [some (.im, encW ls), some (iS w), some (.im, encI cs), some (iS t), some (iS (b : Nat)), x, y]) ⟨0, 0, _, _, rfl, rfl⟩ ?_ ?_
    · intro j d ρ hj hI
      obtain ⟨b, t, x, y, hI, rfl⟩ := hI
      rw [List.getElem?_map] at hj
      obtain ⟨c, hr, rfl⟩ := Option.map_eq_some_iff.1 hj
      have hd : cs.drop j = c :: cs.drop (j + 1) := by
        obtain ⟨h1, h2⟩ := List.getElem?_eq_some_iff.1 hr
        rw [List.drop_eq_getElem_cons h1, h2]
      have c1 := h1 c (List.mem_of_getElem? hr)
      rw [hd, ragL] at hI
      simp
      rw [show ((b : Int) + c) = ((b + c.toNat : Nat) : Int) by omega]
      refine left_w hs hw ?_
      cases ho : over ls w b (b + c.toNat) with
      | none =>
        rw [ho] at hI
        simp only at hI
        rw [hI] at h
        simp [optD, isOp, isD]
        simpa [encW, encI, optD] using h
      | some o =>
        rw [ho] at hI
        simp only at hI
        simp [optD, isOp, isD]
        exact ⟨_, _, hI, by simp; omega⟩
    · intro ρ hI
      obtain ⟨b, t, x, y, hI, rfl⟩ := hI
      simp [ragL] at hI
      rw [hI] at h
      simp
      simpa [encW, encI, optD] using h
theorem lenW_app {xs ys : Ws} : lenW xs ≤ lenW (xs ++ ys) := by unfold lenW; simp; omega
theorem lenAt_mono {ls : Ws} {b e e' : Nat} (h : e ≤ e') : lenAt ls b e ≤ lenAt ls b e' := by
  unfold lenAt
  have : (ls.take e').drop b = (ls.take e).drop b ++ ((ls.take e').drop e).drop (b - e) := by
    have t : ls.take e' = ls.take e ++ (ls.take e').drop e := by
      have := List.take_append_drop e (ls.take e')
      rw [List.take_take, Nat.min_eq_left h] at this; exact this.symm
    by_cases hb : b ≤ (ls.take e).length
    · conv => lhs; rw [t]
      rw [List.drop_append_of_le_length hb]
      congr 1
      have : b ≤ e := by simp at hb; omega
      rw [Nat.sub_eq_zero_of_le this, List.drop_zero]
    · have hb' : (ls.take e).length ≤ b := by omega
      rw [List.drop_eq_nil_of_le hb', List.nil_append, List.drop_drop]
      by_cases c : e ≤ b
      · rw [show e + (b - e) = b by omega]
      · have : ls.length ≤ b := by simp at hb'; omega
        rw [List.drop_eq_nil_of_le (by simp; omega), List.drop_eq_nil_of_le (by simp; omega)]
  rw [this]; exact lenW_app
def pg (ps : List Int) (i : Nat) : Int := ps.getD i 0
theorem atI_pg {ps : List Int} {i : Nat} (h : i < ps.length) : atI (ps.map D.int) (i : Int) = some (.int (pg ps i)) := by
  apply atI_n; rw [List.getElem?_map]; simp [h, pg, List.getD]
theorem atI_pl {ps : List Int} (h : 0 < ps.length) : atI (ps.map D.int) (-1) = some (.int (pg ps (ps.length - 1))) := by
  have : ixN (ps.map D.int).length (-1) = some (ps.length - 1) := by
    unfold ixN; simp; omega
  unfold atI; rw [this]
  simp [pg, List.getD, show ps.length - 1 < ps.length by omega]
theorem ne_opt {o : Option Int} {i : Int} : neOp (optD o) (.int i) = some (.s (.bl (!decide (o = some i)))) := by
  cases o with
  | none => rfl
  | some j => simp [optD]
def cell (ls : Ws) (w : Int) (ps : List Int) (b e : Nat) : Prop := (lenAt ls b e : Int) ≤ w → pg ps e ≤ pg ps b + sq w ls b e
def potOk (ls : Ws) (w : Int) (ps : List Int) : Prop := ∀ b, b < ls.length → ∀ e, b < e → e ≤ ls.length → cell ls w ps b e
def Right (ls : Ws) (w : Int) (cs : List Int) (num : Int) (ps : List Int) : Prop := ragP ls w cs = some num ∧ ps.length = ls.length + 1 ∧ pg ps 0 = 0 ∧ pg ps (ps.length - 1) = num ∧ potOk ls w ps
theorem judge_set_w {ls : Ws} {w num : Int} {cs ps : List Int} (hs : Small ls) (hw : 0 ≤ w ∧ w ≤ 1000) (hc : cs.length ≤ 100) (h : ∀ k : Bool, (k = true ↔ Right ls w cs num ps) → Q (.sh .im, .bl k) [(.im, encW ls), iS w, (.im, encI cs), iS num, (.im, encI ps)]) : wF d_judge_setting Q X [(.im, encW ls), iS w, (.im, encI cs), iS num, (.im, encI ps)] := by
  unfold d_judge_setting; rw [wF_fn_z]; unfold b_judge_setting
  have h12 := hs.1
  have hl : (encWs ls).length = ls.length := by simp [encWs]
  have hN : ¬ Right ls w cs num ps → Q (.sh .im, .bl false) [(.im, encW ls), iS w, (.im, encI cs), iS num, (.im, encI ps)] := fun z => h _ ⟨fun a => absurd a Bool.false_ne_true, fun a => absurd a z⟩
  rw [wS_seq_z, wS_if_z]
  simp
  refine ragged_w hs hw hc ?_
  simp [ne_opt]
  by_cases c1 : ragP ls w cs = some num
  rotate_left
  · simp [c1]
    exact hN fun z => c1 z.1
  simp [c1, encW, encI, hl]
  by_cases c2 : ps.length = ls.length + 1
  rotate_left
  · simp [show ¬ ((ps.length : Int) = (ls.length : Int) + 1) by omega]
    exact hN fun z => c2 z.2.1
  simp [show ((ps.length : Int) = (ls.length : Int) + 1) by omega]
  have a0 := atI_pg (ps := ps) (i := 0) (by omega)
  have a1 := atI_pl (ps := ps) (by omega)
  simp only [Int.natCast_zero] at a0
  simp [a0, a1]
  by_cases c3 : pg ps 0 = 0
  rotate_left
  · simp [c3]
    exact hN fun z => c3 z.2.2.1
  simp [c3]
  by_cases c4 : pg ps (ps.length - 1) = num
  rotate_left
  · simp [c4]
    exact hN fun z => c4 z.2.2.2.1
  simp [c4]
  have hY : potOk ls w ps → Q (.sh .im, .bl true) [(.im, encW ls), iS w, (.im, encI cs), iS num, (.im, encI ps)] := fun z => h _ ⟨fun _ => ⟨c1, c2, c3, c4, z⟩, fun _ => rfl⟩
  have hN' : ∀ b e, b < ls.length → b < e → e ≤ ls.length → ¬ cell ls w ps b e → Q (.sh .im, .bl false) [(.im, encW ls), iS w, (.im, encI cs), iS num, (.im, encI ps)] := fun b e h1 h2 h3 z => hN fun y => z (y.2.2.2.2 b h1 e h2 h3)
  refine ⟨rngOk_n (by omega), ?_⟩
  refine loop_inv (I := fun j ρ => (∀ b, b < j → ∀ e, b < e → e ≤ ls.length → cell ls w ps b e) ∧ ∃ x y z, ρ = [some (.im, encW ls), some (iS w), some (.im, encI cs), some (iS num), some (.im, encI ps), x, y, z]) ⟨fun b hb => by omega, _, _, _, rfl⟩ ?_ ?_
  · intro b d ρ hk hI
    obtain ⟨hI, x, y, z, rfl⟩ := hI
    obtain ⟨hb, rfl⟩ := rangeD_get hk
    have hb : b < ls.length := by omega
    have done : (∀ e, b < e → e ≤ ls.length → cell ls w ps b e) → ∀ b', b' < b + 1 → ∀ e, b' < e → e ≤ ls.length → cell ls w ps b' e := fun h1 b' h2 e h3 h4 => by
      by_cases q : b' = b
      · subst q; exact h1 e h3 h4
      · exact hI b' (by omega) e h3 h4
    generalize (∀ b', b' < b + 1 → ∀ e, b' < e → e ≤ ls.length → cell ls w ps b' e) = DONE at *
    simp [encW, hl]
    refine ⟨⟨rngOk_of (by omega) (by omega), rngOk_of (by omega) (by omega)⟩, ?_⟩
    refine loop_inv (I := fun j ρ => (∀ e, b < e → e < b + 1 + j → cell ls w ps b e) ∧ ∃ y z, ρ = [some (.im, encW ls), some (iS w), some (.im, encI cs), some (iS num), some (.im, encI ps), some (iS (b : Nat)), y, z]) ⟨fun e h1 h2 => by omega, _, _, rfl⟩ ?_ ?_
    · intro j d ρ hk hJ
      obtain ⟨hJ, y, z, rfl⟩ := hJ
      obtain ⟨hk, rfl⟩ := rangeD_get hk
      obtain ⟨e, he⟩ : ∃ e, e = b + 1 + j := ⟨_, rfl⟩
      have hen : e ≤ ls.length := by omega
      simp
      rw [show ((b : Int) + 1 + (j : Int)) = (e : Nat) by omega]
      refine left_w hs hw ?_
      unfold over
      split
      · rename_i c
        simp [optD, isOp, isD]
        refine ⟨done fun e' h1 h2 => ?_, rfl⟩
        by_cases q : e' < e
        · exact hJ e' h1 (by omega)
        · intro hle
          have := lenAt_mono (ls := ls) (b := b) (show e ≤ e' by omega)
          omega
      · rename_i c
        have pe := atI_pg (ps := ps) (i := e) (by omega)
        have pb := atI_pg (ps := ps) (i := b) (by omega)
        simp [optD, isOp, isD, encI, pe, pb]
        split
        · rename_i c2
          have := hN' b e hb (by omega) hen fun z => by have := z (by omega); omega
          simpa [encW, encI] using this
        · rename_i c2
          intro e' h1 h2
          by_cases q : e' = e
          · subst q; intro _; omega
          · exact hJ e' h1 (by omega)
    · intro ρ hJ
      obtain ⟨hJ, y, z, rfl⟩ := hJ
      rw [rangeD_len] at hJ
      exact ⟨done fun e h1 h2 => hJ e h1 (by omega), _, _, _, rfl⟩
  · intro ρ hI
    obtain ⟨hI, x, y, z, rfl⟩ := hI
    rw [rangeD_len] at hI
    simp
    exact hY fun b hb => hI b (by omega)
theorem min_one {cs : List Int} : ∃ m : Int, minOp [.lst (cs.map D.int ++ [D.int 1])] = some (.s (.int m)) ∧ (m < 1 ↔ ∃ c ∈ cs, c < 1) := by
  have e : cs.map D.int ++ [D.int 1] = (cs ++ [1]).map D.int := by simp
  obtain ⟨h1, h2⟩ := minL_ok (ns := cs ++ [1]) (by simp)
  refine ⟨minL (cs ++ [1]), ?_, ?_⟩
  · rw [e]; unfold minOp; simp only []
    rw [intsOf_map]
    cases hh : cs ++ [1] with
    | nil => simp at hh
    | cons a b => rfl
  · constructor
    · intro h
      rcases List.mem_append.1 h1 with z | z
      · exact ⟨_, z, h⟩
      · simp at z; omega
    · rintro ⟨c, hc, h⟩
      have := h2 c (List.mem_append_left _ hc); omega
theorem sum_pos : ∀ {cs : List Int}, (∀ c ∈ cs, 1 ≤ c) → (cs.length : Int) ≤ cs.sum
  | [], _ => by simp
  | c :: cs, h => by
    have := sum_pos (cs := cs) fun q hq => h q (List.mem_cons_of_mem _ hq)
    have := h c (List.mem_cons_self ..)
    simp; omega
theorem okC_iff {ls : Ws} {cs : List Int} : okC ls cs = true ↔ cs.sum = ls.length ∧ ¬ ∃ c ∈ cs, c < 1 := by
  unfold okC
  simp
  constructor
  · rintro ⟨h1, h2⟩; exact ⟨h2, fun c hc => by have := h1 c hc; omega⟩
  · rintro ⟨h1, h2⟩; exact ⟨fun c hc => by have := h2 c hc; omega, h1⟩
end Lk76

set_option maxHeartbeats 1000000
namespace Lk76
open PySem PySem.Spec PyProof.Rows L2 Den
variable {Q : DV → List (Sh × D) → Prop} {X : Exn → List (Sh × D) → Prop}
theorem lenW_app2 {xs ys : Ws} : lenW ys ≤ lenW (xs ++ ys) := by unfold lenW; simp; omega
theorem lenAt_anti {ls : Ws} {b b' e : Nat} (h : b ≤ b') : lenAt ls b' e ≤ lenAt ls b e := by
  unfold lenAt
  have : (ls.take e).drop b = ((ls.take e).drop b).take (b' - b) ++ (ls.take e).drop b' := by
    have := List.take_append_drop (b' - b) ((ls.take e).drop b)
    rw [List.drop_drop, show b + (b' - b) = b' by omega] at this
    exact this.symm
  rw [this]; exact lenW_app2
theorem over_none {ls : Ws} {w : Int} {b b' e : Nat} (h : b ≤ b') (hn : over ls w b' e = none) : over ls w b e = none := by
  unfold over at hn ⊢
  split at hn
  · have := lenAt_anti (ls := ls) (e := e) h
    rw [if_pos (by omega)]
  · cases hn
abbrev OL := List (Option Int)
def encO (bs : OL) : D := .lst (bs.map optD)
def gt (bs : OL) (i : Nat) : Option Int := bs.getD i none
theorem atI_gt {bs : OL} {i : Nat} (h : i < bs.length) : atI (bs.map optD) (i : Int) = some (optD (gt bs i)) := by
  apply atI_n; rw [List.getElem?_map]; simp [h, gt, List.getD]
def bestFrom (ls : Ws) (w : Int) (bs : OL) (e m : Nat) : Option (Int × Nat) → Prop
  | none => ∀ b, m ≤ b → b < e → over ls w b e = none ∨ gt bs b = none
  | some (v, b) => b < e ∧ (∃ o x, over ls w b e = some o ∧ gt bs b = some x ∧ v = x + o) ∧ ∀ b', m ≤ b' → b' < e → ∀ o x, over ls w b' e = some o → gt bs b' = some x → v ≤ x + o
def optP : Option (Int × Nat) → D
  | none => .non
  | some (v, b) => .tup [.int v, .int (b : Nat)]
theorem optP_n : optP none = .non := rfl
theorem optP_s {v : Int} {b : Nat} : optP (some (v, b)) = .tup [.int v, .int (b : Nat)] := rfl
def isO (s : Sh) : Prop := s = .im ∨ s = .ow .im
def isP (s0 s : Sh) : Prop := s = .im ∨ (s = .ow .im ∧ s0 = .ow .im)
theorem isP.isO {s0 s : Sh} (h : isP s0 s) : isO s := h.imp id And.left
theorem best_stop {ls : Ws} {w : Int} {bs : OL} {e m : Nat} {f : Option (Int × Nat)} (hm : 0 < m) (h : bestFrom ls w bs e m f) (hn : over ls w (m - 1) e = none) : bestFrom ls w bs e 0 f := by
  have far : ∀ b, b < m → over ls w b e = none := fun b hb => over_none (by omega) hn
  cases f with
  | none =>
      intro b _ hb
      by_cases c : m ≤ b
      · exact h b c hb
      · exact .inl (far b (by omega))
  | some p =>
    obtain ⟨v, b⟩ := p
    obtain ⟨h1, h2, h3⟩ := h
    refine ⟨h1, h2, fun b' _ hb o x ho hx => ?_⟩
    by_cases c : m ≤ b'
    · exact h3 b' c hb o x ho hx
    · rw [far b' (by omega)] at ho; cases ho
theorem best_keep {ls : Ws} {w : Int} {bs : OL} {e m : Nat} {f : Option (Int × Nat)} (hm : 0 < m) (h : bestFrom ls w bs e m f)
    (hk : ∀ o x, over ls w (m - 1) e = some o → gt bs (m - 1) = some x → ∃ v b, f = some (v, b) ∧ v ≤ x + o) : bestFrom ls w bs e (m - 1) f := by
  cases f with
  | none =>
      intro b h1 hb
      by_cases c : m ≤ b
      · exact h b c hb
      · have : b = m - 1 := by omega
        subst this
        cases ho : over ls w (m - 1) e with
        | none => exact .inl rfl
        | some o =>
          cases hx : gt bs (m - 1) with
          | none => exact .inr rfl
          | some x => obtain ⟨v, b, z, _⟩ := hk o x ho hx; cases z
  | some p =>
    obtain ⟨v, b⟩ := p
    obtain ⟨h1, h2, h3⟩ := h
    refine ⟨h1, h2, fun b' h4 hb o x ho hx => ?_⟩
    by_cases c : m ≤ b'
    · exact h3 b' c hb o x ho hx
    · have : b' = m - 1 := by omega
      subst this
      obtain ⟨v', b', z, hle⟩ := hk o x ho hx
      cases z; exact hle
theorem best_new {ls : Ws} {w : Int} {bs : OL} {e m : Nat} {f : Option (Int × Nat)} {o x : Int} (hm : 0 < m) (hme : m ≤ e) (h : bestFrom ls w bs e m f)
    (ho : over ls w (m - 1) e = some o) (hx : gt bs (m - 1) = some x) (hk : ∀ v b, f = some (v, b) → x + o ≤ v) : bestFrom ls w bs e (m - 1) (some (x + o, m - 1)) := by
  refine ⟨by omega, ⟨o, x, ho, hx, rfl⟩, fun b' h4 hb o' x' ho' hx' => ?_⟩
  by_cases c : m ≤ b'
  · cases f with
    | none => rcases h b' c hb with z | z
              · rw [z] at ho'; cases ho'
              · rw [z] at hx'; cases hx'
    | some p =>
      obtain ⟨v, b⟩ := p
      have := h.2.2 b' c hb o' x' ho' hx'
      have := hk v b rfl
      omega
  · have : b' = m - 1 := by omega
    subst this
    rw [ho] at ho'; rw [hx] at hx'
    cases ho'; cases hx'; omega
theorem best_w {s0 : Sh} {ls : Ws} {w : Int} {bs : OL} {e : Nat} (hs0 : isO s0) (hs : Small ls) (hw : 0 ≤ w ∧ w ≤ 1000) (he : 0 < e) (hen : e ≤ ls.length) (hb : e ≤ bs.length)
    (h : ∀ s (f : Option (Int × Nat)), isP s0 s → bestFrom ls w bs e 0 f → Q (.sh .im, optP f) [(s, encW ls), iS w, (.ow .im, encO bs), iS (e : Nat)]) : wF d_best_begins Q X [(s0, encW ls), iS w, (.ow .im, encO bs), iS (e : Nat)] := by
  unfold d_best_begins; rw [wF_fn_z]; unfold b_best_begins
  simp
  refine while_inv (fun m ρ => m ≤ e ∧ ∃ s x f, isP s0 s ∧ bestFrom ls w bs e m f ∧ ρ = [some (s, encW ls), some (iS w), some (.ow .im, encO bs), some (iS (e : Nat)), some (.im, optP f), some (iS ((m : Int) - 1)), x]) WN e (by have := hs.1; unfold WN; omega) ⟨Nat.le_refl _, s0, _, none, hs0.elim .inl (fun z => .inr ⟨z, z⟩), (fun b h1 h2 => by omega), rfl⟩ ?_
  rintro m _ ⟨hm, s, x, f, hso, hf, rfl⟩
  by_cases c : m = 0
  · subst c
    simp
    exact h s f hso hf
  have c' : 0 < m := by omega
  have c1 : (1 : Int) ≤ m := by omega
  have go : ∀ {Q X}, Q (.sh .im, optD (over ls w (m - 1) e)) [(.im, encW ls), iS w, iS ((m : Int) - 1), iS (e : Nat)] → wF d_left_over Q X [(s, encW ls), iS w, iS ((m : Int) - 1), iS (e : Nat)] := fun {Q X} z => by
    rw [show ((m : Int) - 1) = ((m - 1 : Nat) : Int) by omega] at z ⊢
    exact left_w hs hw z
  have pb := atI_gt (bs := bs) (i := m - 1) (by omega)
  rw [show ((m - 1 : Nat) : Int) = (m : Int) - 1 by omega] at pb
  have nx : ∀ f x d, d = optP f → bestFrom ls w bs e (m - 1) f → ∃ m', m' < m ∧ m' ≤ e ∧ ∃ s x' f', isP s0 s ∧ bestFrom ls w bs e m' f' ∧ [some (.im, encW ls), some (iS w), some (.ow .im, encO bs), some (iS (e : Nat)), some (.im, d), some (iS ((m : Int) - 1 - 1)), x] = [some (s, encW ls), some (iS w), some (.ow .im, encO bs), some (iS (e : Nat)), some (.im, optP f'), some (iS ((m' : Int) - 1)), x'] := fun f x d hd hf =>
    ⟨m - 1, by omega, by omega, .im, x, f, .inl rfl, hf, by rw [hd, show ((m - 1 : Nat) : Int) - 1 = (m : Int) - 1 - 1 by omega]⟩
  have tf : ∀ f x, optP f = .tup [.int (x : Int), .int ((m : Int) - 1)] → True := fun _ _ _ => trivial
  rcases hso with rfl | ⟨rfl, hs0'⟩ <;> simp [c1] <;> refine go ?_
  all_goals
    cases ho : over ls w (m - 1) e with
    | none =>
      simp [optD, isOp, isD]
      exact h .im f (.inl rfl) (best_stop c' hf ho)
    | some o =>
      cases hx : gt bs (m - 1) with
      | none =>
        rw [hx] at pb
        have z := nx f (some (.im, .int o)) (optP f) rfl (best_keep c' hf fun o' x' _ hx' => by rw [hx] at hx'; cases hx')
        simp at z
        simp [optD, isOp, isNotOp, isD, encO, pb]
        simpa [encO] using z
      | some x =>
        rw [hx] at pb
        have e1 : D.tup [.int (x + o), .int ((m : Int) - 1)] = optP (some (x + o, m - 1)) := by
          show _ = D.tup [.int (x + o), .int ((m - 1 : Nat) : Int)]
          rw [show ((m - 1 : Nat) : Int) = (m : Int) - 1 by omega]
        cases f with
        | none =>
          have z := nx (some (x + o, m - 1)) (some (.im, .int o)) _ e1 (best_new c' hm hf ho hx fun v b z => by cases z)
          simp at z
          simp [optD, isOp, isNotOp, isD, encO, pb, optP_n]
          exact ⟨by decide, by simpa [encO] using z⟩
        | some p =>
          obtain ⟨v, b⟩ := p
          simp [optD, isOp, isNotOp, isD, encO, pb, optP_s, atI0]
          split
          · rename_i c2
            have z := nx (some (x + o, m - 1)) (some (.im, .int o)) _ e1 (best_new c' hm hf ho hx fun v b z => by cases z; omega)
            simp at z
            exact ⟨by decide, by simpa [encO] using z⟩
          · rename_i c2
            have z := nx (some (v, b)) (some (.im, .int o)) _ rfl (best_keep c' hf fun o' x' ho' hx' => ⟨v, b, rfl, by rw [ho] at ho'; rw [hx] at hx'; cases ho'; cases hx'; omega⟩)
            simp at z
            simpa [encO, optP_s] using z
end Lk76

set_option maxHeartbeats 1000000
namespace Lk76
open PySem PySem.Spec PyProof.Rows L2 Den
variable {Q : DV → List (Sh × D) → Prop} {X : Exn → List (Sh × D) → Prop}
def val (ls : Ws) (w : Int) : Nat → List Nat → Option Int
  | _, [] => some 0
  | b, k :: ks => match over ls w b (b + k) with
    | none => none
    | some o => (val ls w (b + k) ks).map (o + ·)
def zs (ks : List Nat) : List Int := ks.map fun (k : Nat) => (k : Int)
def Onec (ks : List Nat) : Prop := ∀ k ∈ ks, 1 ≤ k
theorem rag_val {ls : Ws} {w : Int} : ∀ {ks : List Nat} {b : Nat} {t : Int}, ragL ls w (zs ks) b t = (val ls w b ks).map (t + ·)
  | [], b, t => by simp [zs, ragL, val]
  | k :: ks, b, t => by
    show ragL ls w ((k : Int) :: zs ks) b t = _
    rw [ragL, val, Int.toNat_natCast]
    cases over ls w b (b + k) with
    | none => rfl
    | some o =>
      simp only []
      rw [rag_val]
      cases val ls w (b + k) ks with
      | none => rfl
      | some v => simp [Int.add_assoc]
theorem sum_zs : ∀ {ks : List Nat}, (zs ks).sum = (ks.sum : Nat)
  | [] => rfl
  | k :: ks => by
    show ((k : Int) :: zs ks).sum = _
    rw [List.sum_cons, sum_zs]; simp
theorem okC_zs {ls : Ws} {ks : List Nat} : okC ls (zs ks) = true ↔ Onec ks ∧ ks.sum = ls.length := by
  rw [okC_iff, sum_zs]
  constructor
  · rintro ⟨h1, h2⟩
    refine ⟨fun k hk => ?_, by omega⟩
    by_cases c : 1 ≤ k
    · exact c
    · exact absurd ⟨(k : Int), List.mem_map.2 ⟨k, hk, rfl⟩, by omega⟩ h2
  · rintro ⟨h1, h2⟩
    refine ⟨by omega, ?_⟩
    rintro ⟨c, hc, hl⟩
    obtain ⟨k, hk, rfl⟩ := List.mem_map.1 hc
    have := h1 k hk; omega
theorem ragP_zs {ls : Ws} {w : Int} {ks : List Nat} (h1 : Onec ks) (h2 : ks.sum = ls.length) : ragP ls w (zs ks) = val ls w 0 ks := by
  unfold ragP
  rw [if_pos (okC_zs.2 ⟨h1, h2⟩), rag_val]
  cases val ls w 0 ks with
  | none => rfl
  | some v => simp
theorem over_some {ls : Ws} {w : Int} {b e : Nat} {o : Int} (h : over ls w b e = some o) : (lenAt ls b e : Int) ≤ w ∧ o = sq w ls b e := by
  unfold over at h
  split at h
  · cases h
  · cases h; exact ⟨by omega, rfl⟩
theorem val_cons {ls : Ws} {w : Int} {b k : Nat} {ks : List Nat} {v : Int} (h : val ls w b (k :: ks) = some v) : ∃ o v', over ls w b (b + k) = some o ∧ val ls w (b + k) ks = some v' ∧ v = o + v' := by
  rw [val] at h
  cases ho : over ls w b (b + k) with
  | none => rw [ho] at h; cases h
  | some o =>
    rw [ho] at h
    simp only [] at h
    cases hv : val ls w (b + k) ks with
    | none => rw [hv] at h; cases h
    | some v' => rw [hv] at h; cases h; exact ⟨o, v', rfl, rfl, rfl⟩
theorem pot_le {ls : Ws} {w : Int} {ps : List Int} (hp : potOk ls w ps) : ∀ {ks : List Nat} {b : Nat} {v : Int}, Onec ks → b + ks.sum ≤ ls.length → val ls w b ks = some v → pg ps (b + ks.sum) ≤ pg ps b + v
  | [], b, v, _, _, h => by cases h; simp
  | k :: ks, b, v, h1, h2, h => by
    obtain ⟨o, v', ho, hv, rfl⟩ := val_cons h
    have k1 := h1 k (List.mem_cons_self ..)
    rw [List.sum_cons] at h2 ⊢
    have ih := pot_le hp (ks := ks) (b := b + k) (v := v') (fun q hq => h1 q (List.mem_cons_of_mem _ hq)) (by omega) hv
    obtain ⟨q1, q2⟩ := over_some ho
    have := hp b (by omega) (b + k) (by omega) (by omega) q1
    rw [show b + (k + ks.sum) = b + k + ks.sum by omega]
    omega
/-- what the least setting is -/
structure Least (ls : Ws) (w : Int) (ks : List Nat) (num : Int) (ps : List Int) : Prop where
  one : Onec ks
  sum : ks.sum = ls.length
  val : val ls w 0 ks = some num
  len : ps.length = ls.length + 1
  p0 : pg ps 0 = 0
  pn : pg ps ls.length = num
  pot : potOk ls w ps
theorem Least.right {ls : Ws} {w : Int} {ks : List Nat} {num : Int} {ps : List Int} (h : Least ls w ks num ps) : Right ls w (zs ks) num ps :=
  ⟨by rw [ragP_zs h.one h.sum, h.val], h.len, h.p0, by rw [h.len]; exact h.pn, h.pot⟩
theorem Onec.len : ∀ {ks : List Nat}, Onec ks → ks.length ≤ ks.sum
  | [], _ => by simp
  | k :: ks, h => by
    have := Onec.len (ks := ks) fun q hq => h q (List.mem_cons_of_mem _ hq)
    have := h k (List.mem_cons_self ..)
    simp; omega
theorem atI_nats {ks : List Nat} {i : Nat} (h : i < ks.length) : atI (natsD ks) (i : Int) = some (.int (ks.getD i 0 : Nat)) := by
  apply atI_n; unfold natsD; rw [List.getElem?_map]; simp [h, List.getD]
/-- the list of best numbers so far -/
structure Tab (ls : Ws) (w : Int) (best : List Int) (bs : List Nat) (n : Nat) : Prop where
  l1 : best.length = n + 1
  l2 : bs.length = n + 1
  b0 : pg best 0 = 0
  from' : ∀ e, 1 ≤ e → e < n + 1 → bs.getD e 0 < e ∧ (∃ o, over ls w (bs.getD e 0) e = some o ∧ pg best e = pg best (bs.getD e 0) + o) ∧ ∀ b, b < e → ∀ o, over ls w b e = some o → pg best e ≤ pg best b + o
theorem lenAt_one {ls : Ws} {m : Nat} (h : m < ls.length) : lenAt ls m (m + 1) = (ls[m]).length := by
  unfold lenAt
  have : (ls.take (m + 1)).drop m = [ls[m]] := by
    rw [List.drop_eq_getElem_cons (by simp; omega)]
    simp
  rw [this]; simp [lenW]
theorem one_fits {ls : Ws} {w : Int} {m : Nat} (hf : ∀ l ∈ ls, (l.length : Int) ≤ w) (h : m < ls.length) : over ls w m (m + 1) ≠ none := by
  intro y
  unfold over at y
  split at y
  · rename_i c2
    rw [lenAt_one h] at c2
    have := hf _ (List.getElem_mem (l := ls) (n := m) h)
    omega
  · cases y
theorem gt_some {best : List Int} {i : Nat} (h : i < best.length) : gt (best.map some) i = some (pg best i) := by
  unfold gt pg; simp [h, List.getD]
theorem pg_app1 {best : List Int} {v : Int} {i : Nat} (h : i < best.length) : pg (best ++ [v]) i = pg best i := getD_l h
theorem pg_app2 {best : List Int} {v : Int} : pg (best ++ [v]) best.length = v := by unfold pg; rw [getD_r (Nat.le_refl _), Nat.sub_self]; rfl
theorem Tab.push {ls : Ws} {w : Int} {best : List Int} {bs : List Nat} {n : Nat} {v : Int} {b : Nat} (h : Tab ls w best bs n) (hb : bestFrom ls w (best.map some) (n + 1) 0 (some (v, b))) : Tab ls w (best ++ [v]) (bs ++ [b]) (n + 1) := by
  obtain ⟨q1, ⟨o, x, q2, q3, q4⟩, q5⟩ := hb
  have l1 := h.l1; have l2 := h.l2
  rw [gt_some (by omega)] at q3
  cases q3
  refine ⟨by simp [l1], by simp [l2], by rw [pg_app1 (by omega)]; exact h.b0, fun e h1 h2 => ?_⟩
  by_cases c : e < n + 1
  · obtain ⟨a1, ⟨o', a2, a3⟩, a4⟩ := h.from' e h1 c
    rw [getD_l (by omega), pg_app1 (by omega), pg_app1 (by omega)]
    exact ⟨a1, ⟨o', a2, a3⟩, fun b' hb' o' ho' => by rw [pg_app1 (by omega)]; exact a4 b' hb' o' ho'⟩
  · have : e = n + 1 := by omega
    subst this
    rw [getD_r (by omega), l2, Nat.sub_self]
    have e1 : pg (best ++ [v]) (n + 1) = v := by rw [← l1]; exact pg_app2
    rw [e1]
    show b < n + 1 ∧ (∃ o, over ls w b (n + 1) = some o ∧ v = pg (best ++ [v]) b + o) ∧ _
    rw [pg_app1 (by omega)]
    refine ⟨q1, ⟨o, q2, q4⟩, fun b' hb' o' ho' => ?_⟩
    rw [pg_app1 (by omega)]
    exact q5 b' (by omega) hb' o' _ ho' (gt_some (by omega))
theorem Tab.pot {ls : Ws} {w : Int} {best : List Int} {bs : List Nat} (h : Tab ls w best bs ls.length) : potOk ls w best := fun b hb e h1 h2 hl => by
  refine (h.from' e (by omega) (by omega)).2.2 b h1 _ ?_
  unfold over; rw [if_neg (by omega)]
end Lk76

set_option maxHeartbeats 1000000
namespace Lk76
open PySem PySem.Spec PyProof.Rows L2 Den
variable {Q : DV → List (Sh × D) → Prop} {X : Exn → List (Sh × D) → Prop}
theorem encI_O {best : List Int} : encI best = encO (best.map some) := by unfold encI encO; rw [List.map_map]; rfl
theorem zs_rev {ks : List Nat} : zs ks.reverse = (zs ks).reverse := by simp [zs]
theorem least_w {s : Sh} {ls : Ws} {w : Int} (hso : isO s) (hs : Small ls) (hw : 0 ≤ w ∧ w ≤ 1000) (hf : ∀ l ∈ ls, (l.length : Int) ≤ w)
    (h : ∀ s (ks : List Nat) (num : Int) (ps : List Int), isO s → Least ls w ks num ps → Q (.sh .im, .tup [encI (zs ks), .int num, encI ps]) [(s, encW ls), iS w]) : wF d_least_ragged Q X [(s, encW ls), iS w] := by
  unfold d_least_ragged; rw [wF_fn_z]; unfold b_least_ragged
  have h12 := hs.1
  have hl : (encWs ls).length = ls.length := by simp [encWs]
  refine seq_op (fun ρ => ρ = [some (s, encW ls), some (iS w), some (.ow .im, encI [0]), none, none, none, none, none]) (fun I hI => ?_) ?_
  · simp [sizeLine]; exact hI _ rfl
  rintro _ rfl
  refine seq_op (fun ρ => ρ = [some (s, encW ls), some (iS w), some (.ow .im, encI [0]), some (.ow .im, .lst (natsD [0])), none, none, none, none]) (fun I hI => ?_) ?_
  · simp [sizeLine]; exact hI _ rfl
  rintro _ rfl
  refine seq_op (fun ρ => ∃ (s : Sh) (best : List Int) (bs : List Nat) (x y z : Slot), isO s ∧ Tab ls w best bs ls.length ∧ ρ = [some (s, encW ls), some (iS w), some (.ow .im, encI best), some (.ow .im, .lst (natsD bs)), x, none, y, z]) (fun I hI => ?_) ?_
  · simp [encW, hl]
    refine ⟨⟨rngOk_of (by omega) (by omega), rngOk_of (by omega) (by omega)⟩, ?_⟩
    refine loop_inv (I := fun j ρ => ∃ (s : Sh) (best : List Int) (bs : List Nat) (x y z : Slot), isO s ∧ Tab ls w best bs j ∧ ρ = [some (s, encW ls), some (iS w), some (.ow .im, encI best), some (.ow .im, .lst (natsD bs)), x, none, y, z]) ⟨s, [0], [0], none, none, none, hso, ⟨rfl, rfl, rfl, fun e h1 h2 => by omega⟩, rfl⟩ ?_ ?_
    · intro j d ρ hk hJ
      obtain ⟨s, best, bs, x, y, z, hso, h1, rfl⟩ := hJ
      obtain ⟨hj, rfl⟩ := rangeD_get hk
      have hj2 : j + 1 ≤ ls.length := by clear hk; omega
      rw [gSet_eq]
      refine ⟨by simp, ?_⟩
      simp only [List.set_cons_succ, List.set_cons_zero]
      rw [show (1 + (j : Int)) = ((j + 1 : Nat) : Int) by omega]
      have l1 := h1.l1
      have go : ∀ {Q X}, (∀ s (v : Int) (b : Nat), isO s → Tab ls w (best ++ [v]) (bs ++ [b]) (j + 1) → Q (.sh .im, .tup [.int v, .int (b : Nat)]) [(s, encW ls), iS w, (.ow .im, encI best), iS ((j + 1 : Nat) : Int)]) → wF d_best_begins Q X [(s, encW ls), iS w, (.ow .im, encI best), iS ((j + 1 : Nat) : Int)] := fun {Q X} z => by
        rw [encI_O]
        refine best_w hso hs hw (by omega) hj2 (by simp [l1]) fun s f hso hf' => ?_
        cases f with
        | none =>
          rcases hf' j (by omega) (by omega) with q | q
          · exact absurd q (one_fits hf (by omega))
          · rw [gt_some (by omega)] at q; cases q
        | some p =>
          obtain ⟨v, b⟩ := p
          rw [← encI_O]
          exact z s v b hso.isO (h1.push hf')
      have l2 := h1.l2
      clear h1
      generalize (j + 1 : Nat) = e at *
      rcases hso with rfl | rfl <;> simp <;> refine go fun s v b hs' hb => ?_
      all_goals
        simp [encI, sizeLine]
        refine ⟨by omega, by omega, ?_⟩
        exact ⟨_, by first | exact hs' | exact .inl rfl, best ++ [v], bs ++ [b], hb, rfl, by simp, by simp [natsD]⟩
    · intro ρ hJ
      obtain ⟨s, best, bs, x, y, z, hso, h1, rfl⟩ := hJ
      rw [rangeD_len] at h1
      exact hI _ ⟨s, best, bs, x, y, z, hso, h1, rfl⟩
  rintro _ ⟨s, best, bs, x, y, z, hso, ht, rfl⟩
  refine seq_op (fun ρ => ρ = [some (s, encW ls), some (iS w), some (.ow .im, encI best), some (.ow .im, .lst (natsD bs)), x, some (.ow .im, .lst []), y, z]) (fun I hI => ?_) ?_
  · simp [sizeLine]; exact hI _ rfl
  rintro _ rfl
  refine seq_op (fun ρ => ρ = [some (s, encW ls), some (iS w), some (.ow .im, encI best), some (.ow .im, .lst (natsD bs)), some (iS (ls.length : Nat)), some (.ow .im, .lst []), y, z]) (fun I hI => ?_) ?_
  · simp [encW, hl]; exact hI _ rfl
  rintro _ rfl
  have l1 := ht.l1
  have l2 := ht.l2
  refine seq_op (fun ρ => ∃ (ks : List Nat) (x : Slot), Onec ks ∧ ks.sum = ls.length ∧ val ls w 0 ks = some (pg best ls.length) ∧ ρ = [some (s, encW ls), some (iS w), some (.ow .im, encI best), some (.ow .im, .lst (natsD bs)), x, some (.ow .im, encI (zs ks.reverse)), y, z]) (fun I hI => ?_) ?_
  · refine while_inv (fun m ρ => ∃ (ks : List Nat) (v : Int), Onec ks ∧ m + ks.sum = ls.length ∧ val ls w m ks = some v ∧ pg best m + v = pg best ls.length ∧ ρ = [some (s, encW ls), some (iS w), some (.ow .im, encI best), some (.ow .im, .lst (natsD bs)), some (iS (m : Nat)), some (.ow .im, encI (zs ks.reverse)), y, z]) WN ls.length (by unfold WN; omega) ⟨[], 0, (fun k hk => by cases hk), rfl, rfl, by omega, rfl⟩ ?_
    rintro m _ ⟨ks, v, hc, hm, hv, hp, rfl⟩
    by_cases c : m = 0
    · subst c
      simp
      have p0 := ht.b0
      exact hI _ ⟨ks, _, hc, by omega, by rw [hv]; congr 1; omega, rfl⟩
    have c' : 0 < m := by omega
    have at1 := atI_nats (ks := bs) (i := m) (by omega)
    obtain ⟨lt1, ⟨o, ho, hpo⟩, _⟩ := ht.from' m (by omega) (by omega)
    have kl := hc.len
    generalize bs.getD m 0 = B at *
    simp [c', at1, encI, sizeLine]
    refine ⟨by simp [zs]; omega, B, lt1, (m - B) :: ks, fun k hk => ?_, by simp; omega, ?_⟩
    · rcases List.mem_cons.1 hk with rfl | hk
      · omega
      · exact hc k hk
    refine ⟨o + v, ?_, by omega, rfl, ?_⟩
    · rw [val, show B + (m - B) = m by omega, ho, hv]; rfl
    · simp [zs]; omega
  rintro _ ⟨ks, x, hc1, hc2, hv, rfl⟩
  have a1 := atI_pl (ps := best) (by omega)
  simp [encI, a1, sizeLine, zs_rev]
  have := h s ks _ best hso ⟨hc1, hc2, hv, l1, ht.b0, rfl, ht.pot⟩
  rw [l1]
  simpa [encI] using this
end Lk76

set_option maxHeartbeats 1000000
namespace Lk76
open PySem PySem.Spec PyProof.Rows L2 Den
variable {Q : DV → List (Sh × D) → Prop} {X : Exn → List (Sh × D) → Prop}
theorem lrag_w {s : Sh} {ls : Ws} {w : Int} {cs : List Int} (hs : Small ls) (hw : 0 ≤ w ∧ w ≤ 1000) (hso : isO s) (hc : cs.length ≤ 100) (h : ∀ s, isO s → Q (.sh .im, optD (ragP ls w cs)) [(.im, encW ls), iS w, (s, encI cs)]) : wF d__law_ragged Q X [(.im, encW ls), iS w, (s, encI cs)] := by
  unfold d__law_ragged; rw [wF_fn_z]; unfold b__law_ragged
  have h12 := hs.1
  have hl : (encWs ls).length = ls.length := by simp [encWs]
  obtain ⟨m, hm, hmi⟩ := min_one (cs := cs)
  have ok := okC_iff (ls := ls) (cs := cs)
  by_cases c1 : cs.sum = ls.length
  rotate_left
  · have e : ragP ls w cs = none := by unfold ragP; rw [if_neg fun z => c1 (ok.1 z).1]
    rw [e] at h
    rcases hso with rfl | rfl
    · have := h .im (.inl rfl)
      simp [encW, encI, hl, c1]
      simpa [encW, encI, optD] using this
    · have := h (.ow .im) (.inr rfl)
      simp [encW, encI, hl, c1]
      simpa [encW, encI, optD] using this
  have h := h .im (.inl rfl)
  by_cases c2 : m < 1
  · have e : ragP ls w cs = none := by unfold ragP; rw [if_neg fun z => (ok.1 z).2 (hmi.1 c2)]
    rw [e] at h
    rcases hso with rfl | rfl
    all_goals
      simp [encW, encI, hl, c1, hm, c2, sizeLine]
      exact ⟨by omega, by simpa [encW, encI, optD] using h⟩
  have ok1 := ok.2 ⟨c1, fun z => c2 (hmi.2 z)⟩
  have one : ∀ c ∈ cs, 1 ≤ c := fun c hc => by have : ¬ c < 1 := fun z => c2 (hmi.2 ⟨c, hc, z⟩); omega
  have er : ragP ls w cs = ragL ls w cs 0 0 := by unfold ragP; rw [if_pos ok1]
  rw [er] at h
  refine seq_op (fun ρ => ρ = [some (.im, encW ls), some (iS w), some (.im, encI cs), none, none, none, none]) (fun I hI => ?_) ?_
  · rcases hso with rfl | rfl
    all_goals
      simp [encW, encI, hl, c1, hm, c2, sizeLine]
      exact ⟨by omega, hI _ rfl⟩
  rintro _ rfl
  simp [encI]
  refine ⟨rngOk_n (by omega), ?_⟩
  refine loop_inv (I := fun j ρ => ∃ (b : Nat) (t : Int) (x y : Slot), ragL ls w cs 0 0 = ragL ls w (cs.drop j) b t ∧ (b : Int) + (cs.drop j).sum = ls.length ∧ ρ = [some (.im, encW ls), some (iS w), some (.im, encI cs), some (iS t), some (iS (b : Nat)), x, y]) ⟨0, 0, _, _, rfl, by simpa using c1, rfl⟩ ?_ ?_
  · intro j d ρ hj hI
    obtain ⟨b, t, x, y, hI, hsum, rfl⟩ := hI
    obtain ⟨hj2, rfl⟩ := rangeD_get hj
    have hj : j < cs.length := by clear hj; omega
    obtain ⟨c, hc'⟩ : ∃ c, c = cs[j] := ⟨_, rfl⟩
    have hr : cs[j]? = some c := by rw [hc']; exact List.getElem?_eq_getElem hj
    have hd : cs.drop j = c :: cs.drop (j + 1) := by rw [List.drop_eq_getElem_cons hj, hc']
    have cc := one c (List.mem_of_getElem? hr)
    have hat : atI (cs.map D.int) (j : Int) = some (.int c) := by apply atI_n; rw [List.getElem?_map, hr]; rfl
    rw [hd, ragL] at hI
    rw [hd] at hsum
    simp at hsum
    simp [encI, hat]
    obtain ⟨e, he⟩ : ∃ e, e = b + c.toNat := ⟨_, rfl⟩
    have ec : ((b : Int) + c) = (e : Nat) := by omega
    rw [← he] at hI
    rw [ec]
    simp [encW]
    rw [cut_encW]
    refine llen_w (hs.cut _ _) ?_
    have hle := (hs.cut b e).le
    unfold over at hI
    have hla : lenAt ls b e = lenW ((ls.take e).drop b) := rfl
    rw [← hla] at hle ⊢
    have hpos := sum_pos (cs := cs.drop (j + 1)) fun q hq => one q (List.mem_of_mem_drop hq)
    simp at hpos
    have fin : ∀ o, (¬ w < (lenAt ls b e : Nat)) → o = sq w ls b e → ragL ls w cs 0 0 = ragL ls w (cs.drop (j + 1)) e (t + o) := fun o h1 h2 => by
      rw [hI, if_neg h1, h2]
    have bad : w < (lenAt ls b e : Nat) → ragL ls w cs 0 0 = none := fun h1 => by rw [hI, if_pos h1]
    unfold sq at fin
    clear hla hI
    generalize lenAt ls b e = L at *
    simp [encW, hl, hat]
    split
    · rename_i c1
      rw [bad c1] at h
      simpa [encW, encI, optD] using h
    · rename_i c1
      split
      · rename_i c2
        have e0 : e ≠ ls.length := fun z => by omega
        have f := fin _ c1 (by rw [if_neg e0])
        have mo : mulOk (w - (L : Int)) (w - (L : Int)) = true := mulOk_r (by omega)
        simp [encI, hat, mo]
        exact ⟨e, _, f, by omega, by simp [encW]; omega⟩
      · rename_i c2
        have e0 : e = ls.length := by
          have : cs.drop (j + 1) = [] := List.drop_eq_nil_of_le (by omega)
          rw [this] at hsum; simp at hsum; omega
        have f := fin 0 c1 (by rw [if_pos e0])
        exact ⟨e, t, by simpa using f, by omega, rfl, by omega⟩
  · intro ρ hI
    obtain ⟨b, t, x, y, hI, hsum, rfl⟩ := hI
    rw [rangeD_len, List.drop_length, ragL] at hI
    rw [hI] at h
    simp
    simpa [encW, encI, optD] using h
theorem isint_w {i : Int} (h : Q (.sh .im, .bl true) [iS i]) : wF d__law_is_int Q X [iS i] := by
  unfold d__law_is_int; rw [wF_fn_z]; unfold b__law_is_int
  simp [isiOp, tyName, isiB]
  exact h
theorem lpot_w {ls : Ws} {w num : Int} {cs ps : List Int} (hs : Small ls) (h0 : 0 < ls.length) (hw : 0 ≤ w ∧ w ≤ 1000) (hR : Right ls w cs num ps) (h : Q (.sh .im, .bl true) [(.im, encW ls), iS w, iS num, (.im, encI ps)]) : wF d__law_potentials_right Q X [(.im, encW ls), iS w, iS num, (.im, encI ps)] := by
  unfold d__law_potentials_right; rw [wF_fn_z]; unfold b__law_potentials_right
  have h12 := hs.1
  have hl : (encWs ls).length = ls.length := by simp [encWs]
  obtain ⟨_, r1, r2, r3, r4⟩ := hR
  refine seq_op (fun ρ => ρ = [some (.im, encW ls), some (iS w), some (iS num), some (.im, encI ps), none, none, none, none, none]) (fun I hI => ?_) ?_
  · have e1 : ((ps.length : Int) = (ls.length : Int) + 1) := by omega
    simp [encW, encI, hl, e1, ownIm, wipeR, isiOp, tyName, isiB]
    refine wC_map (fun _ => .bl true) (by simp [sizeLine]; omega) ?_ ?_
    · intro d hd
      simp at hd; obtain ⟨i, hi, rfl⟩ := hd
      simp
      refine isint_w ?_
      simp [wipeR]
    · rw [List.nil_append]
      have ac := all_const (xs := ps.map D.int)
      generalize (ps.map D.int).map (fun _ => D.bl true) = zz at *
      simp [mergeR, ac]
      exact hI _ rfl
  rintro _ rfl
  have a0 := atI_pg (ps := ps) (i := 0) (by omega)
  have a1 := atI_pl (ps := ps) (by omega)
  simp only [Int.natCast_zero] at a0
  refine seq_op (fun ρ => ρ = [some (.im, encW ls), some (iS w), some (iS num), some (.im, encI ps), none, none, none, none, none]) (fun I hI => ?_) ?_
  · simp [encI, a0, a1, r2, r3]
    exact hI _ rfl
  rintro _ rfl
  simp [encW, hl]
  refine ⟨rngOk_n (by omega), ?_⟩
  refine loop_inv (I := fun j ρ => ∃ x y z u v, ρ = [some (.im, encW ls), some (iS w), some (iS num), some (.im, encI ps), x, y, z, u, v]) ⟨_, _, _, _, _, rfl⟩ ?_ ?_
  · intro b d ρ hk hI
    obtain ⟨x, y, z, u, v, rfl⟩ := hI
    obtain ⟨hb, rfl⟩ := rangeD_get hk
    have hb : b < ls.length := by clear hk; omega
    simp [encW, hl]
    refine ⟨⟨rngOk_of (by omega) (by omega), rngOk_of (by omega) (by omega)⟩, ?_⟩
    refine loop_inv (I := fun j ρ => ∃ y z u v, ρ = [some (.im, encW ls), some (iS w), some (iS num), some (.im, encI ps), some (iS (b : Nat)), y, z, u, v]) ⟨_, _, _, _, rfl⟩ ?_ ?_
    · intro j d ρ hk hJ
      obtain ⟨y, z, u, v, rfl⟩ := hJ
      obtain ⟨hj, rfl⟩ := rangeD_get hk
      obtain ⟨e, he⟩ : ∃ e, e = b + 1 + j := ⟨_, rfl⟩
      have hen : e ≤ ls.length := by clear hk; omega
      rw [show ((b : Int) + 1 + (j : Int)) = (e : Nat) by omega]
      simp [encW]
      rw [cut_encW]
      refine llen_w (hs.cut _ _) ?_
      have hle := (hs.cut b e).le
      have hla : lenAt ls b e = lenW ((ls.take e).drop b) := rfl
      rw [← hla] at hle ⊢
      have pe := atI_pg (ps := ps) (i := e) (by omega)
      have pb := atI_pg (ps := ps) (i := b) (by omega)
      have r5 := r4 b hb e (by omega) hen
      unfold cell sq at r5
      clear hla hk
      generalize lenAt ls b e = L at *
      have mo : mulOk (w - (L : Int)) (w - (L : Int)) = true := mulOk_r (by omega)
      simp [encW, hl]
      · intro c8
        split
        · rename_i c9
          rw [if_pos (by omega)] at r5
          have := r5 c8
          simp [encI, pe, pb, show ¬ (pg ps b < pg ps e) by omega, encW]
        · rename_i c9
          rw [if_neg (by omega)] at r5
          have := r5 c8
          simp [encI, pe, pb, mo, show ¬ (pg ps b + (w - (L : Int)) * (w - L) < pg ps e) by omega, encW]
    · intro ρ hJ
      obtain ⟨y, z, u, v, rfl⟩ := hJ
      exact ⟨_, _, _, _, _, rfl⟩
  · intro ρ hI
    obtain ⟨x, y, z, u, v, rfl⟩ := hI
    simp
    exact h
end Lk76

set_option maxHeartbeats 1000000
namespace Lk76
open PySem PySem.Spec PyProof.Rows L2 Den
def fitL (ls : Ws) (w : Int) : Nat → List Nat → Prop
  | b, [] => b = ls.length
  | b, k :: ks => 1 ≤ k ∧ b + k ≤ ls.length ∧ (lenAt ls b (b + k) : Int) ≤ w ∧ fitL ls w (b + k) ks
def grOk (ls : Ws) (w : Int) : Nat → List Nat → Prop
  | b, [] => b = ls.length
  | b, k :: ks => 1 ≤ k ∧ b + k ≤ ls.length ∧ (lenAt ls b (b + k) : Int) ≤ w ∧ (b + k < ls.length → w < (lenAt ls b (b + k + 1) : Int)) ∧ grOk ls w (b + k) ks
theorem gr_fit {ls : Ws} {w : Int} : ∀ {ks : List Nat} {b : Nat}, grOk ls w b ks → fitL ls w b ks
  | [], _, h => h
  | _ :: _, _, ⟨h1, h2, h3, _, h5⟩ => ⟨h1, h2, h3, gr_fit h5⟩
theorem fit_le {ls : Ws} {w : Int} : ∀ {ks : List Nat} {b : Nat}, fitL ls w b ks → b ≤ ls.length
  | [], _, h => by have : _ = _ := h; omega
  | _ :: _, _, ⟨h1, h2, _⟩ => by omega
theorem fit_one {ls : Ws} {w : Int} : ∀ {ks : List Nat} {b : Nat}, fitL ls w b ks → Onec ks
  | [], _, _ => fun k hk => by cases hk
  | _ :: _, _, ⟨h1, _, _, h4⟩ => fun k hk => by
    rcases List.mem_cons.1 hk with rfl | hk
    · exact h1
    · exact fit_one h4 k hk
theorem fit_sum {ls : Ws} {w : Int} : ∀ {ks : List Nat} {b : Nat}, fitL ls w b ks → b + ks.sum = ls.length
  | [], _, h => by have : _ = _ := h; simp; omega
  | _ :: _, _, ⟨h1, _, _, h4⟩ => by have := fit_sum h4; simp; omega
theorem over_fit {ls : Ws} {w : Int} {b e : Nat} (h : (lenAt ls b e : Int) ≤ w) : over ls w b e = some (sq w ls b e) := by
  unfold over; rw [if_neg (by omega)]
theorem fit_val {ls : Ws} {w : Int} : ∀ {ks : List Nat} {b : Nat}, fitL ls w b ks → ∃ v, val ls w b ks = some v
  | [], _, _ => ⟨0, rfl⟩
  | k :: ks, b, ⟨h1, _, h3, h4⟩ => by
    obtain ⟨v, hv⟩ := fit_val h4
    exact ⟨sq w ls b (b + k) + v, by rw [val, over_fit h3, hv]; rfl⟩
theorem val_fit {ls : Ws} {w : Int} : ∀ {ks : List Nat} {b : Nat} {v : Int}, Onec ks → b + ks.sum = ls.length → val ls w b ks = some v → fitL ls w b ks
  | [], b, _, _, h, _ => by show b = ls.length; simpa using h
  | k :: ks, b, v, h1, h2, h => by
    obtain ⟨o, v', ho, hv, rfl⟩ := val_cons h
    rw [List.sum_cons] at h2
    exact ⟨h1 k (List.mem_cons_self ..), by omega, (over_some ho).1, val_fit (fun q hq => h1 q (List.mem_cons_of_mem _ hq)) (by omega) hv⟩
theorem gr_dom {ls : Ws} {w : Int} : ∀ {s g : List Nat} {b c : Nat}, fitL ls w b s → grOk ls w c g → b ≤ c → ∀ k, k < s.length → k < g.length → b + (s.take (k + 1)).sum ≤ c + (g.take (k + 1)).sum
  | [], _, _, _, _, _, _, k, h, _ => by simp at h
  | _ :: _, [], _, _, _, _, _, k, _, h => by simp at h
  | x :: s, y :: g, b, c, ⟨a1, a2, a3, a4⟩, ⟨c1, c2, c3, c4, c5⟩, hbc, k, h1, h2 => by
    have key : b + x ≤ c + y := by
      by_cases z : b + x ≤ c + y
      · exact z
      · have q1 := c4 (by omega)
        have q2 := lenAt_anti (ls := ls) (e := c + y + 1) hbc
        have q3 := lenAt_mono (ls := ls) (b := b) (show c + y + 1 ≤ b + x by omega)
        omega
    cases k with
    | zero => simp; exact key
    | succ k =>
      have := gr_dom a4 c5 key k (by simpa using h1) (by simpa using h2)
      rw [List.take_succ_cons, List.take_succ_cons, List.sum_cons, List.sum_cons]; omega
theorem gr_len {ls : Ws} {w : Int} : ∀ {s g : List Nat} {b c : Nat}, fitL ls w b s → grOk ls w c g → b ≤ c → g.length ≤ s.length
  | _, [], _, _, _, _, _ => by simp
  | [], y :: g, b, c, h, ⟨c1, c2, _⟩, hbc => by have : b = ls.length := h; omega
  | x :: s, y :: g, b, c, ⟨a1, a2, a3, a4⟩, ⟨c1, c2, c3, c4, c5⟩, hbc => by
    have key : b + x ≤ c + y := by
      by_cases z : b + x ≤ c + y
      · exact z
      · have q1 := c4 (by omega)
        have q2 := lenAt_anti (ls := ls) (e := c + y + 1) hbc
        have q3 := lenAt_mono (ls := ls) (b := b) (show c + y + 1 ≤ b + x by omega)
        omega
    have := gr_len a4 c5 key
    simp; omega
/-! all settings -/
def fitW (w : Int) : Ws → List Nat → Prop
  | ls, [] => ls = []
  | ls, k :: ks => 1 ≤ k ∧ k ≤ ls.length ∧ (lenW (ls.take k) : Int) ≤ w ∧ fitW w (ls.drop k) ks
theorem fitW_L {ls : Ws} {w : Int} : ∀ {ks : List Nat} {b : Nat}, b ≤ ls.length → (fitW w (ls.drop b) ks ↔ fitL ls w b ks)
  | [], b, hb => by show ls.drop b = [] ↔ b = ls.length; rw [List.drop_eq_nil_iff]; omega
  | k :: ks, b, hb => by
    show (1 ≤ k ∧ k ≤ (ls.drop b).length ∧ (lenW ((ls.drop b).take k) : Int) ≤ w ∧ fitW w ((ls.drop b).drop k) ks) ↔ (1 ≤ k ∧ b + k ≤ ls.length ∧ (lenAt ls b (b + k) : Int) ≤ w ∧ fitL ls w (b + k) ks)
    have e : (ls.drop b).take k = (ls.take (b + k)).drop b := by rw [List.drop_take, Nat.add_sub_cancel_left]
    rw [e, List.drop_drop]
    show _ ∧ _ ∧ (lenAt ls b (b + k) : Int) ≤ w ∧ _ ↔ _
    constructor
    · rintro ⟨h1, h2, h3, h4⟩
      have h2' : b + k ≤ ls.length := by simp at h2; omega
      exact ⟨h1, h2', h3, (fitW_L h2').1 h4⟩
    · rintro ⟨h1, h2, h3, h4⟩
      exact ⟨h1, by simp; omega, h3, (fitW_L h2).2 h4⟩
def allJ (w : Int) (rec : Ws → List (List Nat)) (ls : Ws) : Nat → List (List Nat)
  | 0 => []
  | j + 1 => allJ w rec ls j ++ if (lenW (ls.take (j + 1)) : Int) ≤ w then (rec (ls.drop (j + 1))).map ((j + 1) :: ·) else []
def allS (w : Int) : Nat → Ws → List (List Nat)
  | 0, _ => [[]]
  | f + 1, ls => if ls = [] then [[]] else allJ w (allS w f) ls ls.length
theorem mem_allJ {w : Int} {rec : Ws → List (List Nat)} {ls : Ws} {s : List Nat} : ∀ {j : Nat}, s ∈ allJ w rec ls j ↔ ∃ k t, s = k :: t ∧ 1 ≤ k ∧ k ≤ j ∧ (lenW (ls.take k) : Int) ≤ w ∧ t ∈ rec (ls.drop k)
  | 0 => by
    simp [allJ]; intro k t _ h1 h2; omega
  | j + 1 => by
    rw [allJ, List.mem_append, mem_allJ]
    constructor
    · rintro (⟨k, t, h1, h2, h3, h4⟩ | h)
      · exact ⟨k, t, h1, h2, by omega, h4⟩
      · split at h
        · rename_i c
          obtain ⟨t, ht, rfl⟩ := List.mem_map.1 h
          exact ⟨j + 1, t, rfl, by omega, by omega, c, ht⟩
        · cases h
    · rintro ⟨k, t, h1, h2, h3, h4, h5⟩
      by_cases c : k ≤ j
      · exact .inl ⟨k, t, h1, h2, c, h4, h5⟩
      · have : k = j + 1 := by omega
        subst this
        right; rw [if_pos h4]; exact List.mem_map.2 ⟨t, h5, h1.symm⟩
theorem mem_allS {w : Int} : ∀ {f : Nat} {ls : Ws} {s : List Nat}, ls.length ≤ f → (s ∈ allS w f ls ↔ fitW w ls s)
  | 0, ls, s, h => by
    have : ls = [] := List.eq_nil_of_length_eq_zero (by omega)
    subst this
    cases s with
    | nil => simp [allS, fitW]
    | cons k t => simp [allS, fitW]; intro h1 h2; omega
  | f + 1, ls, s, h => by
    rw [allS]
    split
    · rename_i c
      subst c
      cases s with
      | nil => simp [fitW]
      | cons k t => simp [fitW]; intro h1 h2; omega
    · rename_i c
      rw [mem_allJ]
      cases s with
      | nil => simp [fitW, c]
      | cons k t =>
        constructor
        · rintro ⟨k', t', h1, h2, h3, h4, h5⟩
          cases h1
          exact ⟨h2, h3, h4, (mem_allS (by simp; omega)).1 h5⟩
        · rintro ⟨h2, h3, h4, h5⟩
          exact ⟨k, t, rfl, h2, h3, h4, (mem_allS (by simp; omega)).2 h5⟩
theorem len_allJ {w : Int} {rec : Ws → List (List Nat)} {ls : Ws} (hr : ∀ k, 1 ≤ k → (rec (ls.drop k)).length ≤ 2 ^ (ls.length - k)) : ∀ {j : Nat}, j ≤ ls.length → (allJ w rec ls j).length + 2 ^ (ls.length - j) ≤ 2 ^ ls.length
  | 0, _ => by simp [allJ]
  | j + 1, h => by
    have ih := len_allJ (w := w) hr (j := j) (by omega)
    have hr' := hr (j + 1) (by omega)
    have e : 2 ^ (ls.length - j) = 2 * 2 ^ (ls.length - (j + 1)) := by
      rw [show ls.length - j = ls.length - (j + 1) + 1 by omega, Nat.pow_succ]; omega
    rw [allJ, List.length_append]
    split
    · rw [List.length_map]; omega
    · simp; omega
theorem len_allS {w : Int} : ∀ {f : Nat} {ls : Ws}, (allS w f ls).length ≤ 2 ^ ls.length
  | 0, ls => by simp [allS]; exact Nat.one_le_two_pow
  | f + 1, ls => by
    rw [allS]
    split
    · simp; exact Nat.one_le_two_pow
    · have := len_allJ (w := w) (rec := allS w f) (ls := ls) (fun k hk => by
        have := len_allS (w := w) (f := f) (ls := ls.drop k)
        rwa [List.length_drop] at this) (j := ls.length) (Nat.le_refl _)
      exact Nat.le_trans (Nat.le_add_right _ _) this
end Lk76

set_option maxHeartbeats 1000000
namespace Lk76
open PySem PySem.Spec PyProof.Rows L2 Den
variable {Q : DV → List (Sh × D) → Prop} {X : Exn → List (Sh × D) → Prop}
def Okw (ls : Ws) : Prop := ∀ l ∈ ls, PyData.strOk (S l) = true
theorem eq_encW {ls ms : Ws} (h : Okw ls) (h' : Okw ms) : eqOp (encW ls) (encW ms) = some (.s (.bl (decide (ls = ms)))) := by
  have ew : ∀ ls : Ws, encW ls = .lst ((ls.map S).map D.str) := fun ls => by unfold encW encWs; simp
  have ok : ∀ {ls : Ws}, Okw ls → AllOk (ls.map S) := fun {ls} h t ht => by
    obtain ⟨l, hl, rfl⟩ := List.mem_map.1 ht; exact h l hl
  rw [ew, ew, eq_strsL (ok h) (ok h')]
  congr 3
  rw [decide_eq_decide]
  constructor
  · intro z
    have inj : ∀ {a b : Ws}, a.map S = b.map S → a = b := by
      intro a
      induction a with
      | nil => intro b hb; cases b with
        | nil => rfl
        | cons => simp at hb
      | cons x a ih => intro b hb; cases b with
        | nil => simp at hb
        | cons y b =>
          simp at hb
          rw [S_inj] at hb
          rw [hb.1, ih hb.2]
    exact inj z
  · intro z; rw [z]
theorem Okw.drop {ls : Ws} (h : Okw ls) (k : Nat) : Okw (ls.drop k) := fun l hl => h l (List.mem_of_mem_drop hl)
theorem st_fit {w : Int} {k : Nat} {ls : Ws} {t : List Nat} (h : t ∈ allS w k ls) (hk : ls.length ≤ k) : fitL ls w 0 t := by
  have := (mem_allS hk).1 h
  exact (fitW_L (Nat.zero_le _)).1 (by simpa using this)
theorem fit_len {w : Int} {ls : Ws} {t : List Nat} (h : fitL ls w 0 t) : t.length ≤ ls.length := by
  have h1 := (fit_one h).len
  have h2 := fit_sum h
  omega
def encSt (ss : List (List Nat)) : List D := ss.map fun s => encI (zs s)
def consD (c : D) : D → D
  | .lst ds => .lst (c :: ds)
  | d => d
theorem settings_w {w : Int} : ∀ {k : Nat} {ls : Ws} {s : Sh} {Q : DV → List (Sh × D) → Prop} {X : Exn → List (Sh × D) → Prop}, isO s → Small ls → Okw ls → ls.length ≤ k → ls.length ≤ 9 →
    (∀ s, Q (.sh (.ow .im), .lst (encSt (allS w k ls))) [(s, encW ls), iS w]) → wF (d__law_settings (k + 1)) Q X [(s, encW ls), iS w] := by
  intro k
  induction k with
  | zero =>
    intro ls s Q X hso hs ho hk h9 h
    have : ls = [] := List.eq_nil_of_length_eq_zero (by omega)
    subst this
    show wF (fnDen _ _ _ _) _ _ _
    rw [wF_fn_z]; unfold b__law_settings
    have e := eq_encW (ls := []) (ms := []) ho ho
    have h1 := h s
    rcases hso with rfl | rfl
    all_goals
      simp [encW, encWs] at e
      simp [encW, encWs, e, sizeLine]
      simpa [encW, encWs, allS, encSt, zs, encI] using h1
  | succ k ih =>
    intro ls s Q X hso hs ho hk h9 h
    show wF (fnDen _ _ _ _) _ _ _
    rw [wF_fn_z]; unfold b__law_settings
    have e := eq_encW (ls := ls) (ms := []) ho (fun l hl => by cases hl)
    have hl : (encWs ls).length = ls.length := by simp [encWs]
    by_cases c : ls = []
    · subst c
      have h1 := h s
      rcases hso with rfl | rfl
      all_goals
        simp [encW, encWs] at e
        simp [encW, encWs, e, sizeLine]
        simpa [encW, encWs, allS, encSt, zs, encI] using h1
    · rw [show allS w (k + 1) ls = allJ w (allS w k) ls ls.length from if_neg c] at h
      refine seq_op (fun ρ => ρ = [some (s, encW ls), some (iS w), none, none, none]) (fun I hI => ?_) ?_
      · rcases hso with rfl | rfl
        all_goals
          rw [show encW ([] : Ws) = .lst [] from rfl] at e
          simp [c] at e
          simp [e]
          exact hI _ rfl
      rintro _ rfl
      refine seq_op (fun ρ => ρ = [some (s, encW ls), some (iS w), some (.ow .im, .lst []), none, none]) (fun I hI => ?_) ?_
      · simp [sizeLine]; exact hI _ rfl
      rintro _ rfl
      simp [encW, hl]
      refine ⟨⟨rngOk_of (by omega) (by omega), rngOk_of (by omega) (by omega)⟩, ?_⟩
      refine loop_inv (I := fun j ρ => ∃ s x, isO s ∧ ρ = [some (s, encW ls), some (iS w), some (.ow .im, .lst (encSt (allJ w (allS w k) ls j))), x, none]) ⟨s, none, hso, rfl⟩ ?_ ?_
      · intro j d ρ hj hI
        obtain ⟨s, x, hso, rfl⟩ := hI
        obtain ⟨hj, rfl⟩ := rangeD_get hj
        have hj2 : j + 1 ≤ ls.length := by omega
        rw [gSet_eq]
        refine ⟨by simp, ?_⟩
        simp only [List.set_cons_succ, List.set_cons_zero]
        rw [show (1 + (j : Int)) = ((j + 1 : Nat) : Int) by omega]
        obtain ⟨e, he⟩ : ∃ e, e = j + 1 := ⟨_, rfl⟩
        have lt : lenW (ls.take e) ≤ 200 := by have := (hs.cut 0 e).le; simpa using this
        have st : Small (ls.take e) := by have := hs.cut 0 e; simpa using this
        have sd : Small (ls.drop e) := by have := hs.cut e ls.length; simpa using this
        have ct : Den.cutD (encWs ls) none (some (e : Int)) = encWs (ls.take e) := by unfold encWs; rw [cut_map, cut_to]
        have cf : Den.cutD (encWs ls) (some (e : Int)) none = encWs (ls.drop e) := by unfold encWs; rw [cut_map, cut_from]
        have nx : ∀ x, (allJ w (allS w k) ls (j + 1)) = (allJ w (allS w k) ls j) ++ x → True := fun _ _ => trivial
        have len := len_allJ (w := w) (rec := allS w k) (ls := ls) (fun k' hk => by
          have := len_allS (w := w) (f := k) (ls := ls.drop k')
          rwa [List.length_drop] at this) (j := j + 1) hj2
        have len0 : 2 ^ ls.length ≤ 512 := by
          have : 2 ^ ls.length ≤ 2 ^ 9 := Nat.pow_le_pow_right (by decide) h9
          omega
        rw [allJ, ← he] at len
        rw [allJ]
        rw [← he]
        generalize allJ w (allS w k) ls j = A at *
        have fin : ∀ {y : Slot} {s : Sh} {dl : List D} (B : List (List Nat)), isO s → dl = encSt (A ++ B) → B = (if (lenW (ls.take e) : Int) ≤ w then (allS w k (ls.drop e)).map (e :: ·) else []) → ∃ s' x, isO s' ∧ [some (s, encW ls), some (iS w), some (Sh.ow .im, D.lst dl), y, none] = [some (s', encW ls), some (iS w), some (.ow .im, .lst (encSt (A ++ (if (lenW (ls.take e) : Int) ≤ w then (allS w k (ls.drop e)).map (e :: ·) else [])))), x, none] := fun {y s dl} B q1 q2 q3 => by
          subst q3 q2; exact ⟨s, y, q1, rfl⟩
        generalize hG : (fun ρ : Rho => ∃ s' x, isO s' ∧ ρ = [some (s', encW ls), some (iS w), some (Sh.ow .im, D.lst (encSt (A ++ (if (lenW (ls.take e) : Int) ≤ w then (allS w k (ls.drop e)).map (e :: ·) else [])))), x, none]) = G
        have fin2 : ∀ {y : Slot} {s : Sh} {dl : List D} (B : List (List Nat)), isO s → dl = encSt (A ++ B) → B = (if (lenW (ls.take e) : Int) ≤ w then (allS w k (ls.drop e)).map (e :: ·) else []) → G [some (s, encW ls), some (iS w), some (Sh.ow .im, D.lst dl), y, none] := fun {y s dl} B q1 q2 q3 => by
          rw [← hG]; exact fin B q1 q2 q3
        clear fin hG
        have ls1 := len_allS (w := w) (f := k) (ls := ls.drop e)
        have ls2 : 2 ^ (ls.drop e).length ≤ 512 := by
          have : 2 ^ (ls.drop e).length ≤ 2 ^ 9 := Nat.pow_le_pow_right (by decide) (by simp; omega)
          omega
        rcases hso with rfl | rfl
        all_goals
          simp [encW, ct]
          refine llen_w st ?_
          simp
          split
          · rename_i c2
            rw [if_pos c2] at len
            simp only [if_pos c2] at fin2
            simp [encW, cf, ownIm, wipeR]
            refine ih (.inr rfl) sd (ho.drop e) (by simp; omega) (by simp; omega) fun s' => ?_
            simp [encW, ownIm, wipeR]
            refine wC_map (consD (.int e)) (by simp [encSt, sizeLine]; omega) ?_ ?_
            · intro d hd
              simp [encSt] at hd; obtain ⟨t, ht, rfl⟩ := hd
              have tl := fit_len (st_fit ht (by simp; omega))
              simp at tl
              simp [encI, sizeLine]
              exact ⟨by simp [zs]; omega, rfl, by simp [wipeR]⟩
            · simp [mergeR]
              refine ⟨?_, ?_⟩
              · rw [List.length_append, List.length_map] at len
                have len' := Nat.le_trans (Nat.le_trans (Nat.le_add_right _ _) len) len0
                simp [encSt, sizeLine]; omega
              · exact fin2 ((allS w k (ls.drop e)).map (e :: ·)) (.inl rfl) (by simp [encSt, zs, encI, consD]) rfl
          · rename_i c2
            simp only [if_neg c2] at fin2
            exact fin2 [] (.inl rfl) (by simp) rfl
      · intro ρ hI
        obtain ⟨s, x, hso, rfl⟩ := hI
        rw [rangeD_len]
        simp
        exact h s
end Lk76

set_option maxHeartbeats 1000000
namespace Lk76
open PySem PySem.Spec PyProof.Rows L2 Den
variable {Q : DV → List (Sh × D) → Prop} {X : Exn → List (Sh × D) → Prop}
def linesL (ls : Ws) : Nat → List Nat → Ws
  | _, [] => []
  | b, k :: ks => glueL [32] ((ls.take (b + k)).drop b) :: linesL ls (b + k) ks
theorem join_w {ls : Ws} (hs : Small ls) : joinOp (.str " ") [.lst (encWs ls)] = some (.s (.str (S (glueL [32] ls)))) := by
  have h12 := hs.1
  have h1 := sum_le hs.2
  have hj : (ls.map List.length).sum + ls.length * [32].length ≤ 16777216 := by simp; omega
  rw [show (.str " " : D) = .str (S [32]) from rfl]
  unfold encWs
  rw [joinOp_S, if_pos hj]
theorem lines_len {ls : Ws} : ∀ {ks : List Nat} {b : Nat}, (linesL ls b ks).length = ks.length
  | [], _ => rfl
  | _ :: ks, b => by rw [linesL, List.length_cons, lines_len, List.length_cons]
theorem isS_str {s : Str} : isS (.str s) = true := rfl
theorem written_w {ls : Ws} {ks : List Nat} (hs : Small ls) (hk : ks.length ≤ 100) (h : ∀ s s', Q (.sh (.ow .im), encW (linesL ls 0 ks)) [(s, encW ls), (s', encI (zs ks))]) : wF d_written Q X [(.ow .im, encW ls), (.ow .im, encI (zs ks))] := by
  unfold d_written; rw [wF_fn_z]; unfold b_written
  simp [encI, sizeLine]
  refine loop_inv (I := fun j ρ => ∃ (b : Nat) (s : Sh) (A : Ws) (x : Slot), isO s ∧ A.length = j ∧ linesL ls 0 ks = A ++ linesL ls b (ks.drop j) ∧ ρ = [some (s, encW ls), some (.im, encI (zs ks)), some (.ow .im, encW A), some (iS (b : Nat)), x]) ⟨0, _, [], _, .inr rfl, rfl, rfl, rfl⟩ ?_ ?_
  · intro j d ρ hj hI
    obtain ⟨b, s, A, x, hso, hA, hl, rfl⟩ := hI
    rw [zs, List.map_map, List.getElem?_map] at hj
    obtain ⟨k, hr, rfl⟩ := Option.map_eq_some_iff.1 hj
    have hd : ks.drop j = k :: ks.drop (j + 1) := by
      obtain ⟨h1, h2⟩ := List.getElem?_eq_some_iff.1 hr
      rw [List.drop_eq_getElem_cons h1, h2]
    have hj' := (List.getElem?_eq_some_iff.1 hr).1
    rw [hd, linesL] at hl
    obtain ⟨e, he⟩ : ∃ e, e = b + k := ⟨_, rfl⟩
    have ec : ((b : Int) + k) = (e : Nat) := by omega
    rw [← he] at hl
    have jw := join_w (hs.cut b e)
    rcases hso with rfl | rfl
    all_goals
      simp [encW, ec, cut_encW, jw, isS_str, sizeLine]
      refine ⟨by simp [encWs]; omega, e, _, .inl rfl, A ++ [glueL [32] ((ls.take e).drop b)], by simp; omega, by simpa using hl, rfl, by simp [encWs], rfl⟩
  · intro ρ hI
    obtain ⟨b, s, A, x, hso, hA, hl, rfl⟩ := hI
    have e0 : ks.drop (List.map D.int (zs ks)).length = [] := by simp [zs]
    rw [e0] at hl
    simp [linesL] at hl
    simp
    have := h s .im
    rw [hl] at this
    simpa [encI] using this
end Lk76

set_option maxHeartbeats 1000000
namespace Lk76
open PySem PySem.Spec PyProof.Rows L2 Den
variable {Q : DV → List (Sh × D) → Prop} {X : Exn → List (Sh × D) → Prop}
theorem filled_w {ls : Ws} {w : Int} (hs : Small ls) (hw : 0 ≤ w ∧ w ≤ 1000) (hf : ∀ l ∈ ls, (l.length : Int) ≤ w)
    (h : ∀ s gs, grOk ls w 0 gs → Q (.sh (.ow .im), encI (zs gs)) [(s, encW ls), iS w]) : wF d_filled Q X [(.ow .im, encW ls), iS w] := by
  unfold d_filled; rw [wF_fn_z]; unfold b_filled
  have h12 := hs.1
  have hl : (encWs ls).length = ls.length := by simp [encWs]
  simp [sizeLine]
  refine while_inv (fun m ρ => ∃ (b : Nat) (s : Sh) (gs : List Nat) (x : Slot), isO s ∧ b ≤ ls.length ∧ m = ls.length - b ∧ gs.length ≤ b ∧ (∀ rest, grOk ls w b rest → grOk ls w 0 (gs ++ rest)) ∧ ρ = [some (s, encW ls), some (iS w), some (.ow .im, encI (zs gs)), some (iS (b : Nat)), x]) WN ls.length (by unfold WN; omega) ⟨0, _, [], _, .inr rfl, by omega, by omega, by simp, (fun r hr => hr), rfl⟩ ?_
  rintro m _ ⟨b, s, gs, x, hso, hb, rfl, hgl, hg, rfl⟩
  by_cases c : b = ls.length
  · subst c
    have fin := h s gs (by have := hg [] rfl; simpa using this)
    rcases hso with rfl | rfl
    all_goals
      simp [encW, hl]
      exact fin
  have cb : b < ls.length := by omega
  have one := one_fits hf cb
  have onel : (lenAt ls b (b + 1) : Int) ≤ w := by
    cases ho : over ls w b (b + 1) with
    | none => exact absurd ho one
    | some o => exact (over_some ho).1
  have push : ∀ e, b + 1 ≤ e → e ≤ ls.length → (lenAt ls b e : Int) ≤ w → (e < ls.length → w < (lenAt ls b (e + 1) : Int)) → ∀ rest, grOk ls w e rest → grOk ls w 0 ((gs ++ [e - b]) ++ rest) := fun e h1 h2 h3 h4 rest hr => by
    rw [List.append_assoc]
    refine hg _ ?_
    have e1 : b + (e - b) = e := by omega
    refine ⟨by omega, by omega, by rw [e1]; exact h3, by rw [e1]; exact h4, by rw [e1]; exact hr⟩
  rcases hso with rfl | rfl
  all_goals
    simp [encW, hl, cb]
    refine while_inv (fun m ρ => ∃ (e : Nat) (s : Sh), isO s ∧ b + 1 ≤ e ∧ e ≤ ls.length ∧ m = ls.length - e ∧ (lenAt ls b e : Int) ≤ w ∧ ρ = [some (s, encW ls), some (iS w), some (.ow .im, encI (zs gs)), some (iS (b : Nat)), some (iS (e : Nat))]) WN (ls.length - (b + 1)) (by unfold WN; omega) ⟨b + 1, _, (by first | exact .inl rfl | exact .inr rfl), by omega, by omega, rfl, onel, rfl⟩ ?_
    rintro m _ ⟨e, s, hso, h1, h2, rfl, h3, rfl⟩
    have stop : ∀ s, isO s → (e < ls.length → w < (lenAt ls b (e + 1) : Int)) → ∃ m', m' < ls.length - b ∧ ∃ (b' : Nat) (s' : Sh) (gs' : List Nat) (x : Slot), isO s' ∧ b' ≤ ls.length ∧ m' = ls.length - b' ∧ gs'.length ≤ b' ∧ (∀ rest, grOk ls w b' rest → grOk ls w 0 (gs' ++ rest)) ∧ [some (s, D.lst (encWs ls)), some (iS w), some (Sh.ow .im, D.lst ((zs gs).map D.int ++ [.int ((e : Int) - (b : Int))])), some (iS (e : Nat)), some (iS (e : Nat))] = [some (s', D.lst (encWs ls)), some (iS w), some (Sh.ow .im, encI (zs gs')), some (iS (b' : Nat)), x] := fun s hso h4 => by
      refine ⟨ls.length - e, by omega, e, s, gs ++ [e - b], some (iS (e : Nat)), hso, h2, rfl, by simp; omega, push e h1 h2 h3 h4, ?_⟩
      simp [encI, zs]; omega
    rcases Nat.lt_or_ge e ls.length with c3 | c3
    rotate_left
    · have z := stop s hso (fun z => by omega)
      simp [encI] at z
      rcases hso with rfl | rfl
      all_goals
        simp [encW, encI, hl, show ¬ (e < ls.length) by omega, sizeLine]
        refine ⟨by simp [zs]; omega, ?_⟩
        exact z
    have z := stop .im (.inl rfl)
    have hle := (hs.cut b (e + 1)).le
    have hla : lenAt ls b (e + 1) = lenW ((ls.take (e + 1)).drop b) := rfl
    have hm := lenAt_mono (ls := ls) (b := b) (show e ≤ e + 1 by omega)
    rcases hso with rfl | rfl
    all_goals
      simp [encW, hl, c3]
      rw [show ((e : Int) + 1) = ((e + 1 : Nat) : Int) by omega, cut_encW]
      refine length_w (hs.cut _ _) ?_
      rw [← hla] at hle ⊢
      simp
      split
      · rename_i c4
        exact ⟨ls.length - (e + 1), by omega, e + 1, .im, .inl rfl, by omega, by omega, rfl, by omega, by simp⟩
      · rename_i c4
        have z := z (fun _ => by omega)
        simp [encI] at z
        simp [encW, encI, hl, sizeLine]
        refine ⟨by simp [zs]; omega, ?_⟩
        exact z
end Lk76

set_option maxHeartbeats 1000000
namespace Lk76
open PySem PySem.Spec PyProof.Rows L2 Den
variable {Q : DV → List (Sh × D) → Prop} {X : Exn → List (Sh × D) → Prop}
theorem zs_len {ks : List Nat} : (zs ks).length = ks.length := by simp [zs]
theorem zs_take {ks : List Nat} {k : Nat} : (zs ks).take k = zs (ks.take k) := by simp [zs, List.map_take]
theorem sum_encI {ks : List Nat} : sumOp [.lst ((zs ks).map D.int)] = some (.s (.int (ks.sum : Nat))) := by rw [sum_l, sum_zs]
theorem cut_zs {ks : List Nat} {k : Nat} : Den.cutD ((zs ks).map D.int) none (some (k : Int)) = (zs (ks.take k)).map D.int := by rw [cut_map, cut_to, zs_take]
theorem fit_ragP {ls : Ws} {w : Int} {s : List Nat} (h : fitL ls w 0 s) : ∃ v, ragP ls w (zs s) = some v ∧ val ls w 0 s = some v := by
  obtain ⟨v, hv⟩ := fit_val h
  have := fit_sum h
  exact ⟨v, by rw [ragP_zs (fit_one h) (by omega), hv], hv⟩
theorem lfilled_w {ls : Ws} {w : Int} {ss : List (List Nat)} (hs : Small ls) (hw : 0 ≤ w ∧ w ≤ 1000) (hf : ∀ l ∈ ls, (l.length : Int) ≤ w) (hss : ∀ s ∈ ss, fitL ls w 0 s)
    (h : Q (.sh .im, .bl true) [(.im, encW ls), iS w, (.im, .lst (encSt ss))]) : wF d__law_filled_right Q X [(.im, encW ls), iS w, (.im, .lst (encSt ss))] := by
  unfold d__law_filled_right; rw [wF_fn_z]; unfold b__law_filled_right
  have h12 := hs.1
  have hl : (encWs ls).length = ls.length := by simp [encWs]
  refine seq_op (fun ρ => ∃ gs, grOk ls w 0 gs ∧ ρ = [some (.im, encW ls), some (iS w), some (.im, .lst (encSt ss)), some (.ow .im, encI (zs gs)), none, none, none, none]) (fun I hI => ?_) ?_
  · simp [encW]
    refine filled_w hs hw hf fun s gs hg => ?_
    simp
    exact hI _ ⟨gs, hg, rfl⟩
  rintro _ ⟨gs, hg, rfl⟩
  have hgl := fit_len (gr_fit hg)
  obtain ⟨v, hv, _⟩ := fit_ragP (gr_fit hg)
  refine seq_op (fun ρ => ∃ s, isO s ∧ ρ = [some (.im, encW ls), some (iS w), some (.im, .lst (encSt ss)), some (s, encI (zs gs)), none, none, none, none]) (fun I hI => ?_) ?_
  · simp
    refine lrag_w hs hw (.inr rfl) (by rw [zs_len]; omega) fun s hso => ?_
    rw [hv]
    simp [optD, isOp, isD]
    exact hI _ ⟨_, hso, rfl⟩
  rintro _ ⟨s, hso, rfl⟩
  refine seq_op (fun ρ => ρ = [some (.im, encW ls), some (iS w), some (.im, .lst (encSt ss)), some (s, encI (zs gs)), some (iS 0), none, none, none]) (fun I hI => ?_) ?_
  · simp; exact hI _ rfl
  rintro _ rfl
  refine seq_inv (fun ρ => ∃ x y, ρ = [some (.im, encW ls), some (iS w), some (.im, .lst (encSt ss)), some (.im, encI (zs gs)), x, y, none, none]) ?_ ?_
  · rcases hso with rfl | rfl
    all_goals
      simp [encI]
      refine loop_inv (I := fun j ρ => ∃ (b : Nat) (x : Slot), grOk ls w b (gs.drop j) ∧ ρ = [some (.im, encW ls), some (iS w), some (.im, .lst (encSt ss)), some (.im, encI (zs gs)), some (iS (b : Nat)), x, none, none]) ⟨0, _, hg, rfl⟩ ?_ ?_
      · intro j d ρ hj hI
        obtain ⟨b, x, hb, rfl⟩ := hI
        rw [zs, List.map_map, List.getElem?_map] at hj
        obtain ⟨k, hr, rfl⟩ := Option.map_eq_some_iff.1 hj
        have hd : gs.drop j = k :: gs.drop (j + 1) := by
          obtain ⟨h1, h2⟩ := List.getElem?_eq_some_iff.1 hr
          rw [List.drop_eq_getElem_cons h1, h2]
        rw [hd] at hb
        obtain ⟨b1, b2, b3, b4, b5⟩ := hb
        simp [encW, hl]
        obtain ⟨e, he⟩ : ∃ e, e = b + k := ⟨_, rfl⟩
        have ec : ((b : Int) + k) = (e : Nat) := by omega
        rw [← he] at b2 b3 b4 b5
        rw [ec]
        by_cases c : e < ls.length
        · have b4 := b4 c
          simp [show (e : Int) < ls.length by omega]
          rw [show ((e : Int) + 1) = ((e + 1 : Nat) : Int) by omega, cut_encW]
          refine llen_w (hs.cut _ _) ?_
          have hla : lenAt ls b (e + 1) = lenW ((ls.take (e + 1)).drop b) := rfl
          rw [← hla]
          simp [show ¬ ((lenAt ls b (e + 1) : Int) ≤ w) by omega]
          exact ⟨e, b5, by omega⟩
        · simp [show ¬ ((e : Int) < ls.length) by omega]
          exact ⟨e, b5, by omega⟩
      · intro ρ hI
        obtain ⟨b, x, hb, rfl⟩ := hI
        exact ⟨_, _, rfl⟩
  rintro _ ⟨x, y, rfl⟩
  refine seq_inv (fun ρ => ∃ z u, ρ = [some (.im, encW ls), some (iS w), some (.im, .lst (encSt ss)), some (.im, encI (zs gs)), x, y, z, u]) ?_ ?_
  · simp
    refine loop_inv (I := fun j ρ => ∃ z u, ρ = [some (.im, encW ls), some (iS w), some (.im, .lst (encSt ss)), some (.im, encI (zs gs)), x, y, z, u]) ⟨_, _, rfl⟩ ?_ fun ρ h => h
    intro j d ρ hj hI
    obtain ⟨z, u, rfl⟩ := hI
    unfold encSt at hj
    rw [List.getElem?_map] at hj
    obtain ⟨t, hr, rfl⟩ := Option.map_eq_some_iff.1 hj
    have ht := hss t (List.mem_of_getElem? hr)
    have htl := fit_len ht
    have dom := gr_dom ht hg (Nat.le_refl _)
    have len := gr_len ht hg (Nat.le_refl _)
    have nl : ¬ (t.length < gs.length) := by omega
    simp [encI, zs_len]
    refine ⟨rngOk_of (by omega) (by omega), ?_⟩
    refine loop_inv (I := fun j ρ => ∃ u, ρ = [some (.im, encW ls), some (iS w), some (.im, .lst (encSt ss)), some (.im, encI (zs gs)), x, y, some (.im, encI (zs t)), u]) ⟨_, rfl⟩ ?_ ?_
    · intro k d ρ hk hI
      obtain ⟨u, rfl⟩ := hI
      obtain ⟨hk, rfl⟩ := rangeD_get hk
      have k1 : k < t.length := by omega
      have k2 : k < gs.length := by omega
      have dd := dom k k1 k2
      rw [gSet_eq]
      refine ⟨by simp, ?_⟩
      simp only [List.set_cons_succ, List.set_cons_zero, Int.zero_add]
      have e1 : ((k : Int) + 1) = ((k + 1 : Nat) : Int) := by omega
      simp [encI]
      rw [e1, cut_zs]
      simp [sum_zs, encI]
      rw [e1, cut_zs]
      have nd : ¬ (((gs.take (k + 1)).sum : Nat) : Int) < ((t.take (k + 1)).sum : Nat) := by omega
      simp [sum_zs, nd]
    · intro ρ hI
      obtain ⟨u, rfl⟩ := hI
      simp [encI, zs_len, nl]
  rintro _ ⟨z, u, rfl⟩
  simp
  exact h
end Lk76

set_option maxHeartbeats 1000000
namespace Lk76
open PySem PySem.Spec PyProof.Rows L2 Den
variable {Q : DV → List (Sh × D) → Prop} {X : Exn → List (Sh × D) → Prop}
abbrev FL := List (Option (Int × Nat))
def gf (fs : FL) (i : Nat) : Option (Int × Nat) := fs.getD i none
def encF (fs : FL) : D := .lst (fs.map optP)
def LOK (ls : Ws) (w : Int) (bs : OL) (fs : FL) : Prop := fs.length = ls.length + 1 ∧ gf fs 0 = none ∧ ∀ e, 1 ≤ e → e ≤ ls.length → bestFrom ls w bs e 0 (gf fs e)
def nextB (fs : FL) : OL := fs.map fun o => o.map (·.1)
def bs0 (n : Nat) : OL := some 0 :: List.replicate n none
def ChR (ls : Ws) (w : Int) : List FL → OL → Prop
  | [], bs => bs = bs0 ls.length
  | f :: R, bs => bs = nextB f ∧ ∃ m, ChR ls w R m ∧ LOK ls w m f
theorem gt_next {fs : FL} {i : Nat} : gt (nextB fs) i = (gf fs i).map (·.1) := by
  unfold gt gf nextB
  simp only [List.getD, List.getElem?_map]
  cases fs[i]? with
  | none => rfl
  | some o => rfl
theorem gt_bs0 {n i : Nat} {x : Int} (h : gt (bs0 n) i = some x) : i = 0 ∧ x = 0 := by
  cases i with
  | zero => simp [gt, bs0] at h; exact ⟨rfl, h.symm⟩
  | succ i =>
    unfold gt bs0 at h
    simp only [List.getD, List.getElem?_cons_succ, List.getElem?_replicate] at h
    split at h <;> simp at h
theorem val_snoc {ls : Ws} {w : Int} : ∀ {ks : List Nat} {b k : Nat} {v : Int}, val ls w b (ks ++ [k]) = some v → ∃ v' o, val ls w b ks = some v' ∧ over ls w (b + ks.sum) (b + ks.sum + k) = some o ∧ v = v' + o
  | [], b, k, v, h => by
    obtain ⟨o, v', h1, h2, h3⟩ := val_cons (ks := []) h
    cases h2
    exact ⟨0, o, rfl, by simpa using h1, by omega⟩
  | q :: ks, b, k, v, h => by
    obtain ⟨o, v', h1, h2, h3⟩ := val_cons (ks := ks ++ [k]) h
    obtain ⟨v2, o2, h4, h5, h6⟩ := val_snoc h2
    refine ⟨o + v2, o2, by rw [val, h1, h4]; rfl, ?_, by omega⟩
    rw [List.sum_cons, show b + (q + ks.sum) = b + q + ks.sum by omega]; exact h5
theorem ch_len {ls : Ws} {w : Int} : ∀ {R : List FL} {bs : OL}, ChR ls w R bs → bs.length = ls.length + 1
  | [], _, h => by rw [show _ = _ from h]; simp [bs0]
  | f :: R, _, ⟨h, m, _, h2⟩ => by rw [h]; simp [nextB]; exact h2.1
theorem ch_min {ls : Ws} {w : Int} : ∀ {R : List FL} {bs : OL} {ks : List Nat} {v : Int}, ChR ls w R bs → ks.length = R.length → Onec ks → ks.sum ≤ ls.length → val ls w 0 ks = some v → ∃ x, gt bs ks.sum = some x ∧ x ≤ v
  | [], bs, ks, v, h, hl, _, _, hv => by
    have : ks = [] := List.eq_nil_of_length_eq_zero (by simpa using hl)
    subst this
    cases hv
    rw [show bs = bs0 ls.length from h]
    exact ⟨0, rfl, Int.le_refl _⟩
  | f :: R, bs, ks, v, ⟨h, m, hm, hL⟩, hl, h1, hsum, hv => by
    obtain ⟨ks', k, rfl⟩ : ∃ ks' k, ks = ks' ++ [k] := by
      rcases List.eq_nil_or_concat ks with rfl | ⟨a, b, rfl⟩
      · simp at hl
      · exact ⟨a, b, by simp⟩
    obtain ⟨v', o, hv', ho, rfl⟩ := val_snoc hv
    rw [Nat.zero_add] at ho
    have k1 := h1 k (List.mem_append_right _ (List.mem_singleton.2 rfl))
    simp at hl hsum
    obtain ⟨x', hx', hle⟩ := ch_min hm (ks := ks') hl (fun q hq => h1 q (List.mem_append_left _ hq)) (by omega) hv'
    have hb := hL.2.2 (ks'.sum + k) (by omega) (by omega)
    have es : (ks' ++ [k]).sum = ks'.sum + k := by simp
    rw [es, h, gt_next]
    cases hf : gf f (ks'.sum + k) with
    | none =>
      rw [hf] at hb
      rcases hb ks'.sum (by omega) (by omega) with z | z
      · rw [z] at ho; cases ho
      · rw [z] at hx'; cases hx'
    | some p =>
      obtain ⟨v0, b⟩ := p
      rw [hf] at hb
      have := hb.2.2 ks'.sum (by omega) (by omega) o x' ho hx'
      exact ⟨v0, rfl, by omega⟩
theorem ch_step {ls : Ws} {w : Int} {f : FL} {R : List FL} {bs : OL} {e : Nat} {x : Int} (h : ChR ls w (f :: R) bs) (he : e ≤ ls.length) (hx : gt bs e = some x) :
    ∃ b o x' m, gf f e = some (x, b) ∧ b < e ∧ over ls w b e = some o ∧ ChR ls w R m ∧ gt m b = some x' ∧ x = x' + o := by
  obtain ⟨h, m, hm, hL⟩ := h
  rw [h, gt_next] at hx
  cases hf : gf f e with
  | none => rw [hf] at hx; cases hx
  | some p =>
    obtain ⟨v, b⟩ := p
    rw [hf] at hx
    cases hx
    have e1 : 1 ≤ e := by
      cases e with
      | zero => rw [hL.2.1] at hf; cases hf
      | succ => omega
    have hb := hL.2.2 e e1 he
    rw [hf] at hb
    obtain ⟨h1, ⟨o, x', h2, h3, h4⟩, _⟩ := hb
    exact ⟨b, o, x', m, rfl, h1, h2, hm, h3, h4⟩
theorem atI_gf {fs : FL} {i : Nat} (h : i < fs.length) : atI (fs.map optP) (i : Int) = some (optP (gf fs i)) := by
  apply atI_n; rw [List.getElem?_map]; simp [h, gf, List.getD]
end Lk76

set_option maxHeartbeats 1000000
namespace Lk76
open PySem PySem.Spec PyProof.Rows L2 Den
variable {Q : DV → List (Sh × D) → Prop} {X : Exn → List (Sh × D) → Prop}
def fstD : D → D
  | .tup (d :: _) => d
  | _ => .non
theorem fst_optP {o : Option (Int × Nat)} : fstD (optP o) = optD (o.map (·.1)) := by
  cases o with
  | none => rfl
  | some p => rfl
theorem enc_next {fs : FL} : (fs.map optP).map fstD = (nextB fs).map optD := by
  unfold nextB
  rw [List.map_map, List.map_map]
  apply List.map_congr_left
  intro o _
  exact fst_optP
theorem layer_w {T : Rho → DV → Prop} {N B C : Rho → Prop} {X : Rho → Exn → Prop} {ls : Ws} {w : Int} {c : Nat} {bs : OL} {x4 x5 x6 x8 : Slot} (hs : Small ls) (hw : 0 ≤ w ∧ w ≤ 1000) (hb : bs.length = ls.length + 1)
    (h : ∀ fs, LOK ls w bs fs → N [some (.im, encW ls), some (iS w), some (iS (c : Nat)), some (.ow .im, encO bs), x4, x5, x6, none, some (.ow .im, encF fs), none, none]) :
    wS (sSet 8 (dBin false addOp (dLst (dCons true (dC .non) dNil)) (dComp [7] .im (dRange2 (dCons true (dC (.int 1)) (dCons true (dBin true addOp (dCall lenOp (dCons true (dVar 0) dNil)) (dC (.int 1))) dNil))) (gSet 7) (dRet true) (dCallF 4 (d_best_begins) (dAsV 0 (dAsV 1 (dAsV 3 (dAsV 7 dAsNil)))))))) N T B C X
      [some (.im, encW ls), some (iS w), some (iS (c : Nat)), some (.ow .im, encO bs), x4, x5, x6, none, x8, none, none] := by
  have h12 := hs.1
  have hl : (encWs ls).length = ls.length := by simp [encWs]
  simp [encW, hl, ownIm, wipeR, sizeLine]
  refine ⟨⟨rngOk_of (by omega) (by omega), rngOk_of (by omega) (by omega)⟩, ?_⟩
  refine wC_inv (fun j ρ acc => ∃ fs : FL, fs.length = j ∧ acc = fs.map optP ∧ (∀ i, i < j → bestFrom ls w bs (i + 1) 0 (gf fs i)) ∧ ρ = [some (.im, encW ls), some (iS w), some (iS (c : Nat)), some (.ow .im, encO bs), x4, x5, x6, none, x8, none, none]) ⟨[], rfl, rfl, (fun i hi => by omega), rfl⟩ ?_ ?_
  · intro j d ρ acc hj hI
    obtain ⟨fs, hfl, rfl, hfs, rfl⟩ := hI
    obtain ⟨hj, rfl⟩ := rangeD_get hj
    have hj2 : j + 1 ≤ ls.length := by omega
    rw [show (1 + (j : Int)) = ((j + 1 : Nat) : Int) by omega]
    have app : ∀ f, bestFrom ls w bs (j + 1) 0 f → ∀ i, i < j + 1 → bestFrom ls w bs (i + 1) 0 (gf (fs ++ [f]) i) := fun f hf i hi => by
      unfold gf
      by_cases q : i < j
      · rw [getD_l (by omega)]; exact hfs i q
      · have : i = j := by omega
        subst this
        rw [getD_r (by omega), hfl, Nat.sub_self]; exact hf
    obtain ⟨e, he⟩ : ∃ e, e = j + 1 := ⟨_, rfl⟩
    rw [← he] at hj2 ⊢
    have app : ∀ f, bestFrom ls w bs e 0 f → ∀ i, i < e → bestFrom ls w bs (i + 1) 0 (gf (fs ++ [f]) i) := by rw [he]; exact app
    simp
    refine best_w (.inl rfl) hs hw (by omega) hj2 (by omega) fun s f hso hf => ?_
    have hso : s = .im := by
      rcases hso with z | ⟨_, z⟩
      · exact z
      · cases z
    subst hso
    simp [wipeR, sizeLine]
    exact ⟨by omega, fs ++ [f], by simp; omega, by simp, fun i hi => app f hf i hi⟩
  · intro ρ acc hI
    obtain ⟨fs, hfl, rfl, hfs, rfl⟩ := hI
    rw [rangeD_len] at hfl hfs
    have hfl : fs.length = ls.length := by omega
    have LO : LOK ls w bs (none :: fs) := ⟨by simp [hfl], rfl, fun e h1 h2 => by
      obtain ⟨i, rfl⟩ : ∃ i, e = i + 1 := ⟨e - 1, by omega⟩
      show bestFrom ls w bs (i + 1) 0 (gf fs i)
      exact hfs i (by omega)⟩
    have := h _ LO
    simp [mergeR, sizeLine]
    exact ⟨by omega, this⟩
theorem atI_gl {bs : OL} (h : 0 < bs.length) : atI (bs.map optD) (-1) = some (optD (gt bs (bs.length - 1))) := by
  have : ixN (bs.map optD).length (-1) = some (bs.length - 1) := by
    unfold ixN; simp; omega
  unfold atI; rw [this]
  simp [gt, List.getD, show bs.length - 1 < bs.length by omega]
theorem in_lines_w {ls : Ws} {w : Int} {c : Nat} (hs : Small ls) (h0 : 0 < ls.length) (hw : 0 ≤ w ∧ w ≤ 1000) (hc : c ≤ 100)
    (hN : (∀ ks, ks.length = c → fitL ls w 0 ks → False) → Q (.sh .im, .non) [(.im, encW ls), iS w, iS (c : Nat)])
    (hS : ∀ ks v, ks.length = c → fitL ls w 0 ks → val ls w 0 ks = some v → (∀ ks', ks'.length = c → fitL ls w 0 ks' → ∀ v', val ls w 0 ks' = some v' → v ≤ v') → Q (.sh .im, .tup [encI (zs ks), .int v]) [(.im, encW ls), iS w, iS (c : Nat)]) : wF d_in_lines Q X [(.ow .im, encW ls), iS w, iS (c : Nat)] := by
  unfold d_in_lines; rw [wF_fn_z]; unfold b_in_lines
  have h12 := hs.1
  have hl : (encWs ls).length = ls.length := by simp [encWs]
  refine seq_op (fun ρ => ρ = [some (.im, encW ls), some (iS w), some (iS (c : Nat)), some (.ow .im, encO (bs0 ls.length)), none, none, none, none, none, none, none]) (fun I hI => ?_) ?_
  · simp [encW, ownIm, wipeR, sizeLine]
    refine wC_map (fun _ => .non) (by simp [encWs, sizeLine]; omega) ?_ ?_
    · intro d hd
      simp [wipeR]
    · have e : (encWs ls).map (fun _ => D.non) = (List.replicate ls.length none).map optD := by
        rw [List.map_const', List.map_replicate, hl]; rfl
      rw [List.nil_append, e]
      simp [mergeR, sizeLine]
      refine ⟨by omega, ?_⟩
      have := hI _ rfl
      simpa [encO, bs0, encW, optD] using this
  rintro _ rfl
  refine seq_op (fun ρ => ρ = [some (.im, encW ls), some (iS w), some (iS (c : Nat)), some (.ow .im, encO (bs0 ls.length)), some (.ow .im, .lst []), none, none, none, none, none, none]) (fun I hI => ?_) ?_
  · simp [sizeLine]; exact hI _ rfl
  rintro _ rfl
  refine seq_op (fun ρ => ∃ R bs x5 x8, ChR ls w R bs ∧ R.length = c ∧ ρ = [some (.im, encW ls), some (iS w), some (iS (c : Nat)), some (.ow .im, encO bs), some (.ow .im, .lst ((R.map encF).reverse)), x5, none, none, x8, none, none]) (fun I hI => ?_) ?_
  · simp
    refine ⟨rngOk_n (by omega), ?_⟩
    refine loop_inv (I := fun j ρ => ∃ R bs x5 x8, ChR ls w R bs ∧ R.length = j ∧ ρ = [some (.im, encW ls), some (iS w), some (iS (c : Nat)), some (.ow .im, encO bs), some (.ow .im, .lst ((R.map encF).reverse)), x5, none, none, x8, none, none]) ⟨[], _, _, _, rfl, rfl, rfl⟩ ?_ ?_
    · intro j d ρ hj hI
      obtain ⟨R, bs, x5, x8, hR, hRl, rfl⟩ := hI
      obtain ⟨hj, rfl⟩ := rangeD_get hj
      have hj : j < c := by omega
      rw [gSet_eq]
      refine ⟨by simp, ?_⟩
      simp only [List.set_cons_succ, List.set_cons_zero]
      refine seq_op (fun ρ => ∃ fs, LOK ls w bs fs ∧ ρ = [some (.im, encW ls), some (iS w), some (iS (c : Nat)), some (.ow .im, encO bs), some (.ow .im, .lst ((R.map encF).reverse)), some (iS (0 + (j : Int))), none, none, some (.ow .im, encF fs), none, none]) (fun I hI => ?_) ?_
      · exact layer_w hs hw (ch_len hR) fun fs hfs => hI _ ⟨fs, hfs, rfl⟩
      rintro _ ⟨fs, hfs, rfl⟩
      have fl := hfs.1
      simp [encF, ownIm, wipeR]
      refine ⟨by simp [sizeLine]; omega, ?_⟩
      refine wC_map fstD (by simp [sizeLine]; omega) ?_ ?_
      · intro d hd
        simp at hd; obtain ⟨o, ho, rfl⟩ := hd
        cases o with
        | none => simp [optP_n, isOp, isD, fstD, wipeR]
        | some p =>
          obtain ⟨v, b⟩ := p
          simp [optP_s, isOp, isD, fstD, wipeR, atI0]
      · rw [List.nil_append, enc_next]
        simp [mergeR]
        exact ⟨fs :: R, nextB fs, ⟨rfl, bs, hR, hfs⟩, by simp; omega, rfl, by simp [encF]⟩
    · intro ρ hI'
      obtain ⟨R, bs, x5, x8, hR, hRl, rfl⟩ := hI'
      rw [rangeD_len] at hRl
      exact hI _ ⟨R, bs, x5, x8, hR, by omega, rfl⟩
  rintro _ ⟨R, bs, x5, x8, hR, hRl, rfl⟩
  have bl := ch_len hR
  have at1 := atI_gl (bs := bs) (by omega)
  rw [show bs.length - 1 = ls.length by omega] at at1
  by_cases c0 : c = 0
  · subst c0
    have q := hN fun ks h1 h2 => by
      have : ks = [] := List.eq_nil_of_length_eq_zero h1
      subst this
      have : 0 = ls.length := h2
      omega
    simp
    exact q
  cases hx : gt bs ls.length with
  | none =>
    have q := hN fun ks h1 h2 => by
      obtain ⟨v, hv⟩ := fit_val h2
      have hsum := fit_sum h2
      obtain ⟨x, h3, _⟩ := ch_min hR (by omega) (fit_one h2) (by omega) hv
      rw [show ks.sum = ls.length by omega, hx] at h3
      cases h3
    rw [hx] at at1
    simp [show ¬ (c : Int) < 1 by omega, encO, at1, optD, isOp, isD]
    exact q
  | some x =>
  have mn : ∀ ks', ks'.length = c → fitL ls w 0 ks' → ∀ v', val ls w 0 ks' = some v' → x ≤ v' := fun ks' h1 h2 v' hv => by
    have hsum := fit_sum h2
    obtain ⟨x', h3, h4⟩ := ch_min hR (by omega) (fit_one h2) (by omega) hv
    rw [show ks'.sum = ls.length by omega, hx] at h3
    cases h3; exact h4
  rw [hx] at at1
  refine seq_skip (by simp [show ¬ (c : Int) < 1 by omega, encO, at1, optD, isOp, isD]) ?_
  refine seq_op (fun ρ => ρ = [some (.im, encW ls), some (iS w), some (iS (c : Nat)), some (.ow .im, encO bs), some (.ow .im, .lst ((R.map encF).reverse)), x5, some (.ow .im, .lst []), none, x8, none, none]) (fun I hI => ?_) ?_
  · simp [sizeLine]; exact hI _ rfl
  rintro _ rfl
  refine seq_op (fun ρ => ρ = [some (.im, encW ls), some (iS w), some (iS (c : Nat)), some (.ow .im, encO bs), some (.ow .im, .lst ((R.map encF).reverse)), x5, some (.ow .im, .lst []), some (iS (ls.length : Nat)), x8, none, none]) (fun I hI => ?_) ?_
  · simp [encW, hl]; exact hI _ rfl
  rintro _ rfl
  refine seq_op (fun ρ => ∃ (ks : List Nat) (x7 x8 : Slot), ks.length = c ∧ Onec ks ∧ ks.sum = ls.length ∧ val ls w 0 ks = some x ∧ ρ = [some (.im, encW ls), some (iS w), some (iS (c : Nat)), some (.ow .im, encO bs), some (.im, .lst ((R.map encF).reverse)), x5, some (.ow .im, encI (zs ks.reverse)), x7, x8, none, none]) (fun I hI => ?_) ?_
  · simp
    refine loop_inv (I := fun j ρ => ∃ (m : OL) (ks : List Nat) (e : Nat) (x' v' : Int) (x8 : Slot), ChR ls w (R.drop j) m ∧ gt m e = some x' ∧ e ≤ ls.length ∧ Onec ks ∧ e + ks.sum = ls.length ∧ val ls w e ks = some v' ∧ x' + v' = x ∧ ks.length = j ∧ ρ = [some (.im, encW ls), some (iS w), some (iS (c : Nat)), some (.ow .im, encO bs), some (.im, .lst ((R.map encF).reverse)), x5, some (.ow .im, encI (zs ks.reverse)), some (iS (e : Nat)), x8, none, none]) ⟨bs, [], ls.length, x, 0, _, hR, hx, Nat.le_refl _, (fun k hk => by cases hk), by simp, rfl, by omega, rfl, rfl⟩ ?_ ?_
    · intro j d ρ hj hI
      obtain ⟨m, ks, e, x', v', x8, k1, k2, k3, k4, k5, k6, k7, k8, rfl⟩ := hI
      rw [List.getElem?_map] at hj
      obtain ⟨f, hr, rfl⟩ := Option.map_eq_some_iff.1 hj
      have hd : R.drop j = f :: R.drop (j + 1) := by
        obtain ⟨h1, h2⟩ := List.getElem?_eq_some_iff.1 hr
        rw [List.drop_eq_getElem_cons h1, h2]
      have hjl := (List.getElem?_eq_some_iff.1 hr).1
      rw [hd] at k1
      have fl : f.length = ls.length + 1 := by obtain ⟨_, _, _, q⟩ := k1; exact q.1
      obtain ⟨b, o, x2, m2, q1, q2, q3, q4, q5, q6⟩ := ch_step k1 k3 k2
      have at2 := atI_gf (fs := f) (i := e) (by omega)
      rw [q1, optP_s] at at2
      have at3 : atI [D.int x', D.int (b : Nat)] 1 = some (.int (b : Nat)) := rfl
      simp [encF, at2, at3, encI, sizeLine]
      refine ⟨by rw [zs_len, List.length_reverse]; omega, ?_⟩
      refine ⟨m2, q4, (e - b) :: ks, b, x2, q5, by omega, fun k hk => ?_, by simp; omega, o + v', ?_, by omega, by simp; omega, by simp [zs]; omega, rfl⟩
      · rcases List.mem_cons.1 hk with rfl | hk
        · omega
        · exact k4 k hk
      · rw [val, show b + (e - b) = e by omega, q3, k6]; rfl
    · intro ρ hI'
      obtain ⟨m, ks, e, x', v', x8, k1, k2, k3, k4, k5, k6, k7, k8, rfl⟩ := hI'
      rw [List.length_map] at k1 k8
      rw [List.drop_length] at k1
      rw [show m = bs0 ls.length from k1] at k2
      obtain ⟨rfl, rfl⟩ := gt_bs0 k2
      exact hI _ ⟨ks, _, _, by omega, k4, by omega, by rw [k6]; congr 1; omega, rfl⟩
  rintro _ ⟨ks, x7, x8, k1, k2, k3, k4, rfl⟩
  have q := hS ks x k1 (val_fit k2 (by omega) k4) k4 mn
  simp [encO, at1, encI, zs_rev, optD, sizeLine]
  simpa [encI] using q
end Lk76

set_option maxHeartbeats 1000000
namespace Lk76
open PySem PySem.Spec PyProof.Rows L2 Den
variable {Q : DV → List (Sh × D) → Prop} {X : Exn → List (Sh × D) → Prop}
theorem shps_ints {k : Nat} : ∀ {cs : List Int}, D.shps k (cs.map D.int) = true
  | [] => rfl
  | c :: cs => by
    show (D.shp k (.int c) && D.shps k (cs.map D.int)) = true
    rw [shps_ints, Bool.and_true]; cases k <;> rfl
theorem eqok_nil {dl : List Int} : eqOk (.lst (dl.map D.int)) (.lst []) = true := by
  unfold eqOk
  rw [show D.shp 60 (.lst (dl.map D.int)) = true from shps_ints (k := 59), show D.shp 60 (.lst []) = true from rfl]
  simp
theorem beq_nil {dl : List Int} : D.beq (.lst (dl.map D.int)) (.lst []) = decide (dl = []) := by
  cases dl with
  | nil => rfl
  | cons => simp [D.beq, D.beqs]
theorem eq_nilI {dl : List Int} : eqOp (.lst (dl.map D.int)) (.lst []) = some (.s (.bl (decide (dl = [])))) := by
  unfold eqOp; rw [eqok_nil, beq_nil]; rfl
theorem ne_nilI {dl : List Int} : neOp (.lst (dl.map D.int)) (.lst []) = some (.s (.bl (!decide (dl = [])))) := by
  unfold neOp; rw [eqok_nil, beq_nil]; rfl
theorem min_is {dl : List Int} {v : Int} (h1 : v ∈ dl) (h2 : ∀ z ∈ dl, v ≤ z) : minOp [.lst (dl.map D.int)] = some (.s (.int v)) := by
  cases dl with
  | nil => cases h1
  | cons a b =>
    obtain ⟨q1, q2⟩ := minL_ok (ns := a :: b) (by simp)
    have e : minL (a :: b) = v := Int.le_antisymm (q2 v h1) (h2 _ q1)
    unfold minOp; simp only []
    rw [intsOf_map]
    simp only []
    rw [e]
def fD (ls : Ws) (w : Int) : D → D
  | .lst ds => optD (ragP ls w ((intsOf ds).getD []))
  | _ => .non
def pD (c : Nat) : D → Bool
  | .lst ds => decide (ds.length = c)
  | _ => false
theorem fD_enc {ls : Ws} {w : Int} {s : List Nat} : fD ls w (encI (zs s)) = optD (ragP ls w (zs s)) := by
  show optD (ragP ls w ((intsOf ((zs s).map D.int)).getD [])) = _
  rw [intsOf_map]; rfl
theorem pD_enc {c : Nat} {s : List Nat} : pD c (encI (zs s)) = decide (s.length = c) := by
  show decide (((zs s).map D.int).length = c) = _
  simp [zs]
def duesL (ls : Ws) (w : Int) (ss : List (List Nat)) (c : Nat) : List Int := (ss.filter fun s => decide (s.length = c)).map fun s => (val ls w 0 s).getD 0
theorem dues_eq {ls : Ws} {w : Int} {c : Nat} : ∀ {ss : List (List Nat)}, (∀ s ∈ ss, fitL ls w 0 s) → ((encSt ss).filter (pD c)).map (fD ls w) = (duesL ls w ss c).map D.int
  | [], _ => rfl
  | s :: ss, h => by
    have ih := dues_eq (ls := ls) (w := w) (c := c) (ss := ss) fun q hq => h q (List.mem_cons_of_mem _ hq)
    obtain ⟨v, hv, hv2⟩ := fit_ragP (h s (List.mem_cons_self ..))
    unfold encSt duesL at ih ⊢
    rw [List.map_cons, List.filter_cons, List.filter_cons, pD_enc]
    split
    · rw [List.map_cons, List.map_cons, List.map_cons, ih, fD_enc, hv, hv2]; rfl
    · exact ih
theorem lin_w {ls : Ws} {w : Int} {ss : List (List Nat)} (hs : Small ls) (h0 : 0 < ls.length) (hw : 0 ≤ w ∧ w ≤ 1000) (hss : ∀ s, s ∈ ss ↔ fitL ls w 0 s) (hsl : ss.length ≤ 10000)
    (h : Q (.sh .im, .bl true) [(.im, encW ls), iS w, (.im, .lst (encSt ss))]) : wF d__law_in_lines_right Q X [(.im, encW ls), iS w, (.im, .lst (encSt ss))] := by
  unfold d__law_in_lines_right; rw [wF_fn_z]; unfold b__law_in_lines_right
  have h12 := hs.1
  have hl : (encWs ls).length = ls.length := by simp [encWs]
  refine seq_inv (fun ρ => ∃ x y z, ρ = [some (.im, encW ls), some (iS w), some (.im, .lst (encSt ss)), x, y, z, none]) ?_ ?_
  rotate_left
  · rintro ρ ⟨x, y, z, rfl⟩
    simp
    exact h
  simp [encW, hl]
  refine ⟨rngOk_of (by omega) (by omega), ?_⟩
  refine loop_inv (I := fun j ρ => ∃ x y z, ρ = [some (.im, encW ls), some (iS w), some (.im, .lst (encSt ss)), x, y, z, none]) ⟨_, _, _, rfl⟩ ?_ fun ρ h => h
  intro c d ρ hc hI
  obtain ⟨x, y, z, rfl⟩ := hI
  obtain ⟨hc, rfl⟩ := rangeD_get hc
  have hc : c ≤ 100 := by omega
  rw [gSet_eq]
  refine ⟨by simp, ?_⟩
  simp only [List.set_cons_succ, List.set_cons_zero, Int.zero_add]
  have dmem : ∀ {s v}, fitL ls w 0 s → s.length = c → val ls w 0 s = some v → v ∈ duesL ls w ss c := fun {s v} h1 h2 h3 => by
    unfold duesL
    refine List.mem_map.2 ⟨s, List.mem_filter.2 ⟨(hss s).2 h1, by simp [h2]⟩, by rw [h3]; rfl⟩
  have dback : ∀ {v}, v ∈ duesL ls w ss c → ∃ s, fitL ls w 0 s ∧ s.length = c ∧ val ls w 0 s = some v := fun {v} hv => by
    unfold duesL at hv
    obtain ⟨s, hs1, rfl⟩ := List.mem_map.1 hv
    obtain ⟨h1, h2⟩ := List.mem_filter.1 hs1
    have h1 := (hss s).1 h1
    obtain ⟨v, hv⟩ := fit_val h1
    exact ⟨s, h1, by simpa using h2, by rw [hv]; rfl⟩
  refine seq_op (fun ρ => ∃ T, ((T = D.non ∧ ∀ ks, ks.length = c → fitL ls w 0 ks → False) ∨ ∃ ks v, T = .tup [encI (zs ks), .int v] ∧ ks.length = c ∧ fitL ls w 0 ks ∧ val ls w 0 ks = some v ∧ ∀ ks', ks'.length = c → fitL ls w 0 ks' → ∀ v', val ls w 0 ks' = some v' → v ≤ v') ∧ ρ = [some (.im, encW ls), some (iS w), some (.im, .lst (encSt ss)), some (iS (c : Nat)), some (.im, T), z, none]) (fun I hI => ?_) ?_
  · simp [encW]
    refine in_lines_w hs h0 hw hc (fun hn => ?_) fun ks v k1 k2 k3 k4 => ?_
    · simp
      exact hI _ ⟨_, .inl ⟨rfl, hn⟩, rfl⟩
    · simp
      exact hI _ ⟨_, .inr ⟨ks, v, rfl, k1, k2, k3, k4⟩, rfl⟩
  rintro _ ⟨T, hT, rfl⟩
  refine seq_op (fun ρ => ρ = [some (.im, encW ls), some (iS w), some (.im, .lst (encSt ss)), some (iS (c : Nat)), some (.im, T), some (.ow .im, encI (duesL ls w ss c)), none]) (fun I hI => ?_) ?_
  · simp [ownIm, wipeR]
    refine wC_pure (pD c) (fD ls w) (by simp [encSt, sizeLine]; omega) ?_ ?_
    · intro d hd
      obtain ⟨s, hs1, rfl⟩ := List.mem_map.1 hd
      have h1 := (hss s).1 hs1
      have sl := fit_len h1
      rw [pD_enc, fD_enc]
      simp [encI, zs_len]
      refine ⟨by omega, ?_⟩
      split
      · refine lrag_w hs hw (.inl rfl) (by rw [zs_len]; omega) fun s' hso => ?_
        simp [wipeR]
      · simp [wipeR]
    · rw [dues_eq fun s hs => (hss s).1 hs]
      simp [mergeR]
      exact hI _ rfl
  rintro _ rfl
  have e1 := eq_nilI (dl := duesL ls w ss c)
  have e2 := ne_nilI (dl := duesL ls w ss c)
  rcases hT with ⟨rfl, hn⟩ | ⟨ks, v, rfl, k1, k2, k3, k4⟩
  · have dn : duesL ls w ss c = [] := by
      cases hd : duesL ls w ss c with
      | nil => rfl
      | cons a b =>
        obtain ⟨s, q1, q2, _⟩ := dback (v := a) (by rw [hd]; exact List.mem_cons_self ..)
        exact (hn s q2 q1).elim
    rw [dn] at e1 e2 ⊢
    simp at e1 e2
    simp [encI, e1, e2, isNotOp, isOp, isD]
  · have vm := dmem k2 k1 k3
    have dn : duesL ls w ss c ≠ [] := fun z => by rw [z] at vm; cases vm
    have mi := min_is vm fun z hz => by obtain ⟨s, q1, q2, q3⟩ := dback hz; exact k4 s q2 q1 z q3
    have a1 : atI [D.lst ((zs ks).map D.int), D.int v] 1 = some (.int v) := rfl
    have kc : (ks.length : Int) = c := by omega
    have hk := fit_len k2
    obtain ⟨v2, hv2, hv3⟩ := fit_ragP k2
    rw [k3] at hv3
    cases hv3
    generalize duesL ls w ss c = dl at *
    refine seq_skip (by simp [encI, e1, dn]) ?_
    refine seq_skip (by simp [encI, e2, dn, isOp, isD, a1, mi, atI0, zs_len, kc]) ?_
    simp [encI, e2, dn, atI0, a1]
    refine lrag_w hs hw (.inl rfl) (by rw [zs_len]; omega) fun s' hso => ?_
    rw [hv2]
    simp [optD, encI, atI0, a1]
end Lk76

set_option maxHeartbeats 1000000
namespace Lk76
open PySem PySem.Spec PyProof.Rows L2 Den
variable {Q : DV → List (Sh × D) → Prop} {X : Exn → List (Sh × D) → Prop}
theorem judge_set_ow {ls : Ws} {w num : Int} {cs ps : List Int} (hs : Small ls) (hw : 0 ≤ w ∧ w ≤ 1000) (hc : cs.length ≤ 100) (h : ∀ k : Bool, (k = true ↔ Right ls w cs num ps) → Q (.sh .im, .bl k) [(.im, encW ls), iS w, (.im, encI cs), iS num, (.ow .im, encI ps)]) : wF d_judge_setting Q X [(.im, encW ls), iS w, (.ow .im, encI cs), iS num, (.ow .im, encI ps)] := by
  unfold d_judge_setting; rw [wF_fn_z]; unfold b_judge_setting
  have h12 := hs.1
  have hl : (encWs ls).length = ls.length := by simp [encWs]
  have hN : ¬ Right ls w cs num ps → Q (.sh .im, .bl false) [(.im, encW ls), iS w, (.im, encI cs), iS num, (.ow .im, encI ps)] := fun z => h _ ⟨fun a => absurd a Bool.false_ne_true, fun a => absurd a z⟩
  rw [wS_seq_z, wS_if_z]
  simp
  refine ragged_w hs hw hc ?_
  simp [ne_opt]
  by_cases c1 : ragP ls w cs = some num
  rotate_left
  · simp [c1]
    exact hN fun z => c1 z.1
  simp [c1, encW, encI, hl]
  by_cases c2 : ps.length = ls.length + 1
  rotate_left
  · simp [show ¬ ((ps.length : Int) = (ls.length : Int) + 1) by omega]
    exact hN fun z => c2 z.2.1
  simp [show ((ps.length : Int) = (ls.length : Int) + 1) by omega]
  have a0 := atI_pg (ps := ps) (i := 0) (by omega)
  have a1 := atI_pl (ps := ps) (by omega)
  simp only [Int.natCast_zero] at a0
  simp [a0, a1]
  by_cases c3 : pg ps 0 = 0
  rotate_left
  · simp [c3]
    exact hN fun z => c3 z.2.2.1
  simp [c3]
  by_cases c4 : pg ps (ps.length - 1) = num
  rotate_left
  · simp [c4]
    exact hN fun z => c4 z.2.2.2.1
  simp [c4]
  have hY : potOk ls w ps → Q (.sh .im, .bl true) [(.im, encW ls), iS w, (.im, encI cs), iS num, (.ow .im, encI ps)] := fun z => h _ ⟨fun _ => ⟨c1, c2, c3, c4, z⟩, fun _ => rfl⟩
  have hN' : ∀ b e, b < ls.length → b < e → e ≤ ls.length → ¬ cell ls w ps b e → Q (.sh .im, .bl false) [(.im, encW ls), iS w, (.im, encI cs), iS num, (.ow .im, encI ps)] := fun b e h1 h2 h3 z => hN fun y => z (y.2.2.2.2 b h1 e h2 h3)
  refine ⟨rngOk_n (by omega), ?_⟩
  refine loop_inv (I := fun j ρ => (∀ b, b < j → ∀ e, b < e → e ≤ ls.length → cell ls w ps b e) ∧ ∃ x y z, ρ = [some (.im, encW ls), some (iS w), some (.im, encI cs), some (iS num), some (.ow .im, encI ps), x, y, z]) ⟨fun b hb => by omega, _, _, _, rfl⟩ ?_ ?_
  · intro b d ρ hk hI
    obtain ⟨hI, x, y, z, rfl⟩ := hI
    obtain ⟨hb, rfl⟩ := rangeD_get hk
    have hb : b < ls.length := by omega
    have done : (∀ e, b < e → e ≤ ls.length → cell ls w ps b e) → ∀ b', b' < b + 1 → ∀ e, b' < e → e ≤ ls.length → cell ls w ps b' e := fun h1 b' h2 e h3 h4 => by
      by_cases q : b' = b
      · subst q; exact h1 e h3 h4
      · exact hI b' (by omega) e h3 h4
    generalize (∀ b', b' < b + 1 → ∀ e, b' < e → e ≤ ls.length → cell ls w ps b' e) = DONE at *
    simp [encW, hl]
    refine ⟨⟨rngOk_of (by omega) (by omega), rngOk_of (by omega) (by omega)⟩, ?_⟩
    refine loop_inv (I := fun j ρ => (∀ e, b < e → e < b + 1 + j → cell ls w ps b e) ∧ ∃ y z, ρ = [some (.im, encW ls), some (iS w), some (.im, encI cs), some (iS num), some (.ow .im, encI ps), some (iS (b : Nat)), y, z]) ⟨fun e h1 h2 => by omega, _, _, rfl⟩ ?_ ?_
    · intro j d ρ hk hJ
      obtain ⟨hJ, y, z, rfl⟩ := hJ
      obtain ⟨hk, rfl⟩ := rangeD_get hk
      obtain ⟨e, he⟩ : ∃ e, e = b + 1 + j := ⟨_, rfl⟩
      have hen : e ≤ ls.length := by omega
      simp
      rw [show ((b : Int) + 1 + (j : Int)) = (e : Nat) by omega]
      refine left_w hs hw ?_
      unfold over
      split
      · rename_i c
        simp [optD, isOp, isD]
        refine ⟨done fun e' h1 h2 => ?_, rfl⟩
        by_cases q : e' < e
        · exact hJ e' h1 (by omega)
        · intro hle
          have := lenAt_mono (ls := ls) (b := b) (show e ≤ e' by omega)
          omega
      · rename_i c
        have pe := atI_pg (ps := ps) (i := e) (by omega)
        have pb := atI_pg (ps := ps) (i := b) (by omega)
        simp [optD, isOp, isD, encI, pe, pb]
        split
        · rename_i c2
          have := hN' b e hb (by omega) hen fun z => by have := z (by omega); omega
          simpa [encW, encI] using this
        · rename_i c2
          intro e' h1 h2
          by_cases q : e' = e
          · subst q; intro _; omega
          · exact hJ e' h1 (by omega)
    · intro ρ hJ
      obtain ⟨hJ, y, z, rfl⟩ := hJ
      rw [rangeD_len] at hJ
      exact ⟨done fun e h1 h2 => hJ e h1 (by omega), _, _, _, rfl⟩
  · intro ρ hI
    obtain ⟨hI, x, y, z, rfl⟩ := hI
    rw [rangeD_len] at hI
    simp
    exact hY fun b hb => hI b (by omega)
def codes : List Nat := [97, 98, 99, 100, 101, 102, 103, 104, 105]
def Word (l : List Nat) : Prop := (∃ j, j < 9 ∧ l = codes.drop j) ∨ l = [97]
theorem word_ok {l : List Nat} (h : Word l) : PyData.strOk (S l) = true := by
  rcases h with ⟨j, hj, rfl⟩ | rfl
  rotate_left
  · decide +kernel
  have : ∀ j, j < 9 → PyData.strOk (S (codes.drop j)) = true := by decide +kernel
  exact this j hj
theorem word_len {l : List Nat} (h : Word l) : 1 ≤ l.length ∧ l.length ≤ 9 := by
  rcases h with ⟨j, hj, rfl⟩ | rfl
  · simp [codes]; omega
  · simp
theorem plain_lines {ls : List (List Nat)} (h : ls.length ≤ 1000) : D.plain 9 (.lst (ls.map fun l => D.str (S l))) = true := by
  rw [D.plain, Bool.and_eq_true, decide_eq_true_eq]
  refine ⟨by rw [List.length_map]; unfold sizeLine; omega, plains_all fun d hd => ?_⟩
  obtain ⟨l, _, rfl⟩ := List.mem_map.1 hd; rfl
theorem shps_st {k : Nat} : ∀ {ss : List (List Nat)}, D.shps (k + 1) (encSt ss) = true
  | [] => rfl
  | s :: ss => by
    show (D.shps k ((zs s).map D.int) && D.shps (k + 1) (encSt ss)) = true
    rw [shps_ints, shps_st]; rfl
theorem eq_encSt {ss : List (List Nat)} : eqOp (.lst (encSt ss)) (.lst []) = some (.s (.bl (decide (ss = [])))) := by
  have e : D.beq (.lst (encSt ss)) (.lst []) = decide (ss = []) := by
    cases ss with
    | nil => rfl
    | cons => simp [encSt, D.beq, D.beqs]
  unfold eqOp eqOk
  rw [e, show D.shp 60 (.lst (encSt ss)) = true from shps_st (k := 58), show D.shp 60 (.lst []) = true from rfl]
  simp
def Kx (x : Slot) : Prop := x = none ∨ ∃ d, x = some (.im, d)
theorem plain_opt {o : Option Int} : D.plain 9 (optD o) = true := by cases o <;> rfl
theorem least_ge {ls : Ws} {w num : Int} {ks : List Nat} {ps : List Int} (h : Least ls w ks num ps) {s : List Nat} {v : Int} (hs : fitL ls w 0 s) (hv : val ls w 0 s = some v) : num ≤ v := by
  have h1 := fit_sum hs
  have h2 := pot_le h.pot (fit_one hs) (by omega) hv
  rw [h1, h.pn, h.p0] at h2; omega
theorem least_len {ls : Ws} {w num : Int} {ks : List Nat} {ps : List Int} (h : Least ls w ks num ps) : ks.length ≤ ls.length := by
  have := h.one.len; have := h.sum; omega
end Lk76

set_option maxHeartbeats 1000000
namespace Lk76
open PySem PySem.Spec PyProof.Rows L2 Den
variable {Q : DV → List (Sh × D) → Prop} {X : Exn → List (Sh × D) → Prop}
theorem law_w (ns : List Int) : wF d_law (fun a _ => ∃ m, a = (m, D.bl true)) (fun _ _ => False) [(.im, .lst (ns.map .int))] := by
  unfold d_law; rw [wF_fn_z]; unfold b_law
  rw [e_pool, e_next, e_draw, e_pick, e_same]
  refine seq_op (fun ρ => ∃ a r f, ρ = [some (.im, .lst (ns.map .int)), some (pS ns a r f), none, none, none, none, none, none, none, none, none, none, none, none, none]) (fun I hI => ?_) ?_
  · simp
    refine pool_w fun a r f => ?_
    simp
    exact hI _ ⟨a, r, f, rfl⟩
  rintro _ ⟨a, r, f, rfl⟩
  refine seq_op (fun ρ => ρ = [some (.im, .lst (ns.map .int)), some (pS ns a r f), some (.ow .im, .lst []), none, none, none, none, none, none, none, none, none, none, none, none]) (fun I hI => ?_) ?_
  · simp [sizeLine]; exact hI _ rfl
  rintro _ rfl
  refine seq_op (fun ρ => ∃ a r f, ∃ (ls : Ws) (x : Slot), Kx x ∧ (∀ l ∈ ls, Word l) ∧ 0 < ls.length ∧ ls.length ≤ 14 ∧ ρ = [some (.im, .lst (ns.map .int)), some (pS ns a r f), some (.ow .im, encW ls), x, none, none, none, none, none, none, none, none, none, none, none]) (fun I hI => ?_) ?_
  · simp
    refine draw_w (by decide) (by decide) fun r f v h1 h2 => ?_
    simp
    refine ⟨rngOk_of (by omega) (by omega), ?_⟩
    obtain ⟨J, hJe⟩ : ∃ J : Nat → Rho → Prop, J = fun k ρ => ∃ a r f, ∃ (ls : Ws) (x : Slot), Kx x ∧ (∀ l ∈ ls, Word l) ∧ ls.length = k ∧ ρ = [some (.im, .lst (ns.map .int)), some (pS ns a r f), some (.ow .im, encW ls), x, none, none, none, none, none, none, none, none, none, none, none] := ⟨_, rfl⟩
    refine loop_inv (I := J) (by rw [hJe]; exact ⟨_, _, _, [], _, .inl rfl, (fun l hl => by cases hl), rfl, rfl⟩) ?_ ?_
    · intro k d ρ hk hJ
      rw [hJe] at hJ
      obtain ⟨a, r, f, ls, x, hx, hg, hl, rfl⟩ := hJ
      obtain ⟨hk, rfl⟩ := rangeD_get hk
      rw [gSet_eq]
      refine ⟨by simp, ?_⟩
      simp only [List.set_cons_succ, List.set_cons_zero, Int.zero_add]
      refine seq_op (fun ρ => ∃ a r f, ρ = [some (.im, .lst (ns.map .int)), some (pS ns a r f), some (.ow .im, encW ls), some (iS k), none, none, none, none, none, none, none, none, none, none, none]) (fun I hI => ?_) ?_
      · simp; refine next_w fun a r f => ?_
        simp; exact hI _ ⟨a, r, f, rfl⟩
      rintro _ ⟨a, r, f, rfl⟩
      have app : ∀ l, Word l → (∀ l' ∈ ls ++ [l], Word l') ∧ (ls ++ [l]).length = k + 1 := fun l hw => ⟨fun l' hl' => by
        rcases List.mem_append.1 hl' with z | z
        · exact hg l' z
        · simp at z; rw [z]; exact hw, by simp; omega⟩
      have fin : ∀ a r f l d, Word l → d = encW (ls ++ [l]) → J (k + 1) [some (.im, .lst (ns.map .int)), some (pS ns a r f), some (.ow .im, d), some (iS k), none, none, none, none, none, none, none, none, none, none, none] := fun a r f l d hw hd => by
        rw [hJe, hd]; exact ⟨a, r, f, _, _, .inr ⟨_, rfl⟩, (app l hw).1, (app l hw).2, rfl⟩
      clear hJe
      rw [show (.str "abcdefghi" : D) = .str (S codes) from rfl, show (.str "a" : D) = .str (S [97]) from rfl]
      simp [encW]
      refine draw_w (by decide) (by decide) fun r f v h3 h4 => ?_
      simp
      split
      · refine draw_w (by decide) (by decide) fun r f v h3 h4 => ?_
        obtain ⟨j, rfl⟩ : ∃ j : Nat, v = j := ⟨v.toNat, by omega⟩
        have q := fin a r f (codes.drop j) _ (.inl ⟨j, by omega, rfl⟩) rfl
        simp [codes, sizeLine, cut_from, encWs]
        exact ⟨by omega, by simpa [codes, encW, encWs] using q⟩
      · have q := fin a r f [97] _ (.inr rfl) rfl
        simp [sizeLine, encWs]
        exact ⟨by omega, by simpa [encW, encWs] using q⟩
    · intro ρ hz
      rw [hJe] at hz
      obtain ⟨a, r, f, ls, x, hx, hg, hl, rfl⟩ := hz
      rw [rangeD_len] at hl
      exact hI _ ⟨a, r, f, ls, x, hx, hg, by omega, by omega, rfl⟩
  rintro _ ⟨a, r, f, ls, x, hx, hg, hl0, hl14, rfl⟩
  have hs : Small ls := ⟨hl14, fun l hl => word_len (hg l hl)⟩
  refine seq_op (fun ρ => ∃ m : Int, (0 ≤ m ∧ m ≤ 9) ∧ (∀ l ∈ ls, (l.length : Int) ≤ m) ∧ ρ = [some (.im, .lst (ns.map .int)), some (pS ns a r f), some (.im, encW ls), x, some (iS m), none, none, none, none, none, none, none, none, none, none]) (fun I hI => ?_) ?_
  · simp [encW, ownIm, wipeR]
    refine wC_map lenD (by simp [encWs, sizeLine]; omega) ?_ ?_
    · intro d hd
      simp [encWs] at hd; obtain ⟨l, hl, rfl⟩ := hd
      have := (hs.2 l hl).2
      have hz : l.length ≤ 16777216 := by omega
      simp [sizeLine, hz, lenD, wipeR]
    · have e : (encWs ls).map lenD = (ls.map fun l => (l.length : Int)).map D.int := by simp [encWs, lenD]
      obtain ⟨m, hm, hm1, hm2⟩ : ∃ m : Int, maxOp [.lst ((encWs ls).map lenD)] = some (.s (.int m)) ∧ m ≤ 9 ∧ ∀ l ∈ ls, (l.length : Int) ≤ m := by
        obtain ⟨q1, q2⟩ := maxL_ok (ns := ls.map fun l => (l.length : Int)) (by cases ls with
          | nil => simp at hl0
          | cons => simp)
        refine ⟨maxL (ls.map fun l => (l.length : Int)), ?_, ?_, fun l hl => q2 _ (List.mem_map.2 ⟨l, hl, rfl⟩)⟩
        · rw [e]; unfold maxOp; simp only []; rw [intsOf_map]
          cases ls with
          | nil => simp at hl0
          | cons => rfl
        · obtain ⟨l, hl, q⟩ := List.mem_map.1 q1
          rw [← q]; have := (hs.2 l hl).2; omega
      rw [List.nil_append]
      simp [mergeR, hm]
      have m0 : 0 ≤ m := by
        cases ls with
        | nil => simp at hl0
        | cons l _ => have := hm2 l (List.mem_cons_self ..); omega
      exact hI _ ⟨m, by omega, hm2, rfl⟩
  rintro _ ⟨m, hm, hf, rfl⟩
  refine seq_op (fun ρ => ∃ (r f w : Int), (0 ≤ w ∧ w ≤ 1000) ∧ (∀ l ∈ ls, (l.length : Int) ≤ w) ∧ ρ = [some (.im, .lst (ns.map .int)), some (pS ns a r f), some (.im, encW ls), x, some (iS m), some (iS w), none, none, none, none, none, none, none, none, none]) (fun I hI => ?_) ?_
  · simp
    refine ⟨by simp [sizeLine], ?_⟩
    refine pick_w (by simp) (by simp) fun r f d hd => ?_
    obtain ⟨q, hq, rfl⟩ : ∃ q : Int, (0 < q ∧ q ≤ 30) ∧ d = .int q := by simp at hd; rcases hd with rfl | rfl | rfl <;> exact ⟨_, by decide, rfl⟩
    simp
    refine draw_w (by omega) (by omega) fun r f v h3 h4 => ?_
    simp
    exact hI _ ⟨r, f, m + v, by omega, fun l hl => by have := hf l hl; omega, rfl⟩
  clear hf
  rintro _ ⟨r, f, w, hw, hf, rfl⟩
  refine seq_op (fun ρ => ρ = [some (.im, .lst (ns.map .int)), some (pS ns a r f), some (.im, encW ls), x, some (iS m), some (iS w), some (.ow .im, encW ls), none, none, none, none, none, none, none, none]) (fun I hI => ?_) ?_
  · simp [encW]; exact hI _ rfl
  rintro _ rfl
  refine seq_op (fun ρ => ∃ s ks num ps, isO s ∧ Least ls w ks num ps ∧ ρ = [some (.im, .lst (ns.map .int)), some (pS ns a r f), some (.im, encW ls), x, some (iS m), some (iS w), some (s, encW ls), some (.im, .tup [encI (zs ks), .int num, encI ps]), none, none, none, none, none, none, none]) (fun I hI => ?_) ?_
  · simp
    refine least_w (s := .ow .im) (.inr rfl) hs hw hf fun s ks num ps hso hL => ?_
    simp
    exact hI _ ⟨s, ks, num, ps, hso, hL, rfl⟩
  rintro _ ⟨s, ks, num, ps, hso, hL, rfl⟩
  have plW : D.plain 9 (encW ls) = true := plain_lines (by omega)
  refine seq_op (fun ρ => ∃ y, ρ = [some (.im, .lst (ns.map .int)), some (pS ns a r f), some (.im, encW ls), x, some (iS m), some (iS w), y, some (.im, .tup [encI (zs ks), .int num, encI ps]), none, none, none, none, none, none, none]) (fun I hI => ?_) ?_
  · rcases hso with rfl | rfl
    all_goals
      simp
      refine sameC_w 9 (encW ls) plW _ _ fun s s' => ?_
      simp [isiOp, tyName, isiB]
      exact hI _ ⟨_, rfl⟩
  rintro _ ⟨y, rfl⟩
  have hR := hL.right
  have hkl := least_len hL
  have b1 : atI [encI (zs ks), D.int num, encI ps] 1 = some (.int num) := rfl
  have b2 : atI [encI (zs ks), D.int num, encI ps] 2 = some (encI ps) := rfl
  have b3 : atI [D.lst ((zs ks).map D.int), D.int num, D.lst (ps.map D.int)] 1 = some (.int num) := rfl
  have b4 : atI [D.lst ((zs ks).map D.int), D.int num, D.lst (ps.map D.int)] 2 = some (D.lst (ps.map D.int)) := rfl
  refine seq_op (fun ρ => ρ = [some (.im, .lst (ns.map .int)), some (pS ns a r f), some (.im, encW ls), x, some (iS m), some (iS w), y, some (.im, .tup [encI (zs ks), .int num, encI ps]), none, none, none, none, none, none, none]) (fun I hI => ?_) ?_
  · simp [atI0, b1, b2]
    refine lrag_w hs hw (.inl rfl) (by rw [zs_len]; omega) fun s hso => ?_
    rw [hR.1]
    simp [atI0, b1, b2]
    refine sameC_w 9 (.int num) rfl _ _ fun s s' => ?_
    simp [atI0, b1, b2]
    refine lpot_w hs hl0 hw hR ?_
    simp
    exact hI _ rfl
  rintro _ rfl
  refine seq_op (fun ρ => ρ = [some (.im, .lst (ns.map .int)), some (pS ns a r f), some (.im, encW ls), x, some (iS m), some (iS w), y, some (.im, .tup [encI (zs ks), .int num, encI ps]), none, none, none, none, none, none, none]) (fun I hI => ?_) ?_
  · simp [atI0, b3, b4, encI]
    refine judge_set_ow (cs := zs ks) (ps := ps) hs hw (by rw [zs_len]; omega) fun k hk => ?_
    obtain rfl := hk.2 hR
    simp [isNotOp, isD]
    exact hI _ rfl
  rintro _ rfl
  refine seq_op (fun ρ => ρ = [some (.im, .lst (ns.map .int)), some (pS ns a r f), some (.im, encW ls), x, some (iS m), some (iS w), y, some (.im, .tup [encI (zs ks), .int num, encI ps]), some (iS 0), none, none, none, none, none, none]) (fun I hI => ?_) ?_
  · simp; exact hI _ rfl
  rintro _ rfl
  refine seq_op (fun ρ => ρ = [some (.im, .lst (ns.map .int)), some (pS ns a r f), some (.im, encW ls), x, some (iS m), some (iS w), y, some (.im, .tup [encI (zs ks), .int num, encI ps]), some (iS 0), some (.ow .im, .lst []), none, none, none, none, none]) (fun I hI => ?_) ?_
  · simp [sizeLine]; exact hI _ rfl
  rintro _ rfl
  refine seq_op (fun ρ => ∃ x8 x10, ρ = [some (.im, .lst (ns.map .int)), some (pS ns a r f), some (.im, encW ls), x, some (iS m), some (iS w), y, some (.im, .tup [encI (zs ks), .int num, encI ps]), x8, some (.ow .im, encW (linesL ls 0 ks)), x10, none, none, none, none]) (fun I hI => ?_) ?_
  · simp [atI0, encI]
    refine loop_inv (I := fun j ρ => ∃ (b : Nat) (A : Ws) (x10 : Slot), A.length = j ∧ linesL ls 0 ks = A ++ linesL ls b (ks.drop j) ∧ ρ = [some (.im, .lst (ns.map .int)), some (pS ns a r f), some (.im, encW ls), x, some (iS m), some (iS w), y, some (.im, .tup [encI (zs ks), .int num, encI ps]), some (iS (b : Nat)), some (.ow .im, encW A), x10, none, none, none, none]) ⟨0, [], _, rfl, rfl, rfl⟩ ?_ ?_
    · intro j d ρ hj hI
      obtain ⟨b, A, x10, hA, hl, rfl⟩ := hI
      rw [zs, List.map_map, List.getElem?_map] at hj
      obtain ⟨k, hr, rfl⟩ := Option.map_eq_some_iff.1 hj
      have hd : ks.drop j = k :: ks.drop (j + 1) := by
        obtain ⟨h1, h2⟩ := List.getElem?_eq_some_iff.1 hr
        rw [List.drop_eq_getElem_cons h1, h2]
      have hj' := (List.getElem?_eq_some_iff.1 hr).1
      rw [hd, linesL] at hl
      obtain ⟨e, he⟩ : ∃ e, e = b + k := ⟨_, rfl⟩
      have ec : ((b : Int) + k) = (e : Nat) := by omega
      rw [← he] at hl
      have jw := join_w (hs.cut b e)
      simp [encW, ec, cut_encW, jw, isS_str, sizeLine]
      exact ⟨by simp [encWs]; omega, e, A ++ [glueL [32] ((ls.take e).drop b)], by simp; omega, by simpa using hl, rfl, by simp [encWs]⟩
    · intro ρ hI'
      obtain ⟨b, A, x10, hA, hl, rfl⟩ := hI'
      have e0 : ks.drop (List.map D.int (zs ks)).length = [] := by simp [zs]
      rw [e0] at hl
      simp [linesL] at hl
      exact hI _ ⟨_, _, by rw [hl]⟩
  rintro _ ⟨x8, x10, rfl⟩
  have plL : D.plain 9 (encW (linesL ls 0 ks)) = true := plain_lines (by rw [lines_len]; omega)
  refine seq_op (fun ρ => ∃ x9, ρ = [some (.im, .lst (ns.map .int)), some (pS ns a r f), some (.im, encW ls), x, some (iS m), some (iS w), y, some (.im, .tup [encI (zs ks), .int num, encI ps]), x8, x9, x10, none, none, none, none]) (fun I hI => ?_) ?_
  · simp [atI0, encI, encW]
    refine written_w (ks := ks) hs (by omega) fun s s' => ?_
    simp
    refine sameC_w 9 _ plL _ _ fun s s' => ?_
    simp
    exact hI _ ⟨_, rfl⟩
  rintro _ ⟨x9, rfl⟩
  refine seq_inv (fun ρ => ∃ a r f x x11 x13, Kx x13 ∧ ρ = [some (.im, .lst (ns.map .int)), some (pS ns a r f), some (.im, encW ls), x, some (iS m), some (iS w), y, some (.im, .tup [encI (zs ks), .int num, encI ps]), x8, x9, x10, x11, none, x13, none]) ?_ ?_
  · simp
    refine ⟨rngOk_of (by omega) (by omega), ?_⟩
    refine loop_inv (I := fun j ρ => ∃ a r f x x11 x13, Kx x ∧ Kx x13 ∧ ρ = [some (.im, .lst (ns.map .int)), some (pS ns a r f), some (.im, encW ls), x, some (iS m), some (iS w), y, some (.im, .tup [encI (zs ks), .int num, encI ps]), x8, x9, x10, x11, none, x13, none]) ⟨a, r, f, x, _, _, hx, .inl rfl, rfl⟩ ?_ ?_
    · intro j d ρ hj hI
      obtain ⟨a, r, f, x, x11, x13, hx, hx13, rfl⟩ := hI
      obtain ⟨hj, rfl⟩ := rangeD_get hj
      rw [gSet_eq]
      refine ⟨by simp, ?_⟩
      simp only [List.set_cons_succ, List.set_cons_zero, Int.zero_add]
      refine seq_op (fun ρ => ∃ a r f, ∃ cs : List Int, cs.length ≤ 10 ∧ ρ = [some (.im, .lst (ns.map .int)), some (pS ns a r f), some (.im, encW ls), x, some (iS m), some (iS w), y, some (.im, .tup [encI (zs ks), .int num, encI ps]), x8, x9, x10, some (iS j), none, some (.ow .im, encI cs), none]) (fun I hI => ?_) ?_
      · have fin : ∀ (a r f : Int) (cs : List Int), cs.length ≤ 10 → I [some (.im, .lst (ns.map .int)), some (pS ns a r f), some (.im, encW ls), x, some (iS m), some (iS w), y, some (.im, .tup [encI (zs ks), .int num, encI ps]), x8, x9, x10, some (iS j), none, some (.ow .im, encI cs), none] := fun a r f cs h => hI _ ⟨a, r, f, cs, h, rfl⟩
        clear hI
        rcases hx with rfl | ⟨d, rfl⟩
        all_goals
          simp
          refine draw_w (by decide) (by decide) fun r f v h1 h2 => ?_
          simp [ownIm, wipeR]
          refine ⟨rngOk_of (by omega) (by omega), ?_⟩
          refine wC_inv (fun j' ρ acc => ∃ r f, ∃ cs : List Int, cs.length = j' ∧ acc = cs.map D.int ∧ ρ = [some (.im, .lst (ns.map .int)), some (pS ns a r f), some (.im, encW ls), none, some (iS m), some (iS w), y, some (.im, .tup [encI (zs ks), .int num, encI ps]), x8, x9, x10, some (iS j), none, x13, none]) ⟨r, f, [], rfl, rfl, rfl⟩ ?_ ?_
          · rintro j' d' ρ acc hj' ⟨r, f, cs, hl, rfl, rfl⟩
            obtain ⟨hj', rfl⟩ := rangeD_get hj'
            simp
            refine draw_w (by decide) (by decide) fun r f v1 h3 h4 => ?_
            simp
            refine draw_w (by decide) (by decide) fun r f v2 h5 h6 => ?_
            obtain ⟨z, hz⟩ : ∃ z, int1Op [D.bl (decide (v2 = 0))] = some (.s (.int z)) := ⟨_, rfl⟩
            simp [hz, wipeR, sizeLine]
            exact ⟨by omega, r, f, cs ++ [v1 - z], by simp; omega, by simp, rfl⟩
          · rintro ρ acc ⟨r, f, cs, hl, rfl, rfl⟩
            rw [rangeD_len] at hl
            simp [mergeR]
            exact fin a r f cs (by omega)
      rintro _ ⟨a, r, f, cs, hc, rfl⟩
      refine seq_op (fun ρ => ∃ a r f, ∃ cs : List Int, cs.length ≤ 11 ∧ ρ = [some (.im, .lst (ns.map .int)), some (pS ns a r f), some (.im, encW ls), x, some (iS m), some (iS w), y, some (.im, .tup [encI (zs ks), .int num, encI ps]), x8, x9, x10, some (iS j), none, some (.ow .im, encI cs), none]) (fun I hI => ?_) ?_
      · simp
        refine draw_w (by decide) (by decide) fun r f v h1 h2 => ?_
        simp
        split
        · have fin := hI _ ⟨a, r, f, cs ++ [max (((encWs ls).length : Int) - cs.sum) 1], by simp; omega, rfl⟩
          simp [encI, encW, sizeLine]
          exact ⟨by omega, by simpa [encI, encW] using fin⟩
        · exact hI _ ⟨a, r, f, cs, by omega, rfl⟩
      rintro _ ⟨a, r, f, cs, hc, rfl⟩
      simp [encI]
      refine ragged_w (cs := cs) hs hw (by omega) ?_
      simp
      refine lrag_w (cs := cs) hs hw (.inl rfl) (by omega) fun s hso => ?_
      simp
      refine sameC_w 9 _ plain_opt _ _ fun s s' => ?_
      simp
      exact ⟨a, r, f, x, hx, _, _, .inr ⟨_, rfl⟩, rfl, rfl, rfl, rfl⟩
    · intro ρ hI'
      obtain ⟨a, r, f, x, x11, x13, hx, hx13, rfl⟩ := hI'
      exact ⟨a, r, f, x, x11, x13, hx13, rfl⟩
  rintro _ ⟨a, r, f, x, x11, x13, hx13, rfl⟩
  have okw : Okw ls := fun l hl => word_ok (hg l hl)
  refine seq_op (fun ρ => ∃ ss : List (List Nat), ((ss = []) ∨ ∀ s, s ∈ ss ↔ fitL ls w 0 s) ∧ ss.length ≤ 10000 ∧ ρ = [some (.im, .lst (ns.map .int)), some (pS ns a r f), some (.im, encW ls), x, some (iS m), some (iS w), y, some (.im, .tup [encI (zs ks), .int num, encI ps]), x8, x9, x10, x11, some (.ow .im, .lst (encSt ss)), x13, none]) (fun I hI => ?_) ?_
  · have hl : (encWs ls).length = ls.length := by simp [encWs]
    simp [encW, hl]
    split
    · rename_i c
      refine settings_w (k := 9) (.inl rfl) hs okw (by omega) (by omega) fun s => ?_
      simp
      have l1 := len_allS (w := w) (f := 9) (ls := ls)
      have l2 : 2 ^ ls.length ≤ 512 := by
        have : 2 ^ ls.length ≤ 2 ^ 9 := Nat.pow_le_pow_right (by decide) (by omega)
        omega
      exact hI _ ⟨allS w 9 ls, .inr fun s => by
        rw [mem_allS (by omega)]
        have := fitW_L (ls := ls) (w := w) (ks := s) (b := 0) (Nat.zero_le _)
        rwa [List.drop_zero] at this, by omega, rfl⟩
    · exact hI _ ⟨[], .inl rfl, by simp, rfl⟩
  rintro _ ⟨ss, hss, hsl, rfl⟩
  have hfit : ∀ s ∈ ss, fitL ls w 0 s := fun s h => by
    rcases hss with rfl | z
    · cases h
    · exact (z s).1 h
  refine seq_op (fun ρ => ρ = [some (.im, .lst (ns.map .int)), some (pS ns a r f), some (.im, encW ls), x, some (iS m), some (iS w), y, some (.im, .tup [encI (zs ks), .int num, encI ps]), x8, x9, x10, x11, some (.im, .lst (encSt ss)), x13, none]) (fun I hI => ?_) ?_
  · have fin := hI _ rfl
    clear hI
    rcases hx13 with rfl | ⟨d, rfl⟩
    all_goals
      simp [ownIm, wipeR]
      refine wC_map (fun _ => .bl true) (by simp [encSt, sizeLine]; omega) ?_ ?_
      · intro d hd
        obtain ⟨s, hs1, rfl⟩ := List.mem_map.1 hd
        have h1 := hfit s hs1
        have hsl2 := fit_len h1
        obtain ⟨v, hv, hv2⟩ := fit_ragP h1
        have hge := least_ge hL h1 hv2
        simp
        refine lrag_w hs hw (.inl rfl) (by rw [zs_len]; omega) fun s' hso => ?_
        rw [hv]
        simp [optD, b1, wipeR, hge]
      · have ac := all_const (xs := encSt ss)
        generalize (encSt ss).map (fun _ => D.bl true) = zz at *
        rw [List.nil_append]
        simp [mergeR, ac]
        exact fin
  rintro _ rfl
  simp
  refine lfilled_w hs hw hf hfit ?_
  simp [eq_encSt]
  by_cases c : ss = []
  · simp [c]
  · rcases hss with z | z
    · exact absurd z c
    simp [c]
    refine lin_w hs hl0 hw z hsl ?_
    simp
theorem law_true (ns : List Int) (h : ns.length ≤ 63) (hb : ∀ z ∈ ns, Builtin.Int.intBits z ≤ 1048576) : ∃ m outs, d_law [(.im, .lst (ns.map .int))] = some (.ret (m, .bl true) outs) := by
  obtain ⟨a, os, e, m, rfl⟩ := of_wF (law_w ns)
  exact ⟨m, os, e⟩
end Lk76

set_option maxHeartbeats 4000000
namespace Lk76
open PySem PySem.Spec PyProof.Rows L2 Den
def spLaw (K : PySem.W.Frag) : Sp := fun vs H Q _ => ∃ (a : Addr) (ns : List Int), vs = [.ref a] ∧ SqL K H a (ns.map V.int) ∧ ns.length ≤ 63 ∧ (∀ z ∈ ns, Builtin.Int.intBits z ≤ 1048576) ∧ ∀ H', Q (.bl true) H'
theorem ok_all {P : Program} {w : World} {K : PySem.W.Frag} {mg : Str → Option Value} {base : Heap} (T : Txt K mg) : FnOk P w K mg base (L2.CX P w) 13 T.a_law T.fd_law ["script"] (spLaw K) :=
  (ok_law T).imp fun vs H Q E h => by
    obtain ⟨a, ns, rfl, hS, hl, hb, q⟩ := h
    obtain ⟨m, outs, e⟩ := law_true ns hl hb
    refine ⟨[(.im, .lst (ns.map .int))], H, [], _, ⟨⟨.ref a, [], [], [], rfl, rfl, ⟨rfl, .lst hS (ints_all ns)⟩, rfl, rfl⟩, .refl, List.nodup_nil⟩, rfl, e, fun v H' R' F' Fv so hv _ _ => ?_⟩
    have := (hv.at so.sub).scal rfl
    rw [this]
    exact q H'
theorem all_mk {l : PySem.W.OpenLaw} {w : World} {K : PySem.W.Frag} {h : Heap} {mg : Str → Option Value} {fa : Addr} (X : K.In h) (G : h.Ns mainGlobals mg) (hfa : mg "law" = some (.ref fa))
    {f0 : Addr} {od0 an0 : Option Addr} {sl0 : Array (Option Value)} {oc0 kV0 dc0 pm0 cd0 ct0 : Value}
    {f1 : Addr} {od1 an1 : Option Addr} {sl1 : Array (Option Value)} {oc1 kV1 dc1 pm1 cd1 ct1 : Value}
    {f2 : Addr} {od2 an2 : Option Addr} {sl2 : Array (Option Value)} {oc2 kV2 dc2 pm2 cd2 ct2 : Value}
    {f3 : Addr} {od3 an3 : Option Addr} {sl3 : Array (Option Value)} {oc3 kV3 dc3 pm3 cd3 ct3 : Value}
    {f4 : Addr} {od4 an4 : Option Addr} {sl4 : Array (Option Value)} {oc4 kV4 dc4 pm4 cd4 ct4 : Value}
    {f5 : Addr} {od5 an5 : Option Addr} {sl5 : Array (Option Value)} {oc5 kV5 dc5 pm5 cd5 ct5 : Value}
    {f6 : Addr} {od6 an6 : Option Addr} {sl6 : Array (Option Value)} {oc6 kV6 dc6 pm6 cd6 ct6 : Value}
    {f7 : Addr} {od7 an7 : Option Addr} {sl7 : Array (Option Value)} {oc7 kV7 dc7 pm7 cd7 ct7 : Value}
    {f8 : Addr} {od8 an8 : Option Addr} {sl8 : Array (Option Value)} {oc8 kV8 dc8 pm8 cd8 ct8 : Value}
    {f9 : Addr} {od9 an9 : Option Addr} {sl9 : Array (Option Value)} {oc9 kV9 dc9 pm9 cd9 ct9 : Value}
    {f10 : Addr} {od10 an10 : Option Addr} {sl10 : Array (Option Value)} {oc10 kV10 dc10 pm10 cd10 ct10 : Value}
    {f11 : Addr} {od11 an11 : Option Addr} {sl11 : Array (Option Value)} {oc11 kV11 dc11 pm11 cd11 ct11 : Value}
    {f12 : Addr} {od12 an12 : Option Addr} {sl12 : Array (Option Value)} {oc12 kV12 dc12 pm12 cd12 ct12 : Value}
    {f13 : Addr} {od13 an13 : Option Addr} {sl13 : Array (Option Value)} {oc13 kV13 dc13 pm13 cd13 ct13 : Value}
    {f14 : Addr} {od14 an14 : Option Addr} {sl14 : Array (Option Value)} {oc14 kV14 dc14 pm14 cd14 ct14 : Value}
    {f15 : Addr} {od15 an15 : Option Addr} {sl15 : Array (Option Value)} {oc15 kV15 dc15 pm15 cd15 ct15 : Value}
    {f16 : Addr} {od16 an16 : Option Addr} {sl16 : Array (Option Value)} {oc16 kV16 dc16 pm16 cd16 ct16 : Value}
    {f17 : Addr} {od17 an17 : Option Addr} {sl17 : Array (Option Value)} {oc17 kV17 dc17 pm17 cd17 ct17 : Value}
    {f18 : Addr} {od18 an18 : Option Addr} {sl18 : Array (Option Value)} {oc18 kV18 dc18 pm18 cd18 ct18 : Value}
    {f19 : Addr} {od19 an19 : Option Addr} {sl19 : Array (Option Value)} {oc19 kV19 dc19 pm19 cd19 ct19 : Value}
    {f20 : Addr} {od20 an20 : Option Addr} {sl20 : Array (Option Value)} {oc20 kV20 dc20 pm20 cd20 ct20 : Value}
    {f21 : Addr} {od21 an21 : Option Addr} {sl21 : Array (Option Value)} {oc21 kV21 dc21 pm21 cd21 ct21 : Value}
    {f22 : Addr} {od22 an22 : Option Addr} {sl22 : Array (Option Value)} {oc22 kV22 dc22 pm22 cd22 ct22 : Value}
    {f23 : Addr} {od23 an23 : Option Addr} {sl23 : Array (Option Value)} {oc23 kV23 dc23 pm23 cd23 ct23 : Value}
    (a0 : PySem.W.nsIn K mainGlobals "length_of" = some (some (.ref f0))) (l0 : K.lookup f0 = some ⟨oc0, od0, .func (PySem.W.fnOf "length_of" "length_of" (defArgs s_length_of) (defBody s_length_of) (defScope s_length_of) .none kV0 dc0 pm0 an0 cd0 ct0), sl0⟩) (c0 : PySem.W.codeIn K cd0 "length_of" = true) (k0 : PySem.W.keepIn K (.ref f0) = true)
    (a1 : PySem.W.nsIn K mainGlobals "left_over" = some (some (.ref f1))) (l1 : K.lookup f1 = some ⟨oc1, od1, .func (PySem.W.fnOf "left_over" "left_over" (defArgs s_left_over) (defBody s_left_over) (defScope s_left_over) .none kV1 dc1 pm1 an1 cd1 ct1), sl1⟩) (c1 : PySem.W.codeIn K cd1 "left_over" = true) (k1 : PySem.W.keepIn K (.ref f1) = true)
    (a2 : PySem.W.nsIn K mainGlobals "ragged" = some (some (.ref f2))) (l2 : K.lookup f2 = some ⟨oc2, od2, .func (PySem.W.fnOf "ragged" "ragged" (defArgs s_ragged) (defBody s_ragged) (defScope s_ragged) .none kV2 dc2 pm2 an2 cd2 ct2), sl2⟩) (c2 : PySem.W.codeIn K cd2 "ragged" = true) (k2 : PySem.W.keepIn K (.ref f2) = true)
    (a3 : PySem.W.nsIn K mainGlobals "best_begins" = some (some (.ref f3))) (l3 : K.lookup f3 = some ⟨oc3, od3, .func (PySem.W.fnOf "best_begins" "best_begins" (defArgs s_best_begins) (defBody s_best_begins) (defScope s_best_begins) .none kV3 dc3 pm3 an3 cd3 ct3), sl3⟩) (c3 : PySem.W.codeIn K cd3 "best_begins" = true) (k3 : PySem.W.keepIn K (.ref f3) = true)
    (a4 : PySem.W.nsIn K mainGlobals "least_ragged" = some (some (.ref f4))) (l4 : K.lookup f4 = some ⟨oc4, od4, .func (PySem.W.fnOf "least_ragged" "least_ragged" (defArgs s_least_ragged) (defBody s_least_ragged) (defScope s_least_ragged) .none kV4 dc4 pm4 an4 cd4 ct4), sl4⟩) (c4 : PySem.W.codeIn K cd4 "least_ragged" = true) (k4 : PySem.W.keepIn K (.ref f4) = true)
    (a5 : PySem.W.nsIn K mainGlobals "written" = some (some (.ref f5))) (l5 : K.lookup f5 = some ⟨oc5, od5, .func (PySem.W.fnOf "written" "written" (defArgs s_written) (defBody s_written) (defScope s_written) .none kV5 dc5 pm5 an5 cd5 ct5), sl5⟩) (c5 : PySem.W.codeIn K cd5 "written" = true) (k5 : PySem.W.keepIn K (.ref f5) = true)
    (a6 : PySem.W.nsIn K mainGlobals "judge_setting" = some (some (.ref f6))) (l6 : K.lookup f6 = some ⟨oc6, od6, .func (PySem.W.fnOf "judge_setting" "judge_setting" (defArgs s_judge_setting) (defBody s_judge_setting) (defScope s_judge_setting) .none kV6 dc6 pm6 an6 cd6 ct6), sl6⟩) (c6 : PySem.W.codeIn K cd6 "judge_setting" = true) (k6 : PySem.W.keepIn K (.ref f6) = true)
    (a7 : PySem.W.nsIn K mainGlobals "_law_mixed" = some (some (.ref f7))) (l7 : K.lookup f7 = some ⟨oc7, od7, .func (PySem.W.fnOf "_law_mixed" "_law_mixed" (defArgs s__law_mixed) (defBody s__law_mixed) (defScope s__law_mixed) .none kV7 dc7 pm7 an7 cd7 ct7), sl7⟩) (c7 : PySem.W.codeIn K cd7 "_law_mixed" = true) (k7 : PySem.W.keepIn K (.ref f7) = true)
    (a8 : PySem.W.nsIn K mainGlobals "_law_rest" = some (some (.ref f8))) (l8 : K.lookup f8 = some ⟨oc8, od8, .func (PySem.W.fnOf "_law_rest" "_law_rest" (defArgs s__law_rest) (defBody s__law_rest) (defScope s__law_rest) .none kV8 dc8 pm8 an8 cd8 ct8), sl8⟩) (c8 : PySem.W.codeIn K cd8 "_law_rest" = true) (k8 : PySem.W.keepIn K (.ref f8) = true)
    (a9 : PySem.W.nsIn K mainGlobals "_law_pool" = some (some (.ref f9))) (l9 : K.lookup f9 = some ⟨oc9, od9, .func (PySem.W.fnOf "_law_pool" "_law_pool" (defArgs s__law_pool) (defBody s__law_pool) (defScope s__law_pool) .none kV9 dc9 pm9 an9 cd9 ct9), sl9⟩) (c9 : PySem.W.codeIn K cd9 "_law_pool" = true) (k9 : PySem.W.keepIn K (.ref f9) = true)
    (a10 : PySem.W.nsIn K mainGlobals "_law_next" = some (some (.ref f10))) (l10 : K.lookup f10 = some ⟨oc10, od10, .func (PySem.W.fnOf "_law_next" "_law_next" (defArgs s__law_next) (defBody s__law_next) (defScope s__law_next) .none kV10 dc10 pm10 an10 cd10 ct10), sl10⟩) (c10 : PySem.W.codeIn K cd10 "_law_next" = true) (k10 : PySem.W.keepIn K (.ref f10) = true)
    (a11 : PySem.W.nsIn K mainGlobals "_law_draw" = some (some (.ref f11))) (l11 : K.lookup f11 = some ⟨oc11, od11, .func (PySem.W.fnOf "_law_draw" "_law_draw" (defArgs s__law_draw) (defBody s__law_draw) (defScope s__law_draw) .none kV11 dc11 pm11 an11 cd11 ct11), sl11⟩) (c11 : PySem.W.codeIn K cd11 "_law_draw" = true) (k11 : PySem.W.keepIn K (.ref f11) = true)
    (a12 : PySem.W.nsIn K mainGlobals "_law_pick" = some (some (.ref f12))) (l12 : K.lookup f12 = some ⟨oc12, od12, .func (PySem.W.fnOf "_law_pick" "_law_pick" (defArgs s__law_pick) (defBody s__law_pick) (defScope s__law_pick) .none kV12 dc12 pm12 an12 cd12 ct12), sl12⟩) (c12 : PySem.W.codeIn K cd12 "_law_pick" = true) (k12 : PySem.W.keepIn K (.ref f12) = true)
    (a13 : PySem.W.nsIn K mainGlobals "_law_same" = some (some (.ref f13))) (l13 : K.lookup f13 = some ⟨oc13, od13, .func (PySem.W.fnOf "_law_same" "_law_same" (defArgs s__law_same) (defBody s__law_same) (defScope s__law_same) .none kV13 dc13 pm13 an13 cd13 ct13), sl13⟩) (c13 : PySem.W.codeIn K cd13 "_law_same" = true) (k13 : PySem.W.keepIn K (.ref f13) = true)
    (a14 : PySem.W.nsIn K mainGlobals "_law_length" = some (some (.ref f14))) (l14 : K.lookup f14 = some ⟨oc14, od14, .func (PySem.W.fnOf "_law_length" "_law_length" (defArgs s__law_length) (defBody s__law_length) (defScope s__law_length) .none kV14 dc14 pm14 an14 cd14 ct14), sl14⟩) (c14 : PySem.W.codeIn K cd14 "_law_length" = true) (k14 : PySem.W.keepIn K (.ref f14) = true)
    (a15 : PySem.W.nsIn K mainGlobals "_law_ragged" = some (some (.ref f15))) (l15 : K.lookup f15 = some ⟨oc15, od15, .func (PySem.W.fnOf "_law_ragged" "_law_ragged" (defArgs s__law_ragged) (defBody s__law_ragged) (defScope s__law_ragged) .none kV15 dc15 pm15 an15 cd15 ct15), sl15⟩) (c15 : PySem.W.codeIn K cd15 "_law_ragged" = true) (k15 : PySem.W.keepIn K (.ref f15) = true)
    (a16 : PySem.W.nsIn K mainGlobals "_law_settings" = some (some (.ref f16))) (l16 : K.lookup f16 = some ⟨oc16, od16, .func (PySem.W.fnOf "_law_settings" "_law_settings" (defArgs s__law_settings) (defBody s__law_settings) (defScope s__law_settings) .none kV16 dc16 pm16 an16 cd16 ct16), sl16⟩) (c16 : PySem.W.codeIn K cd16 "_law_settings" = true) (k16 : PySem.W.keepIn K (.ref f16) = true)
    (a17 : PySem.W.nsIn K mainGlobals "_law_is_int" = some (some (.ref f17))) (l17 : K.lookup f17 = some ⟨oc17, od17, .func (PySem.W.fnOf "_law_is_int" "_law_is_int" (defArgs s__law_is_int) (defBody s__law_is_int) (defScope s__law_is_int) .none kV17 dc17 pm17 an17 cd17 ct17), sl17⟩) (c17 : PySem.W.codeIn K cd17 "_law_is_int" = true) (k17 : PySem.W.keepIn K (.ref f17) = true)
    (a18 : PySem.W.nsIn K mainGlobals "_law_potentials_right" = some (some (.ref f18))) (l18 : K.lookup f18 = some ⟨oc18, od18, .func (PySem.W.fnOf "_law_potentials_right" "_law_potentials_right" (defArgs s__law_potentials_right) (defBody s__law_potentials_right) (defScope s__law_potentials_right) .none kV18 dc18 pm18 an18 cd18 ct18), sl18⟩) (c18 : PySem.W.codeIn K cd18 "_law_potentials_right" = true) (k18 : PySem.W.keepIn K (.ref f18) = true)
    (a19 : PySem.W.nsIn K mainGlobals "filled" = some (some (.ref f19))) (l19 : K.lookup f19 = some ⟨oc19, od19, .func (PySem.W.fnOf "filled" "filled" (defArgs s_filled) (defBody s_filled) (defScope s_filled) .none kV19 dc19 pm19 an19 cd19 ct19), sl19⟩) (c19 : PySem.W.codeIn K cd19 "filled" = true) (k19 : PySem.W.keepIn K (.ref f19) = true)
    (a20 : PySem.W.nsIn K mainGlobals "_law_filled_right" = some (some (.ref f20))) (l20 : K.lookup f20 = some ⟨oc20, od20, .func (PySem.W.fnOf "_law_filled_right" "_law_filled_right" (defArgs s__law_filled_right) (defBody s__law_filled_right) (defScope s__law_filled_right) .none kV20 dc20 pm20 an20 cd20 ct20), sl20⟩) (c20 : PySem.W.codeIn K cd20 "_law_filled_right" = true) (k20 : PySem.W.keepIn K (.ref f20) = true)
    (a21 : PySem.W.nsIn K mainGlobals "in_lines" = some (some (.ref f21))) (l21 : K.lookup f21 = some ⟨oc21, od21, .func (PySem.W.fnOf "in_lines" "in_lines" (defArgs s_in_lines) (defBody s_in_lines) (defScope s_in_lines) .none kV21 dc21 pm21 an21 cd21 ct21), sl21⟩) (c21 : PySem.W.codeIn K cd21 "in_lines" = true) (k21 : PySem.W.keepIn K (.ref f21) = true)
    (a22 : PySem.W.nsIn K mainGlobals "_law_in_lines_right" = some (some (.ref f22))) (l22 : K.lookup f22 = some ⟨oc22, od22, .func (PySem.W.fnOf "_law_in_lines_right" "_law_in_lines_right" (defArgs s__law_in_lines_right) (defBody s__law_in_lines_right) (defScope s__law_in_lines_right) .none kV22 dc22 pm22 an22 cd22 ct22), sl22⟩) (c22 : PySem.W.codeIn K cd22 "_law_in_lines_right" = true) (k22 : PySem.W.keepIn K (.ref f22) = true)
    (a23 : PySem.W.nsIn K mainGlobals "law" = some (some (.ref f23))) (l23 : K.lookup f23 = some ⟨oc23, od23, .func (PySem.W.fnOf "law" "law" (defArgs s_law) (defBody s_law) (defScope s_law) .none kV23 dc23 pm23 an23 cd23 ct23), sl23⟩) (c23 : PySem.W.codeIn K cd23 "law" = true) (k23 : PySem.W.keepIn K (.ref f23) = true)
    (z_all : PySem.W.nsIn K mainGlobals "all" = some none)
    (z_bool : PySem.W.nsIn K mainGlobals "bool" = some none)
    (z_dict : PySem.W.nsIn K mainGlobals "dict" = some none)
    (z_int : PySem.W.nsIn K mainGlobals "int" = some none)
    (z_isinstance : PySem.W.nsIn K mainGlobals "isinstance" = some none)
    (z_len : PySem.W.nsIn K mainGlobals "len" = some none)
    (z_list : PySem.W.nsIn K mainGlobals "list" = some none)
    (z_max : PySem.W.nsIn K mainGlobals "max" = some none)
    (z_min : PySem.W.nsIn K mainGlobals "min" = some none)
    (z_range : PySem.W.nsIn K mainGlobals "range" = some none)
    (z_str : PySem.W.nsIn K mainGlobals "str" = some none)
    (z_sum : PySem.W.nsIn K mainGlobals "sum" = some none)
    (z_tuple : PySem.W.nsIn K mainGlobals "tuple" = some none)
    : ∃ fd : FuncData, (∀ (s : Shared) (v : Value), BindsTo s fd ⟨[v], []⟩ [("script", v)]) ∧ ∀ base : Heap, K.In base → base.Ns mainGlobals mg → FnOk l.prog w K mg base (L2.CX l.prog w) 13 fa fd ["script"] (spLaw K) := by
  have hfe : f23 = fa := by
    have e := hfa.symm.trans (PySem.W.mg_of X G a23)
    cases e; rfl
  have T : ∃ T : Txt K mg, T.a_law = fa ∧ ∀ (s : Shared) (v : Value), BindsTo s T.fd_law ⟨[v], []⟩ [("script", v)] := by
    refine ⟨{
      a_length_of := f0
      fd_length_of := _
      F_length_of := fun_mk (st := s_length_of) l0 c0 k0
      m_length_of := PySem.W.mg_of X G a0
      b_length_of := L2.Fun.binds (fun_mk (st := s_length_of) l0 c0 k0) (ps := ["words"]) fun _ _ _ _ _ _ us hl => match us, hl with | [_], _ => rfl
      a_left_over := f1
      fd_left_over := _
      F_left_over := fun_mk (st := s_left_over) l1 c1 k1
      m_left_over := PySem.W.mg_of X G a1
      b_left_over := L2.Fun.binds (fun_mk (st := s_left_over) l1 c1 k1) (ps := ["words", "width", "begin", "end"]) fun _ _ _ _ _ _ us hl => match us, hl with | [_, _, _, _], _ => rfl
      a_ragged := f2
      fd_ragged := _
      F_ragged := fun_mk (st := s_ragged) l2 c2 k2
      m_ragged := PySem.W.mg_of X G a2
      b_ragged := L2.Fun.binds (fun_mk (st := s_ragged) l2 c2 k2) (ps := ["words", "width", "setting"]) fun _ _ _ _ _ _ us hl => match us, hl with | [_, _, _], _ => rfl
      a_best_begins := f3
      fd_best_begins := _
      F_best_begins := fun_mk (st := s_best_begins) l3 c3 k3
      m_best_begins := PySem.W.mg_of X G a3
      b_best_begins := L2.Fun.binds (fun_mk (st := s_best_begins) l3 c3 k3) (ps := ["words", "width", "best", "end"]) fun _ _ _ _ _ _ us hl => match us, hl with | [_, _, _, _], _ => rfl
      a_least_ragged := f4
      fd_least_ragged := _
      F_least_ragged := fun_mk (st := s_least_ragged) l4 c4 k4
      m_least_ragged := PySem.W.mg_of X G a4
      b_least_ragged := L2.Fun.binds (fun_mk (st := s_least_ragged) l4 c4 k4) (ps := ["words", "width"]) fun _ _ _ _ _ _ us hl => match us, hl with | [_, _], _ => rfl
      a_written := f5
      fd_written := _
      F_written := fun_mk (st := s_written) l5 c5 k5
      m_written := PySem.W.mg_of X G a5
      b_written := L2.Fun.binds (fun_mk (st := s_written) l5 c5 k5) (ps := ["words", "setting"]) fun _ _ _ _ _ _ us hl => match us, hl with | [_, _], _ => rfl
      a_judge_setting := f6
      fd_judge_setting := _
      F_judge_setting := fun_mk (st := s_judge_setting) l6 c6 k6
      m_judge_setting := PySem.W.mg_of X G a6
      b_judge_setting := L2.Fun.binds (fun_mk (st := s_judge_setting) l6 c6 k6) (ps := ["words", "width", "setting", "number", "potentials"]) fun _ _ _ _ _ _ us hl => match us, hl with | [_, _, _, _, _], _ => rfl
      a__law_mixed := f7
      fd__law_mixed := _
      F__law_mixed := fun_mk (st := s__law_mixed) l7 c7 k7
      m__law_mixed := PySem.W.mg_of X G a7
      b__law_mixed := L2.Fun.binds (fun_mk (st := s__law_mixed) l7 c7 k7) (ps := ["number", "place"]) fun _ _ _ _ _ _ us hl => match us, hl with | [_, _], _ => rfl
      a__law_rest := f8
      fd__law_rest := _
      F__law_rest := fun_mk (st := s__law_rest) l8 c8 k8
      m__law_rest := PySem.W.mg_of X G a8
      b__law_rest := L2.Fun.binds (fun_mk (st := s__law_rest) l8 c8 k8) (ps := ["script", "place", "fills"]) fun _ _ _ _ _ _ us hl => match us, hl with | [_, _, _], _ => rfl
      a__law_pool := f9
      fd__law_pool := _
      F__law_pool := fun_mk (st := s__law_pool) l9 c9 k9
      m__law_pool := PySem.W.mg_of X G a9
      b__law_pool := L2.Fun.binds (fun_mk (st := s__law_pool) l9 c9 k9) (ps := ["script"]) fun _ _ _ _ _ _ us hl => match us, hl with | [_], _ => rfl
      a__law_next := f10
      fd__law_next := _
      F__law_next := fun_mk (st := s__law_next) l10 c10 k10
      m__law_next := PySem.W.mg_of X G a10
      b__law_next := L2.Fun.binds (fun_mk (st := s__law_next) l10 c10 k10) (ps := ["pool"]) fun _ _ _ _ _ _ us hl => match us, hl with | [_], _ => rfl
      a__law_draw := f11
      fd__law_draw := _
      F__law_draw := fun_mk (st := s__law_draw) l11 c11 k11
      m__law_draw := PySem.W.mg_of X G a11
      b__law_draw := L2.Fun.binds (fun_mk (st := s__law_draw) l11 c11 k11) (ps := ["pool", "limit"]) fun _ _ _ _ _ _ us hl => match us, hl with | [_, _], _ => rfl
      a__law_pick := f12
      fd__law_pick := _
      F__law_pick := fun_mk (st := s__law_pick) l12 c12 k12
      m__law_pick := PySem.W.mg_of X G a12
      b__law_pick := L2.Fun.binds (fun_mk (st := s__law_pick) l12 c12 k12) (ps := ["pool", "options"]) fun _ _ _ _ _ _ us hl => match us, hl with | [_, _], _ => rfl
      a__law_same := f13
      fd__law_same := _
      F__law_same := fun_mk (st := s__law_same) l13 c13 k13
      m__law_same := PySem.W.mg_of X G a13
      b__law_same := L2.Fun.binds (fun_mk (st := s__law_same) l13 c13 k13) (ps := ["answer", "due"]) fun _ _ _ _ _ _ us hl => match us, hl with | [_, _], _ => rfl
      a__law_length := f14
      fd__law_length := _
      F__law_length := fun_mk (st := s__law_length) l14 c14 k14
      m__law_length := PySem.W.mg_of X G a14
      b__law_length := L2.Fun.binds (fun_mk (st := s__law_length) l14 c14 k14) (ps := ["words"]) fun _ _ _ _ _ _ us hl => match us, hl with | [_], _ => rfl
      a__law_ragged := f15
      fd__law_ragged := _
      F__law_ragged := fun_mk (st := s__law_ragged) l15 c15 k15
      m__law_ragged := PySem.W.mg_of X G a15
      b__law_ragged := L2.Fun.binds (fun_mk (st := s__law_ragged) l15 c15 k15) (ps := ["words", "width", "setting"]) fun _ _ _ _ _ _ us hl => match us, hl with | [_, _, _], _ => rfl
      a__law_settings := f16
      fd__law_settings := _
      F__law_settings := fun_mk (st := s__law_settings) l16 c16 k16
      m__law_settings := PySem.W.mg_of X G a16
      b__law_settings := L2.Fun.binds (fun_mk (st := s__law_settings) l16 c16 k16) (ps := ["words", "width"]) fun _ _ _ _ _ _ us hl => match us, hl with | [_, _], _ => rfl
      a__law_is_int := f17
      fd__law_is_int := _
      F__law_is_int := fun_mk (st := s__law_is_int) l17 c17 k17
      m__law_is_int := PySem.W.mg_of X G a17
      b__law_is_int := L2.Fun.binds (fun_mk (st := s__law_is_int) l17 c17 k17) (ps := ["value"]) fun _ _ _ _ _ _ us hl => match us, hl with | [_], _ => rfl
      a__law_potentials_right := f18
      fd__law_potentials_right := _
      F__law_potentials_right := fun_mk (st := s__law_potentials_right) l18 c18 k18
      m__law_potentials_right := PySem.W.mg_of X G a18
      b__law_potentials_right := L2.Fun.binds (fun_mk (st := s__law_potentials_right) l18 c18 k18) (ps := ["words", "width", "number", "potentials"]) fun _ _ _ _ _ _ us hl => match us, hl with | [_, _, _, _], _ => rfl
      a_filled := f19
      fd_filled := _
      F_filled := fun_mk (st := s_filled) l19 c19 k19
      m_filled := PySem.W.mg_of X G a19
      b_filled := L2.Fun.binds (fun_mk (st := s_filled) l19 c19 k19) (ps := ["words", "width"]) fun _ _ _ _ _ _ us hl => match us, hl with | [_, _], _ => rfl
      a__law_filled_right := f20
      fd__law_filled_right := _
      F__law_filled_right := fun_mk (st := s__law_filled_right) l20 c20 k20
      m__law_filled_right := PySem.W.mg_of X G a20
      b__law_filled_right := L2.Fun.binds (fun_mk (st := s__law_filled_right) l20 c20 k20) (ps := ["words", "width", "settings"]) fun _ _ _ _ _ _ us hl => match us, hl with | [_, _, _], _ => rfl
      a_in_lines := f21
      fd_in_lines := _
      F_in_lines := fun_mk (st := s_in_lines) l21 c21 k21
      m_in_lines := PySem.W.mg_of X G a21
      b_in_lines := L2.Fun.binds (fun_mk (st := s_in_lines) l21 c21 k21) (ps := ["words", "width", "count"]) fun _ _ _ _ _ _ us hl => match us, hl with | [_, _, _], _ => rfl
      a__law_in_lines_right := f22
      fd__law_in_lines_right := _
      F__law_in_lines_right := fun_mk (st := s__law_in_lines_right) l22 c22 k22
      m__law_in_lines_right := PySem.W.mg_of X G a22
      b__law_in_lines_right := L2.Fun.binds (fun_mk (st := s__law_in_lines_right) l22 c22 k22) (ps := ["words", "width", "settings"]) fun _ _ _ _ _ _ us hl => match us, hl with | [_, _, _], _ => rfl
      a_law := f23
      fd_law := _
      F_law := fun_mk (st := s_law) l23 c23 k23
      m_law := PySem.W.mg_of X G a23
      b_law := L2.Fun.binds (fun_mk (st := s_law) l23 c23 k23) (ps := ["script"]) fun _ _ _ _ _ _ us hl => match us, hl with | [_], _ => rfl
      z_all := PySem.W.mg_none_of X G z_all
      z_bool := PySem.W.mg_none_of X G z_bool
      z_dict := PySem.W.mg_none_of X G z_dict
      z_int := PySem.W.mg_none_of X G z_int
      z_isinstance := PySem.W.mg_none_of X G z_isinstance
      z_len := PySem.W.mg_none_of X G z_len
      z_list := PySem.W.mg_none_of X G z_list
      z_max := PySem.W.mg_none_of X G z_max
      z_min := PySem.W.mg_none_of X G z_min
      z_range := PySem.W.mg_none_of X G z_range
      z_str := PySem.W.mg_none_of X G z_str
      z_sum := PySem.W.mg_none_of X G z_sum
      z_tuple := PySem.W.mg_none_of X G z_tuple
    }, hfe, fun s v => .of_eq rfl⟩
  obtain ⟨T, rfl, hb⟩ := T
  exact ⟨T.fd_law, hb, fun base _ _ => ok_all T⟩
end Lk76
open PySem PySem.W PyProof.Rows
set_option maxHeartbeats 0 in
theorem PySem.Challenge.cw_whyform_k76_whole_least_ragged_settings_holds : PySem.Challenge.rw_whyform_k76_whole_least_ragged_settings.Holds := by
  w_on; o_law; k_head; (case hw => w_witness2)
  k_fill
  refine L2.walk_ofB (l := PySem.Challenge.rw_whyform_k76_whole_least_ragged_settings) (n := 63) (k := 13) (x := "script") (CX := fun w => L2.CX (PySem.Challenge.rw_whyform_k76_whole_least_ragged_settings).prog w) (sp := fun w => Lk76.spLaw _) rfl (by decide) rfl ⟨rfl, by decide, by decide⟩ (fun w h Y => PySem.W.kIn_of Y) ?F (fun _ _ a ns hl hb _ hS => ⟨a, ns, rfl, hS, hl, hb, fun _ => rfl⟩) (fun _ _ _ _ _ h => Den.cx_false h)
  case F =>
    intro w mg fa h KX G hmg
    refine' Lk76.all_mk KX G hmg ?a0 ?l0 ?c0 ?k0 ?a1 ?l1 ?c1 ?k1 ?a2 ?l2 ?c2 ?k2 ?a3 ?l3 ?c3 ?k3 ?a4 ?l4 ?c4 ?k4 ?a5 ?l5 ?c5 ?k5 ?a6 ?l6 ?c6 ?k6 ?a7 ?l7 ?c7 ?k7 ?a8 ?l8 ?c8 ?k8 ?a9 ?l9 ?c9 ?k9 ?a10 ?l10 ?c10 ?k10 ?a11 ?l11 ?c11 ?k11 ?a12 ?l12 ?c12 ?k12 ?a13 ?l13 ?c13 ?k13 ?a14 ?l14 ?c14 ?k14 ?a15 ?l15 ?c15 ?k15 ?a16 ?l16 ?c16 ?k16 ?a17 ?l17 ?c17 ?k17 ?a18 ?l18 ?c18 ?k18 ?a19 ?l19 ?c19 ?k19 ?a20 ?l20 ?c20 ?k20 ?a21 ?l21 ?c21 ?k21 ?a22 ?l22 ?c22 ?k22 ?a23 ?l23 ?c23 ?k23 ?z_all ?z_bool ?z_dict ?z_int ?z_isinstance ?z_len ?z_list ?z_max ?z_min ?z_range ?z_str ?z_sum ?z_tuple
    (case a0 => k_is); (case l0 => k_is); (case c0 => k_is); (case k0 => k_is); (case a1 => k_is); (case l1 => k_is); (case c1 => k_is); (case k1 => k_is); (case a2 => k_is); (case l2 => k_is); (case c2 => k_is); (case k2 => k_is); (case a3 => k_is); (case l3 => k_is); (case c3 => k_is); (case k3 => k_is); (case a4 => k_is); (case l4 => k_is); (case c4 => k_is); (case k4 => k_is); (case a5 => k_is); (case l5 => k_is); (case c5 => k_is); (case k5 => k_is); (case a6 => k_is); (case l6 => k_is); (case c6 => k_is); (case k6 => k_is); (case a7 => k_is); (case l7 => k_is); (case c7 => k_is); (case k7 => k_is); (case a8 => k_is); (case l8 => k_is); (case c8 => k_is); (case k8 => k_is); (case a9 => k_is); (case l9 => k_is); (case c9 => k_is); (case k9 => k_is); (case a10 => k_is); (case l10 => k_is); (case c10 => k_is); (case k10 => k_is); (case a11 => k_is); (case l11 => k_is); (case c11 => k_is); (case k11 => k_is); (case a12 => k_is); (case l12 => k_is); (case c12 => k_is); (case k12 => k_is); (case a13 => k_is); (case l13 => k_is); (case c13 => k_is); (case k13 => k_is); (case a14 => k_is); (case l14 => k_is); (case c14 => k_is); (case k14 => k_is); (case a15 => k_is); (case l15 => k_is); (case c15 => k_is); (case k15 => k_is); (case a16 => k_is); (case l16 => k_is); (case c16 => k_is); (case k16 => k_is); (case a17 => k_is); (case l17 => k_is); (case c17 => k_is); (case k17 => k_is); (case a18 => k_is); (case l18 => k_is); (case c18 => k_is); (case k18 => k_is); (case a19 => k_is); (case l19 => k_is); (case c19 => k_is); (case k19 => k_is); (case a20 => k_is); (case l20 => k_is); (case c20 => k_is); (case k20 => k_is); (case a21 => k_is); (case l21 => k_is); (case c21 => k_is); (case k21 => k_is); (case a22 => k_is); (case l22 => k_is); (case c22 => k_is); (case k22 => k_is); (case a23 => k_is); (case l23 => k_is); (case c23 => k_is); (case k23 => k_is); (case z_all => k_is); (case z_bool => k_is); (case z_dict => k_is); (case z_int => k_is); (case z_isinstance => k_is); (case z_len => k_is); (case z_list => k_is); (case z_max => k_is); (case z_min => k_is); (case z_range => k_is); (case z_str => k_is); (case z_sum => k_is); (case z_tuple => k_is)

