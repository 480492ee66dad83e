import PyProof.Rows.All
import HandS.ForMost
import HandS.ForExc
import HandS.ExcField
import HandS.Dict
import HandS.Wide
import HandS.WideBits
import HandS.TupAny
import HandS.Deep
import HandS.IsInst
import HandS.Flow
import HandS.RaiseMore
import HandS.Gcd
import HandS.StrMore
import HandS.Text
import HandS.Style
import PyProof.Rows.ListStrD
import KE.SortData
import HandS.Sort
import HandS.Conv
import HandS.More
import HandS.Strs
import HandS.ExcInit
import HandS.Nested
import KE.KExcSuper
import KE.KSuper
import HandS.EndBits
import PySem.Challenge.RW_whyform_k75_templates_said
set_option Elab.async false
set_option linter.all false
set_option maxRecDepth 100000
/-! Data without the heap (D), values held in a heap (At), owned trees (Own), the state of a def's names (Slots), and the meaning of a piece of program as a function (Den). -/
namespace Den
open PySem PySem.Spec PyProof.Rows L2

inductive D where
  | non | bl (b : Bool) | int (i : Int) | str (s : Str)
  | lst (xs : List D) | tup (xs : List D)
  | dic (kvs : List (D × D)) | set (xs : List D)
  | ins (c : Str) (fs : List (Str × D))
  | ty (n : String)

def D.scal : D → Bool
  | .non => true
  | .bl _ => true
  | .int _ => true
  | .str _ => true
  | .ty _ => true
  | _ => false
/-- a scalar's value -/
def D.sv : D → V
  | .non => .non
  | .bl b => .bl b
  | .int i => .int i
  | .str s => .str s
  | .ty n => .ty n
  | _ => .non

/-- a dict's key as data -/
def kD : Key → D
  | .inl i => .int i
  | .inr s => .str s
theorem kD_inj {k k' : Key} (h : kD k = kD k') : k = k' := by
  cases k <;> cases k' <;> simp [kD] at h <;> rw [h]
theorem kD_sv {k : Key} : (kD k).sv = kV k := by cases k <;> rfl
theorem kD_scal {k : Key} : (kD k).scal = true := by cases k <;> rfl

/-- an exception that was caught: its class, its own dict -/
def xob (a C : Addr) (d : Addr) : HO := .ext fun h => ∃ oe : Obj, h.get? a = some oe ∧ oe.cls = .ref C ∧ oe.dict = some d ∧ ∃ fv, oe.data = .fields fv

/-! ### held in a heap -/
mutual
inductive At (K : PySem.W.Frag) (R : Hp) : V → D → Prop
  | non : At K R .non .non
  | bl (b : Bool) : At K R (.bl b) (.bl b)
  | int (i : Int) : At K R (.int i) (.int i)
  | str (x : Str) : At K R (.str x) (.str x)
  | ty (n : String) : At K R (.ty n) (.ty n)
  | lst {a : Addr} {xs : List V} {ds : List D} : SqL K R a xs → AtAll K R xs ds → At K R (.ref a) (.lst ds)
  | tup {a : Addr} {xs : List V} {ds : List D} : SqT K R a xs → AtAll K R xs ds → At K R (.ref a) (.tup ds)
  | dic {a : Addr} {ks : List Key} {xs : List V} {kds : List (D × D)} : Rd R a (.dK (ks.zip xs)) → kds.map (·.1) = ks.map kD → AtAll K R xs (kds.map (·.2)) → At K R (.ref a) (.dic kds)
  | ins {a C d : Addr} {c : Str} {ns : List Str} {ws : List V} {ds : List D} : R a = some (xob a C d) → XfC K C → (∀ f ∈ ns, PySem.W.findIn K (.ref C) f = some none) → R d = some (.xd (ns.zip ws)) → ns.length = ds.length → AtAll K R ws ds → At K R (.ref a) (.ins c (ns.zip ds))
  | tux {a : Addr} {o : Obj} {xs : List V} {ds : List D} : R a = some (.frz o (.tup xs)) → o.cls = .type "tuple" → o.dict = none → AtAll K R xs ds → At K R (.ref a) (.set ds)
inductive AtAll (K : PySem.W.Frag) (R : Hp) : List V → List D → Prop
  | nil : AtAll K R [] []
  | cons {v : V} {vs : List V} {d : D} {ds : List D} : At K R v d → AtAll K R vs ds → AtAll K R (v :: vs) (d :: ds)
end

/-- one heap within another -/
def Sub (R H : Hp) : Prop := ∀ a o, R a = some o → H a = some o
theorem Sub.refl {R : Hp} : Sub R R := fun _ _ h => h
theorem Sub.trans {R H H' : Hp} (a : Sub R H) (b : Sub H H') : Sub R H' := fun x o h => b x o (a x o h)
theorem Sub.upd {H : Hp} {p : Addr} {o : HO} (h : H p = none) : Sub H (upd H p o) := fun b x e => by
  rw [upd_ne (ne_of_none e h)]; exact e
theorem Sub.rd {R H : Hp} (s : Sub R H) {a : Addr} {u : HO} (h : Rd R a u) : Rd H a u := by
  rcases h with h | ⟨o, h⟩
  · exact .inl (s _ _ h)
  · exact .inr ⟨o, s _ _ h⟩
theorem Sub.sqL {K : PySem.W.Frag} {R H : Hp} (s : Sub R H) {a : Addr} {xs : List V} (h : SqL K R a xs) : SqL K H a xs := by
  rcases h with h | h
  · exact .inl (s.rd h)
  · exact .inr h
theorem Sub.sqT {K : PySem.W.Frag} {R H : Hp} (s : Sub R H) {a : Addr} {xs : List V} (h : SqT K R a xs) : SqT K H a xs := by
  rcases h with h | h
  · exact .inl (s.rd h)
  · exact .inr h
section
variable {K : PySem.W.Frag} {R H : Hp}
mutual
theorem At.mono' (s : Sub R H) : ∀ {v : V} {d : D}, At K R v d → At K H v d
  | _, _, .non => .non
  | _, _, .bl b => .bl b
  | _, _, .int i => .int i
  | _, _, .str x => .str x
  | _, _, .ty n => .ty n
  | _, _, .lst h1 h2 => .lst (s.sqL h1) (AtAll.mono'' s h2)
  | _, _, .tup h1 h2 => .tup (s.sqT h1) (AtAll.mono'' s h2)
  | _, _, .dic h1 h2 h3 => .dic (s.rd h1) h2 (AtAll.mono'' s h3)
  | _, _, .tux h1 h2 h3 h4 => .tux (s _ _ h1) h2 h3 (AtAll.mono'' s h4)
  | _, _, .ins h1 h2 h3 h4 h5 h6 => .ins (s _ _ h1) h2 h3 (s _ _ h4) h5 (AtAll.mono'' s h6)
theorem AtAll.mono'' (s : Sub R H) : ∀ {vs : List V} {ds : List D}, AtAll K R vs ds → AtAll K H vs ds
  | _, _, .nil => .nil
  | _, _, .cons h1 h2 => .cons (At.mono' s h1) (AtAll.mono'' s h2)
end
theorem At.mono (s : Sub R H) {d : D} {v : V} (h : At K R v d) : At K H v d := At.mono' s h
theorem AtAll.mono (s : Sub R H) {ds : List D} {vs : List V} (h : AtAll K R vs ds) : AtAll K H vs ds := AtAll.mono'' s h
theorem AtAll.length : ∀ {vs : List V} {ds : List D}, AtAll K R vs ds → vs.length = ds.length
  | _, _, .nil => rfl
  | _, _, .cons _ t => by rw [List.length_cons, List.length_cons, AtAll.length t]
theorem AtAll.append : ∀ {vs ws : List V} {ds es : List D}, AtAll K R vs ds → AtAll K R ws es → AtAll K R (vs ++ ws) (ds ++ es)
  | _, _, _, _, .nil, h => h
  | _, _, _, _, .cons r t, h => .cons r (AtAll.append t h)
theorem AtAll.get : ∀ {vs : List V} {ds : List D} {i : Nat} {d : D}, AtAll K R vs ds → ds[i]? = some d → ∃ v, vs[i]? = some v ∧ At K R v d
  | _, _, _, _, .nil, e => by simp at e
  | _, _, 0, _, .cons r _, e => by simp at e; subst e; exact ⟨_, rfl, r⟩
  | _, _, i + 1, d, .cons _ t, e => by
    obtain ⟨v, h1, h2⟩ := AtAll.get (i := i) (d := d) t (by simpa using e)
    exact ⟨v, by simpa using h1, h2⟩
theorem AtAll.get' : ∀ {vs : List V} {ds : List D} {i : Nat} {v : V}, AtAll K R vs ds → vs[i]? = some v → ∃ d, ds[i]? = some d ∧ At K R v d
  | _, _, _, _, .nil, e => by simp at e
  | _, _, 0, _, .cons r _, e => by simp at e; subst e; exact ⟨_, rfl, r⟩
  | _, _, i + 1, v, .cons _ t, e => by
    obtain ⟨d, h1, h2⟩ := AtAll.get' (i := i) (v := v) t (by simpa using e)
    exact ⟨d, by simpa using h1, h2⟩
theorem AtAll.take : ∀ {vs : List V} {ds : List D} (n : Nat), AtAll K R vs ds → AtAll K R (vs.take n) (ds.take n)
  | _, _, 0, _ => .nil
  | _, _, _ + 1, .nil => .nil
  | _, _, n + 1, .cons r t => .cons r (AtAll.take n t)
theorem AtAll.drop : ∀ {vs : List V} {ds : List D} (n : Nat), AtAll K R vs ds → AtAll K R (vs.drop n) (ds.drop n)
  | _, _, 0, h => h
  | _, _, _ + 1, .nil => .nil
  | _, _, n + 1, .cons _ t => AtAll.drop n t
theorem AtAll.set : ∀ {vs : List V} {ds : List D} (n : Nat) {v : V} {d : D}, AtAll K R vs ds → At K R v d → AtAll K R (vs.set n v) (ds.set n d)
  | _, _, _, _, _, .nil, _ => .nil
  | _, _, 0, _, _, .cons _ t, h => .cons h t
  | _, _, n + 1, _, _, .cons r t, h => .cons r (AtAll.set n t h)
theorem dk_len {ks : List Key} {xs : List V} {kds : List (D × D)} (h1 : kds.map (·.1) = ks.map kD) (h2 : AtAll K R xs (kds.map (·.2))) : ks.length = kds.length ∧ xs.length = kds.length ∧ (ks.zip xs).length = kds.length := by
  have e1 := congrArg List.length h1
  have e2 := h2.length
  simp at e1 e2
  refine ⟨e1.symm, e2, ?_⟩
  rw [List.length_zip]; omega
theorem At.sv {d : D} (h : d.scal = true) : At K R d.sv d := by
  cases d <;> first | constructor | (simp [D.scal] at h)
theorem At.scal {d : D} {v : V} (h : d.scal = true) (q : At K R v d) : v = d.sv := by
  cases q <;> first | rfl | (simp [D.scal] at h)
end

/-! ### owned trees -/
inductive Sh where
  | im | ow (k : Sh)
  deriving DecidableEq
/-- members, each by its own relation, with what they own -/
def OwnL (f : D → V → List Addr → Prop) : List D → List V → List Addr → Prop
  | [], vs, F => vs = [] ∧ F = []
  | d :: ds, vs, F => ∃ v vr F1 F2, vs = v :: vr ∧ F = F1 ++ F2 ∧ f d v F1 ∧ OwnL f ds vr F2
def Own (K : PySem.W.Frag) (R H : Hp) : Sh → D → V → List Addr → Prop
  | .im, d, v, F => F = [] ∧ At K R v d
  | .ow s, .lst ds, v, F => ∃ p vs F2, v = .ref p ∧ F = p :: F2 ∧ H p = some (.lst vs) ∧ R p = none ∧ OwnL (Own K R H s) ds vs F2
  | .ow s, .dic kds, v, F => ∃ (p : Addr) (ks : List Key) (vs : List V) (F2 : List Addr), v = .ref p ∧ F = p :: F2 ∧ kds.map (·.1) = ks.map kD ∧ H p = some (.dK (ks.zip vs)) ∧ R p = none ∧ OwnL (Own K R H s) (kds.map (·.2)) vs F2
  | .ow _, _, _, _ => False

section
variable {K : PySem.W.Frag} {R R' H H' : Hp}
theorem OwnL.length {f : D → V → List Addr → Prop} : ∀ {ds : List D} {vs : List V} {F : List Addr}, OwnL f ds vs F → vs.length = ds.length
  | [], _, _, ⟨e, _⟩ => by rw [e]; rfl
  | _ :: ds, _, _, ⟨_, _, _, _, e, _, _, t⟩ => by rw [e, List.length_cons, List.length_cons, OwnL.length t]
theorem OwnL.imp {f g : D → V → List Addr → Prop} : ∀ {ds : List D} {vs : List V} {F : List Addr}, (∀ d v G, (∀ a ∈ G, a ∈ F) → f d v G → g d v G) → OwnL f ds vs F → OwnL g ds vs F
  | [], _, _, _, h => h
  | _ :: ds, _, _, k, ⟨v, vr, F1, F2, e, e2, h, t⟩ => ⟨v, vr, F1, F2, e, e2, k _ _ _ (fun a ha => by rw [e2]; exact List.mem_append_left _ ha) h,
      OwnL.imp (fun d v G hG => k d v G fun a ha => by rw [e2]; exact List.mem_append_right _ (hG a ha)) t⟩
/-- what is owned stands in the heap and is none of the ground -/
theorem Own.foot : ∀ {s : Sh} {d : D} {v : V} {F : List Addr}, Own K R H s d v F → ∀ a ∈ F, (∃ o, H a = some o) ∧ R a = none
  | .im, _, _, _, ⟨e, _⟩, a, ha => by rw [e] at ha; cases ha
  | .ow s, .lst ds, _, _, ⟨p, vs, F2, _, e, h, n, t⟩, a, ha => by
    rw [e] at ha
    rcases List.mem_cons.mp ha with rfl | ha
    · exact ⟨⟨_, h⟩, n⟩
    · clear e h
      revert ha
      have key : ∀ (ds : List D) (vs : List V) (F2 : List Addr), OwnL (Own K R H s) ds vs F2 → a ∈ F2 → (∃ o, H a = some o) ∧ R a = none := by
        intro ds
        induction ds with
        | nil => intro vs F2 ⟨_, e⟩ ha; rw [e] at ha; cases ha
        | cons d ds ih =>
          intro vs F2 ⟨v, vr, G1, G2, _, e2, h1, h2⟩ ha
          rw [e2] at ha
          rcases List.mem_append.mp ha with ha | ha
          · exact Own.foot h1 a ha
          · exact ih vr G2 h2 ha
      exact key ds vs F2 t
  | .ow _, .non, _, _, h, _, _ => h.elim
  | .ow _, .bl _, _, _, h, _, _ => h.elim
  | .ow _, .int _, _, _, h, _, _ => h.elim
  | .ow _, .str _, _, _, h, _, _ => h.elim
  | .ow _, .tup _, _, _, h, _, _ => h.elim
  | .ow s, .dic kds, _, _, ⟨p, ks, vs, F2, _, e, _, h, n, t⟩, a, ha => by
    rw [e] at ha
    rcases List.mem_cons.mp ha with rfl | ha
    · exact ⟨⟨_, h⟩, n⟩
    · clear e h
      revert ha
      have key : ∀ (ds : List D) (vs : List V) (F2 : List Addr), OwnL (Own K R H s) ds vs F2 → a ∈ F2 → (∃ o, H a = some o) ∧ R a = none := by
        intro ds
        induction ds with
        | nil => intro vs F2 ⟨_, e⟩ ha; rw [e] at ha; cases ha
        | cons d ds ih =>
          intro vs F2 ⟨v, vr, G1, G2, _, e2, h1, h2⟩ ha
          rw [e2] at ha
          rcases List.mem_append.mp ha with ha | ha
          · exact Own.foot h1 a ha
          · exact ih vr G2 h2 ha
      exact key _ vs F2 t
  | .ow _, .set _, _, _, h, _, _ => h.elim
  | .ow _, .ins _ _, _, _, h, _, _ => h.elim
  | .ow _, .ty _, _, _, h, _, _ => h.elim
/-- the heap changes elsewhere, the ground grows elsewhere -/
theorem Own.frame (g : Sub R R') : ∀ {s : Sh} {d : D} {v : V} {F : List Addr}, (∀ a ∈ F, H' a = H a) → (∀ a ∈ F, R' a = none) → Own K R H s d v F → Own K R' H' s d v F
  | .im, _, _, _, _, _, ⟨e, h⟩ => ⟨e, h.mono g⟩
  | .ow s, .lst ds, _, _, k, n, ⟨p, vs, F2, e1, e, h, m, t⟩ => by
    subst e
    refine ⟨p, vs, F2, e1, rfl, (k p List.mem_cons_self).trans h, n p List.mem_cons_self, OwnL.imp (fun d v G hG q => ?_) t⟩
    exact Own.frame g (fun a ha => k a (List.mem_cons_of_mem _ (hG a ha))) (fun a ha => n a (List.mem_cons_of_mem _ (hG a ha))) q
  | .ow _, .non, _, _, _, _, h => h.elim
  | .ow _, .bl _, _, _, _, _, h => h.elim
  | .ow _, .int _, _, _, _, _, h => h.elim
  | .ow _, .str _, _, _, _, _, h => h.elim
  | .ow _, .tup _, _, _, _, _, h => h.elim
  | .ow s, .dic kds, _, _, k, n, ⟨p, ks, vs, F2, e1, e, ek, h, m, t⟩ => by
    subst e
    refine ⟨p, ks, vs, F2, e1, rfl, ek, (k p List.mem_cons_self).trans h, n p List.mem_cons_self, OwnL.imp (fun d v G hG q => ?_) t⟩
    exact Own.frame g (fun a ha => k a (List.mem_cons_of_mem _ (hG a ha))) (fun a ha => n a (List.mem_cons_of_mem _ (hG a ha))) q
  | .ow _, .set _, _, _, _, _, h => h.elim
  | .ow _, .ins _ _, _, _, _, _, h => h.elim
  | .ow _, .ty _, _, _, _, _, h => h.elim
/-- as plain data, over any heap that has the ground and the owned -/
theorem Own.at (g : Sub R R') : ∀ {s : Sh} {d : D} {v : V} {F : List Addr}, (∀ a ∈ F, R' a = H a) → Own K R H s d v F → At K R' v d
  | .im, _, _, _, _, ⟨_, h⟩ => h.mono g
  | .ow s, .lst ds, _, _, k, ⟨p, vs, F2, e1, e, h, m, t⟩ => by
    subst e e1
    refine .lst (.inl (.inl ((k p List.mem_cons_self).trans h))) ?_
    have key : ∀ (ds : List D) (vs : List V) (G : List Addr), (∀ a ∈ G, R' a = H a) → OwnL (Own K R H s) ds vs G → AtAll K R' vs ds := by
      intro ds
      induction ds with
      | nil => intro vs G _ ⟨e, _⟩; rw [e]; exact .nil
      | cons d ds ih =>
        intro vs G kG ⟨v, vr, G1, G2, e, e2, h1, h2⟩
        subst e e2
        exact .cons (Own.at g (fun a ha => kG a (List.mem_append_left _ ha)) h1) (ih vr G2 (fun a ha => kG a (List.mem_append_right _ ha)) h2)
    exact key ds vs F2 (fun a ha => k a (List.mem_cons_of_mem _ ha)) t
  | .ow _, .non, _, _, _, h => h.elim
  | .ow _, .bl _, _, _, _, h => h.elim
  | .ow _, .int _, _, _, _, h => h.elim
  | .ow _, .str _, _, _, _, h => h.elim
  | .ow _, .tup _, _, _, _, h => h.elim
  | .ow s, .dic kds, _, _, k, ⟨p, ks, vs, F2, e1, e, ek, h, m, t⟩ => by
    subst e e1
    refine .dic (.inl ((k p List.mem_cons_self).trans h)) ek ?_
    have key : ∀ (ds : List D) (vs : List V) (G : List Addr), (∀ a ∈ G, R' a = H a) → OwnL (Own K R H s) ds vs G → AtAll K R' vs ds := by
      intro ds
      induction ds with
      | nil => intro vs G _ ⟨e, _⟩; rw [e]; exact .nil
      | cons d ds ih =>
        intro vs G kG ⟨v, vr, G1, G2, e, e2, h1, h2⟩
        subst e e2
        exact .cons (Own.at g (fun a ha => kG a (List.mem_append_left _ ha)) h1) (ih vr G2 (fun a ha => kG a (List.mem_append_right _ ha)) h2)
    exact key _ vs F2 (fun a ha => k a (List.mem_cons_of_mem _ ha)) t
  | .ow _, .set _, _, _, _, h => h.elim
  | .ow _, .ins _ _, _, _, _, h => h.elim
  | .ow _, .ty _, _, _, _, h => h.elim
end
end Den

namespace Den
open PySem PySem.Spec PyProof.Rows L2

abbrev Slot := Option (Sh × D)
/-- a def's names -/
abbrev Rho := List Slot
structure Exn where
  c : Str
  fs : List (Str × D)
inductive Res (α : Type) where
  | ok (ρ : Rho) (a : α) | ex (ρ : Rho) (x : Exn)
/-- the meaning of a piece: none where nothing is said -/
abbrev Den (α : Type) := Rho → Option (Res α)
/-- how a value is held: lent (till the heap is written), or by its shape -/
inductive Md where
  | bo | sh (s : Sh)
  deriving DecidableEq
abbrev DV := Md × D

def dBind {α β : Type} (m : Den α) (f : α → Den β) : Den β := fun ρ => match m ρ with
  | none => none
  | some (.ex ρ x) => some (.ex ρ x)
  | some (.ok ρ a) => f a ρ
def dRet {α : Type} (a : α) : Den α := fun ρ => some (.ok ρ a)
def dFail {α : Type} : Den α := fun _ => none
def dLift {α β : Type} (o : Option α) (f : α → Den β) : Den β := fun ρ => match o with
  | none => none
  | some a => f a ρ

/-! ### the relation of names -/
def Slots (K : PySem.W.Frag) (R H : Hp) : Rho → L2.St → List Addr → Prop
  | [], σ, F => σ = [] ∧ F = []
  | none :: ρ, σ, F => ∃ x σ', σ = x :: σ' ∧ Slots K R H ρ σ' F
  | some (s, d) :: ρ, σ, F => ∃ v σ' F1 F2, σ = some v :: σ' ∧ F = F1 ++ F2 ∧ Own K R H s d v F1 ∧ Slots K R H ρ σ' F2

/-- what a step may do: R, F the ground and what is owned ahead of it; R', F' behind it -/
structure Step (R H : Hp) (F : List Addr) (R' H' : Hp) (F' : List Addr) : Prop where
  keep : ∀ a o, H a = some o → a ∉ F → H' a = some o
  grow : Sub R R'
  rnew : ∀ a o, R' a = some o → R a = some o ∨ a ∈ F ∨ H a = none
  fnew : ∀ a, a ∈ F' → a ∈ F ∨ H a = none
  there : ∀ a o, H a = some o → ∃ o', H' a = some o'

section
variable {K : PySem.W.Frag} {R R' R1 R2 H H' H1 H2 : Hp} {F F' F1 F2 G : List Addr} {ρ : Rho} {σ : L2.St}
theorem Step.refl : Step R H F R H F := ⟨fun _ _ h _ => h, .refl, fun _ _ h => .inl h, fun _ h => .inl h, fun _ o h => ⟨o, h⟩⟩
theorem Step.trans (a : Step R H F R1 H1 F1) (b : Step R1 H1 F1 R2 H2 F2) : Step R H F R2 H2 F2 where
  keep := fun x o h n => b.keep x o (a.keep x o h n) fun z => (a.fnew x z).elim n fun q => by rw [h] at q; cases q
  grow := a.grow.trans b.grow
  rnew := fun x o h => by
    rcases b.rnew x o h with q | q | q
    · exact a.rnew x o q
    · exact .inr (a.fnew x q)
    · by_cases n : x ∈ F
      · exact .inr (.inl n)
      · cases e : H x with
        | none => exact .inr (.inr rfl)
        | some u => rw [a.keep x u e n] at q; cases q
  fnew := fun x h => by
    rcases b.fnew x h with q | q
    · exact a.fnew x q
    · by_cases n : x ∈ F
      · exact .inl n
      · cases e : H x with
        | none => exact .inr rfl
        | some u => rw [a.keep x u e n] at q; cases q
  there := fun x o h => by
    obtain ⟨o1, h1⟩ := a.there x o h
    exact b.there x o1 h1
/-- less is owned behind it -/
theorem Step.less (a : Step R H F R1 H1 F1) (h : ∀ x ∈ F2, x ∈ F1) : Step R H F R1 H1 F2 := ⟨a.keep, a.grow, a.rnew, fun x hx => a.fnew x (h x hx), a.there⟩
/-- more is owned ahead of it -/
theorem Step.more (a : Step R H F R1 H1 F1) (h : ∀ x ∈ F, x ∈ F2) : Step R H F2 R1 H1 F1 := ⟨fun x o e n => a.keep x o e fun z => n (h x z), a.grow, fun x o e => (a.rnew x o e).imp id fun q => q.imp (h x) id, fun x hx => (a.fnew x hx).imp (h x) id, a.there⟩
/-- .. with a footprint kept beside -/
theorem Step.side (a : Step R H F R1 H1 (F1 ++ G)) (b : Step R1 H1 F1 R2 H2 F2) : Step R H F R2 H2 (F2 ++ G) := by
  have c := (a.less (F2 := F1) fun x hx => List.mem_append_left _ hx).trans b
  refine ⟨c.keep, c.grow, c.rnew, fun x hx => ?_, c.there⟩
  rcases List.mem_append.mp hx with z | z
  · exact c.fnew x z
  · exact a.fnew x (List.mem_append_right _ z)
/-- a footprint of others stays -/
theorem Step.away (a : Step R H F R1 H1 F1) (hG : ∀ x ∈ G, (∃ o, H x = some o) ∧ R x = none) (hd : ∀ x ∈ G, x ∉ F) : (∀ x ∈ G, H1 x = H x) ∧ (∀ x ∈ G, R1 x = none) ∧ ∀ x ∈ G, x ∉ F1 := by
  refine ⟨fun x hx => ?_, fun x hx => ?_, fun x hx q => ?_⟩
  · obtain ⟨⟨o, e⟩, _⟩ := hG x hx
    rw [e]; exact a.keep x o e (hd x hx)
  · obtain ⟨⟨o, e⟩, n⟩ := hG x hx
    cases q : R1 x with
    | none => rfl
    | some u =>
      rcases a.rnew x u q with z | z | z
      · rw [n] at z; cases z
      · exact absurd z (hd x hx)
      · rw [e] at z; cases z
  · obtain ⟨⟨o, e⟩, n⟩ := hG x hx
    rcases a.fnew x q with z | z
    · exact hd x hx z
    · rw [e] at z; cases z

theorem Slots.foot : ∀ {ρ : Rho} {σ : L2.St} {F : List Addr}, Slots K R H ρ σ F → ∀ a ∈ F, (∃ o, H a = some o) ∧ R a = none
  | [], _, _, ⟨_, e⟩, a, ha => by rw [e] at ha; cases ha
  | none :: ρ, _, _, ⟨_, _, _, t⟩, a, ha => Slots.foot t a ha
  | some (s, d) :: ρ, _, _, ⟨v, σ', F1, F2, _, e, h, t⟩, a, ha => by
    rw [e] at ha
    rcases List.mem_append.mp ha with ha | ha
    · exact h.foot a ha
    · exact Slots.foot t a ha
theorem Slots.frame (g : Sub R R') : ∀ {ρ : Rho} {σ : L2.St} {F : List Addr}, (∀ a ∈ F, H' a = H a) → (∀ a ∈ F, R' a = none) → Slots K R H ρ σ F → Slots K R' H' ρ σ F
  | [], _, _, _, _, ⟨h1, h2⟩ => ⟨h1, h2⟩
  | none :: ρ, _, _, k, n, ⟨x, σ', e, t⟩ => ⟨x, σ', e, Slots.frame g k n t⟩
  | some (s, d) :: ρ, _, _, k, n, ⟨v, σ', F1, F2, e1, e, h, t⟩ => by
    subst e
    exact ⟨v, σ', F1, F2, e1, rfl, h.frame g (fun a ha => k a (List.mem_append_left _ ha)) fun a ha => n a (List.mem_append_left _ ha),
      Slots.frame g (fun a ha => k a (List.mem_append_right _ ha)) (fun a ha => n a (List.mem_append_right _ ha)) t⟩
theorem Slots.length : ∀ {ρ : Rho} {σ : L2.St} {F : List Addr}, Slots K R H ρ σ F → σ.length = ρ.length
  | [], _, _, ⟨e, _⟩ => by rw [e]; rfl
  | none :: ρ, _, _, ⟨_, _, e, t⟩ => by rw [e, List.length_cons, List.length_cons, Slots.length t]
  | some (s, d) :: ρ, _, _, ⟨_, _, _, _, e, _, _, t⟩ => by rw [e, List.length_cons, List.length_cons, Slots.length t]
/-- one name is taken out -/
theorem Slots.pick : ∀ {ρ : Rho} {σ : L2.St} {F : List Addr} {i : Nat} {s : Sh} {d : D}, Slots K R H ρ σ F → ρ[i]? = some (some (s, d)) →
    ∃ v F1 F2, σ[i]? = some (some v) ∧ Own K R H s d v F1 ∧ Slots K R H (ρ.set i none) σ F2 ∧ F.Perm (F1 ++ F2)
  | [], _, _, _, _, _, _, e => by simp at e
  | none :: ρ, _, _, 0, _, _, _, e => by simp at e
  | none :: ρ, _, _, i + 1, s, d, ⟨x, σ', e1, t⟩, e => by
    obtain ⟨v, F1, F2, h1, h2, h3, h4⟩ := Slots.pick (i := i) t (by simpa using e)
    exact ⟨v, F1, F2, by rw [e1]; simpa using h1, h2, ⟨x, σ', e1, h3⟩, h4⟩
  | some (s', d') :: ρ, _, _, 0, s, d, ⟨v, σ', F1, F2, e1, e2, h, t⟩, e => by
    simp at e
    obtain ⟨rfl, rfl⟩ := e
    exact ⟨v, F1, F2, by rw [e1]; rfl, h, ⟨some v, σ', e1, t⟩, by rw [e2]⟩
  | some (s', d') :: ρ, _, _, i + 1, s, d, ⟨v', σ', G1, G2, e1, e2, h, t⟩, e => by
    obtain ⟨v, F1, F2, h1, h2, h3, h4⟩ := Slots.pick (i := i) t (by simpa using e)
    refine ⟨v, F1, G1 ++ F2, by rw [e1]; simpa using h1, h2, ⟨v', σ', G1, F2, e1, rfl, h, h3⟩, ?_⟩
    rw [e2]
    refine (List.Perm.append_left G1 h4).trans ?_
    rw [← List.append_assoc, ← List.append_assoc]
    exact List.Perm.append_right F2 List.perm_append_comm
/-- one name is put in, in the place of whatever it held -/
theorem Slots.put : ∀ {ρ : Rho} {σ : L2.St} {F : List Addr} {i : Nat} {s : Sh} {d : D} {v : V} {G : List Addr}, Slots K R H ρ σ F → i < ρ.length → Own K R H s d v G →
    ∃ F', Slots K R H (ρ.set i (some (s, d))) (σ.set i (some v)) F' ∧ (∀ a ∈ F', a ∈ G ∨ a ∈ F) ∧ ((G ++ F).Nodup → F'.Nodup)
  | [], _, _, _, _, _, _, _, _, e, _ => by simp at e
  | none :: ρ, _, F, 0, s, d, v, G, ⟨x, σ', e1, t⟩, _, o => ⟨G ++ F, by rw [e1]; exact ⟨v, σ', G, F, rfl, rfl, o, t⟩, fun a ha => List.mem_append.mp ha, fun h => h⟩
  | none :: ρ, _, F, i + 1, s, d, v, G, ⟨x, σ', e1, t⟩, e, o => by
    obtain ⟨F', h1, h2, h3⟩ := Slots.put (i := i) t (by simpa using e) o
    exact ⟨F', by rw [e1]; exact ⟨x, _, rfl, h1⟩, h2, h3⟩
  | some (s', d') :: ρ, _, _, 0, s, d, v, G, ⟨v', σ', F1, F2, e1, e2, h, t⟩, _, o => by
    subst e1 e2
    refine ⟨G ++ F2, ⟨v, σ', G, F2, rfl, rfl, o, t⟩, fun a ha => (List.mem_append.mp ha).imp id (List.mem_append_right _), fun n => ?_⟩
    rw [List.nodup_append] at n ⊢
    exact ⟨n.1, (List.nodup_append.mp n.2.1).2.1, fun a ha b hb => n.2.2 a ha b (List.mem_append_right _ hb)⟩
  | some (s', d') :: ρ, _, _, i + 1, s, d, v, G, ⟨v', σ', F1, F2, e1, e2, h, t⟩, e, o => by
    obtain ⟨F', h1, h2, h3⟩ := Slots.put (i := i) t (by simpa using e) o
    subst e1 e2
    refine ⟨F1 ++ F', ⟨v', _, F1, F', rfl, rfl, h, h1⟩, fun a ha => ?_, fun n => ?_⟩
    · rcases List.mem_append.mp ha with q | q
      · exact .inr (List.mem_append_left _ q)
      · exact (h2 a q).imp id (List.mem_append_right _)
    · rw [List.nodup_append] at n
      obtain ⟨nG, nF, nd⟩ := n
      rw [List.nodup_append] at nF
      rw [List.nodup_append]
      refine ⟨nF.1, h3 (List.nodup_append.mpr ⟨nG, nF.2.1, fun a ha b hb => nd a ha b (List.mem_append_right _ hb)⟩), fun a ha b hb => ?_⟩
      rcases h2 b hb with q | q
      · exact fun z => nd b q a (List.mem_append_left _ ha) z.symm
      · exact nF.2.2 a ha b q
/-- a name forgotten -/
theorem Slots.drop : ∀ {ρ : Rho} {σ : L2.St} {F : List Addr} {i : Nat} (y : Option V), Slots K R H ρ σ F → ∃ F', Slots K R H (ρ.set i none) (σ.set i y) F' ∧ (∀ a ∈ F', a ∈ F) ∧ (F.Nodup → F'.Nodup)
  | [], _, F, _, _, ⟨e, e2⟩ => ⟨F, by rw [e]; exact ⟨rfl, e2⟩, fun _ h => h, id⟩
  | none :: ρ, _, F, 0, y, ⟨x, σ', e1, t⟩ => ⟨F, by rw [e1]; exact ⟨y, σ', rfl, t⟩, fun _ h => h, id⟩
  | none :: ρ, _, F, i + 1, y, ⟨x, σ', e1, t⟩ => by
    obtain ⟨F', h1, h2, h3⟩ := Slots.drop (i := i) y t
    exact ⟨F', by rw [e1]; exact ⟨x, _, rfl, h1⟩, h2, h3⟩
  | some (s', d') :: ρ, _, _, 0, y, ⟨v', σ', F1, F2, e1, e2, h, t⟩ => by
    subst e1 e2
    exact ⟨F2, ⟨y, σ', rfl, t⟩, fun a ha => List.mem_append_right _ ha, fun n => (List.nodup_append.mp n).2.1⟩
  | some (s', d') :: ρ, _, _, i + 1, y, ⟨v', σ', F1, F2, e1, e2, h, t⟩ => by
    obtain ⟨F', h1, h2, h3⟩ := Slots.drop (i := i) y t
    subst e1 e2
    refine ⟨F1 ++ F', ⟨v', _, F1, F', rfl, rfl, h, h1⟩, fun a ha => ?_, fun n => ?_⟩
    · rcases List.mem_append.mp ha with q | q
      · exact List.mem_append_left _ q
      · exact List.mem_append_right _ (h2 a q)
    · rw [List.nodup_append] at n ⊢
      exact ⟨n.1, h3 n.2.1, fun a ha b hb => n.2.2 a ha b (h2 b hb)⟩

/-! ### values -/
def VOk (K : PySem.W.Frag) (R H : Hp) : DV → V → List Addr → Prop
  | (.bo, d), v, F => F = [] ∧ At K H v d
  | (.sh s, d), v, F => Own K R H s d v F
theorem VOk.foot {a : DV} {v : V} (h : VOk K R H a v F) : ∀ x ∈ F, (∃ o, H x = some o) ∧ R x = none := by
  obtain ⟨m, d⟩ := a
  cases m with
  | bo => intro x hx; rw [h.1] at hx; cases hx
  | sh s => exact Own.foot h
/-- read in the heap as it stands -/
theorem VOk.at {a : DV} {v : V} (g : Sub R H) (h : VOk K R H a v F) : At K H v a.2 := by
  obtain ⟨m, d⟩ := a
  cases m with
  | bo => exact h.2
  | sh s => exact Own.at g (fun _ _ => rfl) h
theorem VOk.frame {a : DV} {v : V} (h : VOk K R H a v F) (g : Sub R R') (hb : a.1 = .bo → Sub H H') (k : ∀ x ∈ F, H' x = H x) (n : ∀ x ∈ F, R' x = none) : VOk K R' H' a v F := by
  obtain ⟨m, d⟩ := a
  cases m with
  | bo => exact ⟨h.1, h.2.mono (hb rfl)⟩
  | sh s => exact Own.frame g k n h
theorem VOk.scal {d : D} (h : d.scal = true) : VOk K R H (.sh .im, d) d.sv [] := ⟨rfl, .sv h⟩

/-- the ground takes a footprint in -/
def ext (R H : Hp) (F : List Addr) : Hp := fun a => if a ∈ F then H a else R a
theorem ext_in {a : Addr} (h : a ∈ F) : ext R H F a = H a := by unfold ext; rw [if_pos h]
theorem ext_out {a : Addr} (h : a ∉ F) : ext R H F a = R a := by unfold ext; rw [if_neg h]
theorem ext_sub (g : Sub R H) : Sub R (ext R H F) := fun a o e => by
  unfold ext; split
  · exact g a o e
  · exact e
theorem sub_ext (g : Sub R H) : Sub (ext R H F) H := fun a o e => by
  unfold ext at e; split at e
  · exact e
  · exact g a o e
theorem ext_step (g : Sub R H) (h : ∀ x ∈ G, x ∈ F) : Step R H F (ext R H G) H F where
  keep := fun _ _ h _ => h
  grow := ext_sub g
  rnew := fun a o e => by
    unfold ext at e; split at e
    · exact .inr (.inl (h a ‹_›))
    · exact .inl e
  fnew := fun _ h => .inl h
  there := fun _ o h => ⟨o, h⟩
/-- an owned value becomes plain -/
theorem VOk.freeze {a : DV} {v : V} (g : Sub R H) (h : VOk K R H a v F) (hm : a.1 ≠ .bo) : At K (ext R H F) v a.2 := by
  obtain ⟨m, d⟩ := a
  cases m with
  | bo => exact absurd rfl hm
  | sh s => exact Own.at (ext_sub g) (fun x hx => ext_in hx) h

/-! ### the state -/
structure Sta (K : PySem.W.Frag) (R H : Hp) (ρ : Rho) (σ : L2.St) (F : List Addr) : Prop where
  slots : Slots K R H ρ σ F
  sub : Sub R H
  nd : F.Nodup
theorem Sta.frame (s : Sta K R H ρ σ F) (g : Sub R R') (g2 : Sub R' H') (k : ∀ a ∈ F, H' a = H a) (n : ∀ a ∈ F, R' a = none) : Sta K R' H' ρ σ F := ⟨s.slots.frame g k n, g2, s.nd⟩
end
end Den

namespace Den
open PySem PySem.Spec PyProof.Rows L2

/-- an exception's own dict and class, where its fields are held -/
def FsOk (K : PySem.W.Frag) (R : Hp) : List (Str × D) → List (Str × V) → Prop
  | [], vs => vs = []
  | (n, d) :: r, vs => ∃ v vr, vs = (n, v) :: vr ∧ At K R v d ∧ FsOk K R r vr
/-- what the class of an exception has -/
def XcF (K : PySem.W.Frag) (x : Exn) (c : Value) : Prop := ∃ C, c = .ref C ∧ XfC K C ∧ ∀ f ∈ x.fs.map (·.1), PySem.W.findIn K (.ref C) f = some none
def XOk (K : PySem.W.Frag) (mg : Str → Option Value) (R : Hp) (x : Exn) (c : Value) (dx : Option Addr) : Prop :=
  mg x.c = some c ∧ XcF K x c ∧ ∃ d vs, dx = some d ∧ R d = some (.xd vs) ∧ FsOk K R x.fs vs
theorem FsOk.mono {K : PySem.W.Frag} {R H : Hp} (s : Sub R H) : ∀ {fs : List (Str × D)} {vs : List (Str × V)}, FsOk K R fs vs → FsOk K H fs vs
  | [], _, h => h
  | _ :: _, _, ⟨v, vr, e, a, t⟩ => ⟨v, vr, e, a.mono s, FsOk.mono s t⟩
theorem XOk.mono {K : PySem.W.Frag} {mg : Str → Option Value} {R H : Hp} (s : Sub R H) {x : Exn} {c : Value} {dx : Option Addr} (h : XOk K mg R x c dx) : XOk K mg H x c dx := by
  obtain ⟨h1, h2, d, vs, e, e2, q⟩ := h
  exact ⟨h1, h2, d, vs, e, s _ _ e2, q.mono s⟩

/-- how the result of a piece is held by what Python has -/
abbrev RelT (α β : Type) := Hp → Hp → α → β → List Addr → Prop
/-- such a relation goes along with steps elsewhere (pu: the heap only grew) -/
structure Frm {α β : Type} (rel : RelT α β) (bo : α → Bool) : Prop where
  foot : ∀ {R H a v F}, rel R H a v F → ∀ x ∈ F, (∃ o, H x = some o) ∧ R x = none
  frame : ∀ {R R' H H' a v F}, rel R H a v F → Sub R R' → (bo a = true → Sub H H') → (∀ x ∈ F, H' x = H x) → (∀ x ∈ F, R' x = none) → rel R' H' a v F

section
variable {α β γ δ : Type} (K : PySem.W.Frag) (mg : Str → Option Value) (W : WX)
def PostR (rel : RelT α β) (pu : Bool) (R H : Hp) (F : List Addr) (σ : L2.St) (Q : β → Hp → Prop) : Res α → Prop
  | .ok ρ' a => ∀ v H' R' F' Fv, Sta K R' H' ρ' σ F' → rel R' H' a v Fv → (F' ++ Fv).Nodup → Step R H F R' H' (F' ++ Fv) → (pu = true → Sub H H') → Q v H'
  | .ex ρ' x => ∀ c dx H' R' F', Sta K R' H' ρ' σ F' → XOk K mg R' x c dx → Step R H F R' H' F' → W c dx σ H'
/-- the reading of a piece by its meaning -/
def tG (rel : RelT α β) (pu : Bool) (den : Den α) : L2.St → Hp → (β → Hp → Prop) → Prop :=
  fun σ H Q => ∃ ρ R F r, Sta K R H ρ σ F ∧ den ρ = some r ∧ PostR K mg W rel pu R H F σ Q r
abbrev tE (pu : Bool) (den : Den DV) : TE := tG K mg W (VOk K) pu den
def RB : RelT Bool Bool := fun _ _ a v F => v = a ∧ F = []
abbrev tT (pu : Bool) (den : Den Bool) : TT := tG K mg W RB pu den
/-- argument lists -/
def VsOk : RelT (List DV) (List V)
  | _, _, [], vs, F => vs = [] ∧ F = []
  | R, H, a :: as, vs, F => ∃ v vr F1 F2, vs = v :: vr ∧ F = F1 ++ F2 ∧ VOk K R H a v F1 ∧ VsOk R H as vr F2
abbrev tA (pu : Bool) (den : Den (List DV)) : TA := tG K mg W (VsOk K) pu den
end

section
variable {α β γ δ : Type} {K : PySem.W.Frag} {mg : Str → Option Value} {W : WX} {rel : RelT α β} {rel' : RelT γ δ} {pu pa pc : Bool} {R H R1 H1 : Hp} {F F1 : List Addr} {ρ ρ1 : Rho} {σ : L2.St} {Q : β → Hp → Prop} {Q' : δ → Hp → Prop}

def isBo (a : DV) : Bool := decide (a.1 = Md.bo)
theorem Frm.vok : Frm (VOk K) isBo where
  foot := fun h => VOk.foot h
  frame := fun h g hb k n => VOk.frame h g (fun e => hb (decide_eq_true e)) k n
theorem Frm.rb : Frm RB (fun _ => false) where
  foot := fun h => by
    rw [h.2]
    intro x hx
    cases hx
  frame := fun h _ _ _ _ => h

/-- the wanted end, seen from behind a step -/
theorem PostR.step {r : Res γ} (h : PostR K mg W rel' pc R H F σ Q' r) (s : Step R H F R1 H1 F1) (hp : pc = true → Sub H H1) : PostR K mg W rel' pc R1 H1 F1 σ Q' r := by
  cases r with
  | ok ρ' a => exact fun v H' R' F' Fv st q n s2 p => h v H' R' F' Fv st q n (s.trans s2) fun e => (hp e).trans (p e)
  | ex ρ' x => exact fun c dx H' R' F' st q s2 => h c dx H' R' F' st q (s.trans s2)
/-- one piece, then the rest: k gives what is wanted of the first one's result -/
theorem tG_bind {da : Den α} {f : α → Den γ} {r : Res γ} (hS : Sta K R H ρ σ F) (hden : dBind da f ρ = some r) (hQ : PostR K mg W rel' pc R H F σ Q' r)
    (k : ∀ ρ1 a v H1 R1 F1 Fv, f a ρ1 = some r → Sta K R1 H1 ρ1 σ F1 → rel R1 H1 a v Fv → (F1 ++ Fv).Nodup → Step R H F R1 H1 (F1 ++ Fv) → (pa = true → Sub H H1) → Q v H1) : tG K mg W rel pa da σ H Q := by
  unfold dBind at hden
  split at hden
  · cases hden
  · rename_i ρ' x e
    cases hden
    exact ⟨ρ, R, F, _, hS, e, fun c dx H' R' F' st q s => hQ c dx H' R' F' st q s⟩
  · rename_i ρ1 a e
    exact ⟨ρ, R, F, _, hS, e, fun v H1 R1 F1 Fv st q n s p => k ρ1 a v H1 R1 F1 Fv hden st q n s p⟩
/-- a held result behind a further step -/
theorem Frm.behind {bo : α → Bool} (fr : Frm rel bo) {a : α} {v : β} {G F2 : List Addr} {R2 H2 : Hp} (h : rel R1 H1 a v G) (n : (F1 ++ G).Nodup) (s : Step R1 H1 F1 R2 H2 F2) (hb : bo a = true → Sub H1 H2) : rel R2 H2 a v G ∧ (∀ x ∈ G, x ∉ F2) := by
  have ft := fr.foot h
  have hd : ∀ x ∈ G, x ∉ F1 := fun x hx hf => (List.nodup_append.mp n).2.2 x hf x hx rfl
  obtain ⟨k1, k2, k3⟩ := s.away ft hd
  exact ⟨fr.frame h s.grow hb k1 k2, k3⟩
end
end Den

namespace Den
open PySem PySem.Spec PyProof.Rows L2
section
variable {K : PySem.W.Frag} {R R' H H' : Hp} {F : List Addr}
theorem VsOk.foot : ∀ {as : List DV} {vs : List V} {F : List Addr}, VsOk K R H as vs F → ∀ x ∈ F, (∃ o, H x = some o) ∧ R x = none
  | [], _, _, ⟨_, e⟩, x, hx => by rw [e] at hx; cases hx
  | a :: as, _, _, ⟨v, vr, F1, F2, _, e, h, t⟩, x, hx => by
    rw [e] at hx
    rcases List.mem_append.mp hx with hx | hx
    · exact h.foot x hx
    · exact VsOk.foot t x hx
theorem VsOk.frame (g : Sub R R') : ∀ {as : List DV} {vs : List V} {F : List Addr}, VsOk K R H as vs F → (as.any isBo = true → Sub H H') → (∀ x ∈ F, H' x = H x) → (∀ x ∈ F, R' x = none) → VsOk K R' H' as vs F
  | [], _, _, ⟨h1, h2⟩, _, _, _ => ⟨h1, h2⟩
  | a :: as, _, _, ⟨v, vr, F1, F2, e1, e, h, t⟩, hb, k, n => by
    subst e
    refine ⟨v, vr, F1, F2, e1, rfl, h.frame g (fun q => hb (by rw [List.any_cons, show isBo a = true from decide_eq_true q]; rfl)) (fun x hx => k x (List.mem_append_left _ hx)) fun x hx => n x (List.mem_append_left _ hx), ?_⟩
    exact VsOk.frame g t (fun q => hb (by rw [List.any_cons, q, Bool.or_true])) (fun x hx => k x (List.mem_append_right _ hx)) fun x hx => n x (List.mem_append_right _ hx)
theorem Frm.vsok : Frm (VsOk K) (fun as => as.any isBo) where
  foot := fun h => h.foot
  frame := fun h g hb k n => h.frame g hb k n
theorem VsOk.at (g : Sub R H) : ∀ {as : List DV} {vs : List V} {F : List Addr}, VsOk K R H as vs F → AtAll K H vs (as.map (·.2))
  | [], _, _, ⟨e, _⟩ => by rw [e]; exact .nil
  | a :: as, _, _, ⟨v, vr, F1, F2, e1, e, h, t⟩ => by rw [e1]; exact .cons (h.at g) (VsOk.at g t)
theorem VsOk.freeze (g : Sub R H) : ∀ {as : List DV} {vs : List V} {F G : List Addr}, (∀ x ∈ F, x ∈ G) → VsOk K R H as vs F → as.any isBo = false → AtAll K (ext R H G) vs (as.map (·.2))
  | [], _, _, _, _, ⟨e, _⟩, _ => by rw [e]; exact .nil
  | a :: as, _, _, G, hG, ⟨v, vr, F1, F2, e1, e, h, t⟩, hb => by
    subst e1 e
    rw [List.any_cons, Bool.or_eq_false_iff] at hb
    refine .cons ?_ (VsOk.freeze g (fun x hx => hG x (List.mem_append_right _ hx)) t hb.2)
    refine At.mono ?_ (h.freeze g fun z => absurd (show isBo a = true from decide_eq_true z) (by rw [hb.1]; exact Bool.false_ne_true))
    intro x o q
    unfold ext at q ⊢
    split at q
    · rw [if_pos (hG x (List.mem_append_left _ ‹_›))]; exact q
    · split
      · exact g x o q
      · exact q
end

section
variable {α β γ δ : Type} {K : PySem.W.Frag} {mg : Str → Option Value} {W : WX} {rel : RelT α β} {rel' : RelT γ δ} {pu pa pb pc : Bool} {R R1 H H1 : Hp} {F F1 G : List Addr} {ρ ρ1 : Rho} {σ : L2.St} {Q : VK} {d : D} {ds : List D} {vs : List V} {p : Addr}

/-! ### results -/
theorem Sta.fresh {o : HO} (hS : Sta K R H ρ σ F) (hp : H p = none) : Sta K R (upd H p o) ρ σ F :=
  hS.frame .refl (hS.sub.trans (.upd hp)) (fun a ha => by
    obtain ⟨⟨u, e⟩, _⟩ := hS.slots.foot a ha
    rw [upd_ne (ne_of_none e hp)]) fun a ha => (hS.slots.foot a ha).2
theorem Sta.none_of (hS : Sta K R H ρ σ F) (hp : H p = none) : R p = none := by
  cases e : R p with
  | none => rfl
  | some o => rw [hS.sub _ _ e] at hp; cases hp
theorem Sta.grow {o : HO} (hS : Sta K R H ρ σ F) (hp : H p = none) : Sta K (upd R p o) (upd H p o) ρ σ F := by
  have hf : ∀ a ∈ F, a ≠ p := fun a ha => by
    obtain ⟨⟨u, e⟩, _⟩ := hS.slots.foot a ha
    exact ne_of_none e hp
  refine (hS.fresh (o := o) hp).frame (.upd (hS.none_of hp)) (fun a u e => ?_) (fun _ _ => rfl) fun a ha => ?_
  · by_cases z : a = p
    · subst z; rw [upd_same] at e ⊢; exact e
    · rw [upd_ne z] at e ⊢; exact hS.sub a u e
  · rw [upd_ne (hf a ha)]; exact (hS.slots.foot a ha).2
theorem Step.fresh {o : HO} (hp : H p = none) (hg : ∀ a ∈ G, a ∈ F ∨ a = p) : Step R H F R (upd H p o) G where
  keep := fun a u e _ => by rw [upd_ne (ne_of_none e hp)]; exact e
  grow := .refl
  rnew := fun _ _ e => .inl e
  fnew := fun a ha => (hg a ha).imp id fun e => by rw [e]; exact hp
  there := fun a u e => ⟨u, by rw [upd_ne (ne_of_none e hp)]; exact e⟩
theorem Step.grown {o : HO} (hp : H p = none) (hr : R p = none) : Step R H F (upd R p o) (upd H p o) F where
  keep := fun a u e _ => by rw [upd_ne (ne_of_none e hp)]; exact e
  grow := .upd hr
  rnew := fun a u e => by
    unfold upd at e
    split at e
    · exact .inr (.inr (by rw [‹a = p›]; exact hp))
    · exact .inl e
  fnew := fun a ha => .inl ha
  there := fun a u e => ⟨u, by rw [upd_ne (ne_of_none e hp)]; exact e⟩
theorem PostR.scal (hQ : PostR K mg W (VOk K) pc R H F σ Q (.ok ρ (.sh .im, d))) (hS : Sta K R H ρ σ F) (hd : d.scal = true) : Q d.sv H :=
  hQ _ H R F [] hS (VOk.scal hd) (by rw [List.append_nil]; exact hS.nd) (by rw [List.append_nil]; exact .refl) fun _ => .refl
/-- a plain value that stands already -/
theorem PostR.im {v : V} (hQ : PostR K mg W (VOk K) pc R H F σ Q (.ok ρ (.sh .im, d))) (hS : Sta K R H ρ σ F) (h : At K R v d) : Q v H :=
  hQ _ H R F [] hS ⟨rfl, h⟩ (by rw [List.append_nil]; exact hS.nd) (by rw [List.append_nil]; exact .refl) fun _ => .refl
theorem PostR.newL (hQ : PostR K mg W (VOk K) pc R H F σ Q (.ok ρ (.sh (.ow .im), .lst ds))) (hS : Sta K R H ρ σ F) (h : AtAll K R vs ds) (hp : H p = none) : Q (.ref p) (upd H p (.lst vs)) := by
  have hf : p ∉ F := fun hm => by
    obtain ⟨⟨u, e⟩, _⟩ := hS.slots.foot p hm
    rw [hp] at e; cases e
  have own : ∀ (ds : List D) (vs : List V), AtAll K R vs ds → OwnL (Own K R (upd H p (.lst vs)) .im) ds vs [] := fun ds vs h => by
    have key : ∀ (H' : Hp) (ds : List D) (vs : List V), AtAll K R vs ds → OwnL (Own K R H' .im) ds vs [] := fun H' ds => by
      induction ds with
      | nil => intro vs h; cases h; exact ⟨rfl, rfl⟩
      | cons d ds ih => intro vs h; cases h with | cons h1 h2 => exact ⟨_, _, [], [], rfl, rfl, ⟨rfl, h1⟩, ih _ h2⟩
    exact key _ ds vs h
  refine hQ (.ref p) _ R F [p] (hS.fresh hp) ⟨p, vs, [], rfl, rfl, upd_same, hS.none_of hp, own ds vs h⟩ ?_ (.fresh hp fun a ha => (List.mem_append.mp ha).imp id fun z => List.mem_singleton.mp z) fun _ => .upd hp
  rw [List.nodup_append]
  exact ⟨hS.nd, by simp, fun a ha b hb => by rw [List.mem_singleton.mp hb]; rintro rfl; exact hf ha⟩
theorem PostR.newD {kds : List (D × D)} {ks : List Key} {vs : List V} (hQ : PostR K mg W (VOk K) pc R H F σ Q (.ok ρ (.sh (.ow .im), .dic kds))) (hS : Sta K R H ρ σ F) (he : kds.map (·.1) = ks.map kD) (h : AtAll K R vs (kds.map (·.2))) (hp : H p = none) : Q (.ref p) (upd H p (.dK (ks.zip vs))) := by
  have hf : p ∉ F := fun hm => by
    obtain ⟨⟨u, e⟩, _⟩ := hS.slots.foot p hm
    rw [hp] at e; cases e
  have key : ∀ (H' : Hp) (ds : List D) (vs : List V), AtAll K R vs ds → OwnL (Own K R H' .im) ds vs [] := fun H' ds => by
    induction ds with
    | nil => intro vs h; cases h; exact ⟨rfl, rfl⟩
    | cons d ds ih => intro vs h; cases h with | cons h1 h2 => exact ⟨_, _, [], [], rfl, rfl, ⟨rfl, h1⟩, ih _ h2⟩
  refine hQ (.ref p) _ R F [p] (hS.fresh hp) ⟨p, ks, vs, [], rfl, rfl, he, upd_same, hS.none_of hp, key _ _ vs h⟩ ?_ (.fresh hp fun a ha => (List.mem_append.mp ha).imp id fun z => List.mem_singleton.mp z) fun _ => .upd hp
  rw [List.nodup_append]
  exact ⟨hS.nd, by simp, fun a ha b hb => by rw [List.mem_singleton.mp hb]; rintro rfl; exact hf ha⟩
theorem PostR.newT (hQ : PostR K mg W (VOk K) pc R H F σ Q (.ok ρ (.sh .im, .tup ds))) (hS : Sta K R H ρ σ F) (h : AtAll K R vs ds) (hp : H p = none) : Q (.ref p) (upd H p (.tup vs)) := by
  have hr := hS.none_of hp
  refine hQ (.ref p) _ (upd R p (.tup vs)) F [] (hS.grow hp) ⟨rfl, .tup (.inl (.inl upd_same)) (h.mono (.upd hr))⟩ (by rw [List.append_nil]; exact hS.nd) (by rw [List.append_nil]; exact .grown hp hr) fun _ => .upd hp
theorem PostR.newX {o : Obj} (hQ : PostR K mg W (VOk K) pc R H F σ Q (.ok ρ (.sh .im, .set ds))) (hS : Sta K R H ρ σ F) (e1 : o.cls = .type "tuple") (e2 : o.dict = none) (h : AtAll K R vs ds) (hp : H p = none) : Q (.ref p) (upd H p (.frz o (.tup vs))) := by
  have hr := hS.none_of hp
  refine hQ (.ref p) _ (upd R p (.frz o (.tup vs))) F [] (hS.grow hp) ⟨rfl, .tux upd_same e1 e2 (h.mono (.upd hr))⟩ (by rw [List.append_nil]; exact hS.nd) (by rw [List.append_nil]; exact .grown hp hr) fun _ => .upd hp

/-! ### held values become plain -/
theorem Sta.freeze (hS : Sta K R H ρ σ F) (hG : ∀ x ∈ G, x ∉ F) : Sta K (ext R H G) H ρ σ F :=
  hS.frame (ext_sub hS.sub) (sub_ext hS.sub) (fun _ _ => rfl) fun a ha => by
    rw [ext_out fun z => hG a z ha]; exact (hS.slots.foot a ha).2
theorem Step.freeze (g : Sub R H) : Step R H (F ++ G) (ext R H G) H F := (ext_step g fun x hx => List.mem_append_right _ hx).less fun x hx => List.mem_append_left _ hx
theorem nd_out {F G : List Addr} (n : (F ++ G).Nodup) : ∀ x ∈ G, x ∉ F := fun x hx hf => (List.nodup_append.mp n).2.2 x hf x hx rfl

/-! ### what an operation gives: a scalar; a new list; plain data (what stands, or a new tuple) -/
inductive OR where
  | s (d : D) | l (ds : List D) | a (d : D) | k (kds : List (D × D)) | x (ds : List D)
def OR.val : OR → DV
  | .s d => (.sh .im, d)
  | .l ds => (.sh (.ow .im), .lst ds)
  | .a d => (.sh .im, d)
  | .k kds => (.sh (.ow .im), .dic kds)
  | .x ds => (.sh .im, .set ds)
/-- held values suffice -/
def OR.lent : OR → Bool
  | .s _ => true
  | _ => false
/-- what is enough for an operation's end -/
def OR.wants (K : PySem.W.Frag) (R H : Hp) (Q : VK) : OR → Prop
  | .s d => d.scal = true ∧ Q d.sv H
  | .l ds => ∀ vs p, AtAll K R vs ds → H p = none → Q (.ref p) (upd H p (.lst vs))
  | .a d => (∀ v, At K R v d → Q v H) ∧ ∀ ds vs p, d = .tup ds → AtAll K R vs ds → H p = none → Q (.ref p) (upd H p (.tup vs))
  | .x ds => ∀ (vs : List V) (p : Addr) (o : Obj), o.cls = .type "tuple" → o.dict = none → AtAll K R vs ds → H p = none → Q (.ref p) (upd H p (.frz o (.tup vs)))
  | .k kds => ∀ (ks : List Key) (vs : List V) (p : Addr), kds.map (·.1) = ks.map kD → AtAll K R vs (kds.map (·.2)) → H p = none → Q (.ref p) (upd H p (.dK (ks.zip vs)))
def OR.okS : OR → Bool
  | .s d => d.scal
  | _ => true
theorem PostR.or {o : OR} (hQ : PostR K mg W (VOk K) pc R H F σ Q (.ok ρ o.val)) (hS : Sta K R H ρ σ F) (hs : o.okS = true) : o.wants K R H Q := by
  cases o with
  | s d => exact ⟨hs, hQ.scal hS hs⟩
  | l ds => exact fun vs p h hp => hQ.newL hS h hp
  | k kds => exact fun ks vs p e h hp => hQ.newD hS e h hp
  | x ds => exact fun vs p o e1 e2 h hp => hQ.newX hS e1 e2 h hp
  | a d => exact ⟨fun v h => hQ.im hS h, fun ds vs p e h hp => by subst e; exact hQ.newT hS h hp⟩

theorem two {da db : Den DV} {f : DV → DV → Den γ} {g : DV → Bool} {res : Res γ} {Q' : δ → Hp → Prop} {T : V → V → Hp → Prop} (hS : Sta K R H ρ σ F) (hden : dBind da (fun a => if g a = true then dFail else dBind db (f a)) ρ = some res)
    (hQ : PostR K mg W rel' pc R H F σ Q' res) (hpc : pc = true → pa = true ∧ pb = true) (hg : ∀ a, g a = false → isBo a = true → pb = true)
    (k : ∀ ρ2 a b v u H2 R2 F2 G1 G2, g a = false → f a b ρ2 = some res → Sta K R2 H2 ρ2 σ F2 → VOk K R2 H2 a v G1 → VOk K R2 H2 b u G2 → (F2 ++ (G1 ++ G2)).Nodup → PostR K mg W rel' pc R2 H2 (F2 ++ (G1 ++ G2)) σ Q' res → T v u H2) :
    tE K mg W pa da σ H fun v H1 => tE K mg W pb db σ H1 fun u H2 => T v u H2 := by
  refine tG_bind hS hden hQ fun ρ1 a v H1 R1 F1 G1 e st q n s p => ?_
  cases hga : g a with
  | true => rw [if_pos hga] at e; cases e
  | false =>
    rw [if_neg (by rw [hga]; exact Bool.false_ne_true)] at e
    have sl : Step R H F R1 H1 F1 := s.less fun x hx => List.mem_append_left _ hx
    have hQ1 := hQ.step sl fun z => p (hpc z).1
    refine tG_bind st e hQ1 fun ρ2 b u H2 R2 F2 G2 e2 st2 q2 n2 s2 p2 => ?_
    obtain ⟨v2, hd⟩ := Frm.vok.behind q n s2 fun z => p2 (hg a hga z)
    have hf1 := q.foot
    have nn : (F2 ++ (G1 ++ G2)).Nodup := by
      rw [List.nodup_append] at n n2 ⊢
      obtain ⟨a1, a2, a3⟩ := n
      obtain ⟨b1, b2, b3⟩ := n2
      refine ⟨b1, List.nodup_append.mpr ⟨a2, b2, fun x hx y hy => ?_⟩, fun x hx y hy => ?_⟩
      · rintro rfl; exact hd x hx (List.mem_append_right _ hy)
      · rcases List.mem_append.mp hy with hy | hy
        · rintro rfl; exact hd x hy (List.mem_append_left _ hx)
        · exact b3 x hx y hy
    refine k ρ2 a b v u H2 R2 F2 G1 G2 hga e2 st2 v2 q2 nn ?_
    have s12 : Step R H F R2 H2 (F2 ++ (G1 ++ G2)) := by
      refine ⟨(sl.trans s2).keep, (sl.trans s2).grow, (sl.trans s2).rnew, fun x hx => ?_, (sl.trans s2).there⟩
      rcases List.mem_append.mp hx with hx | hx
      · exact (sl.trans s2).fnew x (List.mem_append_left _ hx)
      · rcases List.mem_append.mp hx with hx | hx
        · exact s.fnew x (List.mem_append_right _ hx)
        · exact (sl.trans s2).fnew x (List.mem_append_right _ hx)
    exact hQ.step s12 fun z => (p (hpc z).1).trans (p2 (hpc z).2)
theorem not_bo {a : DV} (h : isBo a = false) : a.1 ≠ .bo := fun z => absurd (show isBo a = true from decide_eq_true z) (by rw [h]; exact Bool.false_ne_true)
theorem ext_mono {G2 : List Addr} (g : Sub R H) (h : ∀ x ∈ G, x ∈ G2) : Sub (ext R H G) (ext R H G2) := fun x o q => by
  unfold ext at q ⊢
  split at q
  · rw [if_pos (h x ‹_›)]; exact q
  · split
    · exact g x o q
    · exact q
theorem ff_of {b : Bool} (h : ¬ b = true) : b = false := by cases b <;> simp_all
/-- two operands, both taken as plain data -/
theorem twoIm {da db : Den DV} {f : DV → DV → Den γ} {res : Res γ} {Q' : δ → Hp → Prop} {T : V → V → Hp → Prop} (hS : Sta K R H ρ σ F)
    (hden : dBind da (fun a => if isBo a = true then dFail else dBind db fun b => if isBo b = true then dFail else f a b) ρ = some res)
    (hQ : PostR K mg W rel' (pa && pb) R H F σ Q' res)
    (k : ∀ ρ2 a b v u H2 R2 F2, f a b ρ2 = some res → Sta K R2 H2 ρ2 σ F2 → At K R2 v a.2 → At K R2 u b.2 → PostR K mg W rel' (pa && pb) R2 H2 F2 σ Q' res → T v u H2) :
    tE K mg W pa da σ H fun v H1 => tE K mg W pb db σ H1 fun u H2 => T v u H2 := by
  refine two (g := isBo) hS hden hQ (fun z => Bool.and_eq_true_iff.mp z) (fun a z w => by rw [w] at z; cases z) fun ρ2 a b v u H2 R2 F2 G1 G2 ga e st q q2 n hQ2 => ?_
  cases hb : isBo b with
  | true => rw [if_pos hb] at e; cases e
  | false =>
    rw [if_neg (by rw [hb]; exact Bool.false_ne_true)] at e
    refine k ρ2 a b v u H2 (ext R2 H2 (G1 ++ G2)) F2 e (st.freeze (nd_out n)) ?_ ?_ (hQ2.step (.freeze st.sub) fun _ => .refl)
    · exact (q.freeze st.sub (not_bo ga)).mono (ext_mono st.sub fun x hx => List.mem_append_left _ hx)
    · exact (q2.freeze st.sub (not_bo hb)).mono (ext_mono st.sub fun x hx => List.mem_append_right _ hx)
/-- the ground that an operation is told: lent values, over the heap as it stands; else plain -/
def OpX (K : PySem.W.Frag) (op : D → D → Option OR) (r : R2) : Prop := ∀ d e o v u R H Q, op d e = some o → Sub R H → At K (if o.lent = true then H else R) v d → At K (if o.lent = true then H else R) u e → o.okS = true ∧ (o.wants K R H Q → r v u H Q)
def dBin (pb : Bool) (op : D → D → Option OR) (da db : Den DV) : Den DV := dBind da fun a => if (isBo a && !pb) = true then dFail else dBind db fun b => dLift (op a.2 b.2) fun o => if (!o.lent && (isBo a || isBo b)) = true then dFail else dRet o.val
theorem bin_ok {op : D → D → Option OR} {r : R2} (hr : OpX K op r) {da db : Den DV} (h : tE K mg W (pa && pb) (dBin pb op da db) σ H Q) : tOp r (tE K mg W pa da) (tE K mg W pb db) σ H Q := by
  obtain ⟨ρ, R, F, res, hS, hden, hQ⟩ := h
  refine two (g := fun a => isBo a && !pb) hS hden hQ (fun z => Bool.and_eq_true_iff.mp z) (fun a z w => ?_) fun ρ2 a b v u H2 R2 F2 G1 G2 ga e st q q2 n hQ2 => ?_
  · rw [w] at z; simpa using z
  · unfold dLift at e
    split at e
    · cases e
    · rename_i o e1
      dsimp only at e
      split at e
      · cases e
      · rename_i hb
        cases e
        cases hl : o.lent with
        | true =>
          have hx := hr _ _ o v u R2 H2 Q e1 st.sub (by rw [if_pos hl]; exact q.at st.sub) (by rw [if_pos hl]; exact q2.at st.sub)
          exact hx.2 ((hQ2.step (.less .refl fun x hx => List.mem_append_left _ hx) fun _ => .refl).or st hx.1)
        | false =>
          rw [hl] at hb
          simp only [Bool.not_false, Bool.true_and, Bool.or_eq_true, not_or] at hb
          have st' := st.freeze (nd_out n)
          have q' := (q.freeze st.sub (not_bo (ff_of hb.1))).mono (ext_mono (G2 := G1 ++ G2) st.sub fun x hx => List.mem_append_left _ hx)
          have q2' := (q2.freeze st.sub (not_bo (ff_of hb.2))).mono (ext_mono (G2 := G1 ++ G2) st.sub fun x hx => List.mem_append_right _ hx)
          have hx := hr _ _ o v u (ext R2 H2 (G1 ++ G2)) H2 Q e1 st'.sub (by rw [hl]; exact q') (by rw [hl]; exact q2')
          exact hx.2 ((hQ2.step (.freeze st.sub) fun _ => .refl).or st' hx.1)
def UnX (K : PySem.W.Frag) (op : D → Option OR) (r : V → Hp → VK → Prop) : Prop := ∀ d o v R H Q, op d = some o → Sub R H → At K (if o.lent = true then H else R) v d → o.okS = true ∧ (o.wants K R H Q → r v H Q)
def dUn (op : D → Option OR) (da : Den DV) : Den DV := dBind da fun a => dLift (op a.2) fun o => if (!o.lent && isBo a) = true then dFail else dRet o.val
theorem un_ok {op : D → Option OR} {r : V → Hp → VK → Prop} (hr : UnX K op r) {da : Den DV} (h : tE K mg W pa (dUn op da) σ H Q) : tUn r (tE K mg W pa da) σ H Q := by
  obtain ⟨ρ, R, F, res, hS, hden, hQ⟩ := h
  refine tG_bind hS hden hQ fun ρ1 a v H1 R1 F1 G1 e st q n s p => ?_
  unfold dLift at e
  split at e
  · cases e
  · rename_i o e1
    dsimp only at e
    split at e
    · cases e
    · rename_i hb
      cases e
      cases hl : o.lent with
      | true =>
        have hx := hr _ o v R1 H1 Q e1 st.sub (by rw [if_pos hl]; exact q.at st.sub)
        exact hx.2 (((hQ.step s p).step (.less .refl fun x hx => List.mem_append_left _ hx) fun _ => .refl).or st hx.1)
      | false =>
        rw [hl] at hb
        have hx := hr _ o v (ext R1 H1 G1) H1 Q e1 (st.freeze (nd_out n)).sub (by rw [hl]; exact q.freeze st.sub (not_bo (ff_of hb)))
        exact hx.2 (((hQ.step s p).step (.freeze st.sub) fun _ => .refl).or (st.freeze (nd_out n)) hx.1)
/-- one operand, as plain data -/
theorem oneIm {da : Den DV} {f : DV → Den γ} {res : Res γ} {Q' : δ → Hp → Prop} {T : V → Hp → Prop} (hS : Sta K R H ρ σ F)
    (hden : dBind da (fun a => if isBo a = true then dFail else f a) ρ = some res) (hQ : PostR K mg W rel' pa R H F σ Q' res)
    (k : ∀ ρ2 a v H2 R2 F2, f a ρ2 = some res → Sta K R2 H2 ρ2 σ F2 → At K R2 v a.2 → PostR K mg W rel' pa R2 H2 F2 σ Q' res → T v H2) :
    tE K mg W pa da σ H T := by
  refine tG_bind hS hden hQ fun ρ1 a v H1 R1 F1 G1 e st q n s p => ?_
  cases hb : isBo a with
  | true => rw [if_pos hb] at e; cases e
  | false =>
    rw [if_neg (by rw [hb]; exact Bool.false_ne_true)] at e
    exact k ρ1 a v H1 (ext R1 H1 G1) F1 e (st.freeze (nd_out n)) (q.freeze st.sub (not_bo hb)) ((hQ.step s p).step (.freeze st.sub) fun _ => .refl)
/-! ### argument lists -/
def dNil : Den (List DV) := dRet []
def dCons (pr : Bool) (da : Den DV) (dr : Den (List DV)) : Den (List DV) := dBind da fun a => if (isBo a && !pr) = true then dFail else dBind dr fun as => dRet (a :: as)
theorem args_nil {Q : List V → Hp → Prop} (h : tA K mg W true dNil σ H Q) : tNil σ H Q := by
  obtain ⟨ρ, R, F, res, hS, hden, hQ⟩ := h
  cases hden
  exact hQ [] H R F [] hS ⟨rfl, rfl⟩ (by rw [List.append_nil]; exact hS.nd) (by rw [List.append_nil]; exact .refl) fun _ => .refl
theorem args_cons {da : Den DV} {dr : Den (List DV)} {Q : List V → Hp → Prop} (h : tA K mg W (pa && pb) (dCons pb da dr) σ H Q) : tCons (tE K mg W pa da) (tA K mg W pb dr) σ H Q := by
  obtain ⟨ρ, R, F, res, hS, hden, hQ⟩ := h
  refine tG_bind hS hden hQ fun ρ1 a v H1 R1 F1 G1 e st q n s p => ?_
  cases hga : (isBo a && !pb) with
  | true => rw [if_pos hga] at e; cases e
  | false =>
    rw [if_neg (by rw [hga]; exact Bool.false_ne_true)] at e
    have sl : Step R H F R1 H1 F1 := s.less fun x hx => List.mem_append_left _ hx
    have hQ1 := hQ.step sl fun z => p (Bool.and_eq_true_iff.mp z).1
    refine tG_bind st e hQ1 fun ρ2 b u H2 R2 F2 G2 e2 st2 q2 n2 s2 p2 => ?_
    cases e2
    obtain ⟨v2, hd⟩ := Frm.vok.behind q n s2 fun z => p2 (by rw [z] at hga; simpa using hga)
    refine hQ (v :: u) H2 R2 F2 (G1 ++ G2) st2 ⟨v, u, G1, G2, rfl, rfl, v2, q2⟩ ?_ ⟨(sl.trans s2).keep, (sl.trans s2).grow, (sl.trans s2).rnew, fun x hx => ?_, (sl.trans s2).there⟩ fun z => (p (Bool.and_eq_true_iff.mp z).1).trans (p2 (Bool.and_eq_true_iff.mp z).2)
    · rw [List.nodup_append] at n n2 ⊢
      obtain ⟨a1, a2, a3⟩ := n
      obtain ⟨b1, b2, b3⟩ := n2
      refine ⟨b1, List.nodup_append.mpr ⟨a2, b2, fun x hx y hy => ?_⟩, fun x hx y hy => ?_⟩
      · rintro rfl; exact hd x hx (List.mem_append_right _ hy)
      · rcases List.mem_append.mp hy with hy | hy
        · rintro rfl; exact hd x hy (List.mem_append_left _ hx)
        · exact b3 x hx y hy
    · rcases List.mem_append.mp hx with hx | hx
      · exact (sl.trans s2).fnew x (List.mem_append_left _ hx)
      · rcases List.mem_append.mp hx with hx | hx
        · exact s.fnew x (List.mem_append_right _ hx)
        · exact (sl.trans s2).fnew x (List.mem_append_right _ hx)
/-- the arguments, as plain data -/
theorem argsIm {da : Den (List DV)} {f : List DV → Den γ} {res : Res γ} {Q' : δ → Hp → Prop} {T : List V → Hp → Prop} (hS : Sta K R H ρ σ F)
    (hden : dBind da (fun as => if as.any isBo = true then dFail else f as) ρ = some res) (hQ : PostR K mg W rel' pa R H F σ Q' res)
    (k : ∀ ρ2 as vs H2 R2 F2, f as ρ2 = some res → Sta K R2 H2 ρ2 σ F2 → AtAll K R2 vs (as.map (·.2)) → PostR K mg W rel' pa R2 H2 F2 σ Q' res → T vs H2) :
    tA K mg W pa da σ H T := by
  refine tG_bind hS hden hQ fun ρ1 a v H1 R1 F1 G1 e st q n s p => ?_
  cases hb : a.any isBo with
  | true => rw [if_pos hb] at e; cases e
  | false =>
    rw [if_neg (by rw [hb]; exact Bool.false_ne_true)] at e
    exact k ρ1 a v H1 (ext R1 H1 G1) F1 e (st.freeze (nd_out n)) (q.freeze st.sub (fun _ h => h) hb) ((hQ.step s p).step (.freeze st.sub) fun _ => .refl)

/-- a call of something built in -/
def CallX (K : PySem.W.Frag) (op : List D → Option OR) (r : List V → Hp → VK → Prop) : Prop := ∀ ds o vs R H Q, op ds = some o → Sub R H → AtAll K (if o.lent = true then H else R) vs ds → o.okS = true ∧ (o.wants K R H Q → r vs H Q)
def dCall (op : List D → Option OR) (da : Den (List DV)) : Den DV := dBind da fun as => dLift (op (as.map (·.2))) fun o => if (!o.lent && as.any isBo) = true then dFail else dRet o.val
theorem call_ok {op : List D → Option OR} {r : List V → Hp → VK → Prop} (hr : CallX K op r) {da : Den (List DV)} (h : tE K mg W pa (dCall op da) σ H Q) : tCB r (tA K mg W pa da) σ H Q := by
  obtain ⟨ρ, R, F, res, hS, hden, hQ⟩ := h
  refine tG_bind hS hden hQ fun ρ1 a v H1 R1 F1 G1 e st q n s p => ?_
  unfold dLift at e
  split at e
  · cases e
  · rename_i o e1
    dsimp only at e
    split at e
    · cases e
    · rename_i hb
      cases e
      cases hl : o.lent with
      | true =>
        have hx := hr _ o v R1 H1 Q e1 st.sub (by rw [if_pos hl]; exact q.at st.sub)
        exact hx.2 (((hQ.step s p).step (.less .refl fun x hx => List.mem_append_left _ hx) fun _ => .refl).or st hx.1)
      | false =>
        rw [hl] at hb
        have hx := hr _ o v (ext R1 H1 G1) H1 Q e1 (st.freeze (nd_out n)).sub (by rw [hl]; exact q.freeze st.sub (fun _ h => h) (ff_of hb))
        exact hx.2 (((hQ.step s p).step (.freeze st.sub) fun _ => .refl).or (st.freeze (nd_out n)) hx.1)

/-! ### displays -/
def dTup (da : Den (List DV)) : Den DV := dBind da fun as => if as.any isBo = true then dFail else if as.length ≤ sizeLine then dRet (.sh .im, .tup (as.map (·.2))) else dFail
def dLst (da : Den (List DV)) : Den DV := dBind da fun as => if as.any isBo = true then dFail else if as.length ≤ sizeLine then dRet (.sh (.ow .im), .lst (as.map (·.2))) else dFail
theorem disp_tup {da : Den (List DV)} (h : tE K mg W pa (dTup da) σ H Q) : tTup (tA K mg W pa da) σ H Q := by
  obtain ⟨ρ, R, F, res, hS, hden, hQ⟩ := h
  refine argsIm hS hden hQ fun ρ2 as vs H2 R2 F2 e st q hQ2 => ?_
  split at e
  · rename_i hz
    cases e
    exact ⟨by rw [q.length, List.length_map]; exact hz, fun p hp => hQ2.newT st q hp⟩
  · cases e
theorem disp_lst {da : Den (List DV)} (h : tE K mg W pa (dLst da) σ H Q) : tLst (tA K mg W pa da) σ H Q := by
  obtain ⟨ρ, R, F, res, hS, hden, hQ⟩ := h
  refine argsIm hS hden hQ fun ρ2 as vs H2 R2 F2 e st q hQ2 => ?_
  split at e
  · rename_i hz
    cases e
    exact ⟨by rw [q.length, List.length_map]; exact hz, fun p hp => hQ2.newL st q hp⟩
  · cases e

/-! ### names, constants -/
def dC (d : D) : Den DV := dRet (.sh .im, d)
theorem const_ok {d : D} (hd : d.scal = true) (h : tE K mg W true (dC d) σ H Q) : tC d.sv σ H Q := by
  obtain ⟨ρ, R, F, res, hS, hden, hQ⟩ := h
  cases hden
  exact hQ.scal hS hd
/-- a name that is read -/
def dVar (i : Nat) : Den DV := fun ρ => match ρ[i]? with
  | some (some (.im, d)) => some (.ok ρ (.sh .im, d))
  | some (some (.ow _, d)) => some (.ok ρ (.bo, d))
  | _ => none
/-- a name whose value is kept elsewhere, too: from now on it is plain -/
def dVarF (i : Nat) : Den DV := fun ρ => match ρ[i]? with
  | some (some (.im, d)) => some (.ok ρ (.sh .im, d))
  | some (some (.ow _, d)) => some (.ok (ρ.set i (some (.im, d))) (.sh .im, d))
  | _ => none
/-- a name that is read for the last time -/
def dVarM (i : Nat) : Den DV := fun ρ => match ρ[i]? with
  | some (some (s, d)) => some (.ok (ρ.set i none) (.sh s, d))
  | _ => none
theorem var_ok {i : Nat} (h : tE K mg W true (dVar i) σ H Q) : tVar i σ H Q := by
  obtain ⟨ρ, R, F, res, hS, hden, hQ⟩ := h
  unfold dVar at hden
  split at hden
  · rename_i d e
    cases hden
    obtain ⟨v, F1, F2, h1, h2, h3, h4⟩ := hS.slots.pick e
    exact ⟨v, h1, hQ.im hS h2.2⟩
  · rename_i s d e
    cases hden
    obtain ⟨v, F1, F2, h1, h2, h3, h4⟩ := hS.slots.pick e
    refine ⟨v, h1, hQ v H R F [] hS ⟨rfl, Own.at hS.sub (fun _ _ => rfl) h2⟩ (by rw [List.append_nil]; exact hS.nd) (by rw [List.append_nil]; exact .refl) fun _ => .refl⟩
  · cases hden
theorem set_self {σ : L2.St} {i : Nat} {v : Option V} (h : σ[i]? = some v) : σ.set i v = σ := by
  obtain ⟨hi, e⟩ := List.getElem?_eq_some_iff.mp h
  rw [← e]; exact List.set_getElem_self hi
theorem set_set {ρ : Rho} {i : Nat} {x y : Slot} : (ρ.set i x).set i y = ρ.set i y := List.set_set ..
/-- a name's value becomes plain -/
theorem Sta.thaw {i : Nat} {s : Sh} (hS : Sta K R H ρ σ F) (e : ρ[i]? = some (some (s, d))) : ∃ v R' F', σ[i]? = some (some v) ∧ At K R' v d ∧ Sta K R' H (ρ.set i (some (.im, d))) σ F' ∧ Step R H F R' H F' := by
  obtain ⟨v, F1, F2, h1, h2, h3, h4⟩ := hS.slots.pick e
  have n : (F1 ++ F2).Nodup := h4.nodup_iff.mp hS.nd
  have hd : ∀ x ∈ F1, x ∉ F2 := fun x hx hy => (List.nodup_append.mp n).2.2 x hx x hy rfl
  have a : At K (ext R H F1) v d := Own.at (ext_sub hS.sub) (fun x hx => ext_in hx) h2
  have s3 : Sta K R H (ρ.set i none) σ F2 := ⟨h3, hS.sub, (List.nodup_append.mp n).2.1⟩
  have s4 := s3.freeze hd
  have hi : i < (ρ.set i none).length := by rw [List.length_set]; exact (List.getElem?_eq_some_iff.mp e).1
  obtain ⟨F', p1, p2, p3⟩ := s4.slots.put (s := .im) (d := d) (v := v) (G := []) hi ⟨rfl, a⟩
  rw [set_set, set_self h1] at p1
  refine ⟨v, ext R H F1, F', h1, a, ⟨p1, s4.sub, p3 (by simpa using s4.nd)⟩, ?_⟩
  refine (ext_step hS.sub fun x hx => h4.mem_iff.mpr (List.mem_append_left _ hx)).less fun x hx => ?_
  rcases p2 x hx with z | z
  · cases z
  · exact h4.mem_iff.mpr (List.mem_append_right _ z)
theorem varF_ok {i : Nat} (h : tE K mg W true (dVarF i) σ H Q) : tVar i σ H Q := by
  obtain ⟨ρ, R, F, res, hS, hden, hQ⟩ := h
  unfold dVarF at hden
  split at hden
  · rename_i d e
    cases hden
    obtain ⟨v, F1, F2, h1, h2, h3, h4⟩ := hS.slots.pick e
    exact ⟨v, h1, hQ.im hS h2.2⟩
  · rename_i s d e
    cases hden
    obtain ⟨v, R', F', h1, h2, h3, h4⟩ := hS.thaw e
    exact ⟨v, h1, (hQ.step h4 fun _ => .refl).im h3 h2⟩
  · cases hden
theorem varM_ok {i : Nat} (h : tE K mg W true (dVarM i) σ H Q) : tVar i σ H Q := by
  obtain ⟨ρ, R, F, res, hS, hden, hQ⟩ := h
  unfold dVarM at hden
  split at hden
  · rename_i s d e
    cases hden
    obtain ⟨v, F1, F2, h1, h2, h3, h4⟩ := hS.slots.pick e
    have n : (F2 ++ F1).Nodup := List.perm_append_comm.nodup_iff.mp (h4.nodup_iff.mp hS.nd)
    refine ⟨v, h1, hQ v H R F2 F1 ⟨h3, hS.sub, (List.nodup_append.mp n).1⟩ h2 n (Step.refl.less fun x hx => h4.mem_iff.mpr ?_) fun _ => .refl⟩
    exact (List.mem_append.mp hx).elim (List.mem_append_right _) (List.mem_append_left _)
  · cases hden
end
end Den

/-! dicts: what stands at a key, what a store makes of them -/
namespace Den
open PySem PySem.Spec PyProof.Rows L2
variable {K : PySem.W.Frag} {R H : Hp}
def keyEq : D → D → Bool
  | .int i, .int j => decide (i = j)
  | .str a, .str b => decide (a = b)
  | _, _ => false
def isKey : D → Bool
  | .int _ => true
  | .str _ => true
  | _ => false
def getK (kds : List (D × D)) (c : D) : Option D := (kds.find? fun p => keyEq p.1 c).map (·.2)
def putD (kds : List (D × D)) (c d : D) : List (D × D) := if (kds.any fun p => keyEq p.1 c) = true then kds.map (fun p => if keyEq p.1 c = true then (p.1, d) else p) else kds ++ [(c, d)]
theorem keyEq_kD {k k' : Key} : keyEq (kD k) (kD k') = decide (k = k') := by
  cases k <;> cases k' <;> simp [keyEq, kD]
theorem key_of {c : D} (h : isKey c = true) : ∃ k : Key, c = kD k := by
  cases c with
  | int i => exact ⟨.inl i, rfl⟩
  | str s => exact ⟨.inr s, rfl⟩
  | _ => simp [isKey] at h
theorem key_at {c : D} {u : V} {k : Key} (h : c = kD k) (q : At K R u c) : u = kV k := by
  subst h; rw [q.scal kD_scal, kD_sv]
theorem get_at {k : Key} : ∀ {kds : List (D × D)} {ks : List Key} {xs : List V}, kds.map (·.1) = ks.map kD → AtAll K R xs (kds.map (·.2)) →
    match getK kds (kD k) with
    | some d => ∃ v, valV (ks.zip xs) k = some v ∧ At K R v d
    | none => valV (ks.zip xs) k = none
  | [], ks, xs, h1, h2 => by
    cases ks with
    | nil => rfl
    | cons => simp at h1
  | p :: kds, ks, xs, h1, h2 => by
    cases ks with
    | nil => simp at h1
    | cons q ks =>
      simp at h1
      cases h2 with
      | cons a b =>
        rename_i v vs
        have ih := get_at (k := k) h1.2 b
        unfold getK at ih ⊢
        rw [List.find?_cons]
        rw [List.zip_cons_cons]
        by_cases e : q = k
        · have : keyEq p.1 (kD k) = true := by rw [h1.1, keyEq_kD]; simp [e]
          rw [this]
          exact ⟨v, valV_pos (p := (q, v)) e, a⟩
        · have : keyEq p.1 (kD k) = false := by rw [h1.1, keyEq_kD]; simp [e]
          rw [this, valV_neg (p := (q, v)) e]
          exact ih
theorem getK_key {kds : List (D × D)} {c d : D} (h : getK kds c = some d) : isKey c = true := by
  unfold getK at h
  obtain ⟨p, hp, _⟩ := Option.map_eq_some_iff.mp h
  have := List.find?_some hp
  cases c with
  | int _ => rfl
  | str _ => rfl
  | _ => simp [keyEq] at this
def rIxD : R2 := fun x y H Q => ∃ a kvs k v, x = .ref a ∧ Rd H a (.dK kvs) ∧ y = kV k ∧ valV kvs k = some v ∧ Q v H
theorem ix_dic {X : Cx} : IxR X rIxD := by
  intro value slice pins s σ H x y v u Q I rx ry h hs
  obtain ⟨a, kvs, k, z, rfl, e, rfl, l, q⟩ := h
  cases rx
  have g : DGet H a (kV k) (some z) := by rw [← l]; exact .inl ⟨kvs, k, e, rfl, rfl⟩
  refine tail_any (dict_typeIs I g) PySem.F.slot_dict_getitem.lookup ?_ hs
  obtain ⟨zz, hd, vs, rel, dd⟩ := dk_rd I.hok e
  obtain ⟨w', hw, rw'⟩ := RelO.some_of (v := z) (o := valueAt vs k) (by rw [← l]; exact rel.val k)
  exact wpAny_getItem_of (kV_is ry) dd.mapOf hw ⟨z, H, I.tok _, rw', q⟩
def rIx2 (K : PySem.W.Frag) : R2 := fun x y H Q => rIx K x y H Q ∨ rIxD x y H Q
theorem ix_seq2 {X : Cx} : IxR X (rIx2 X.K) := ix_seq.or ix_dic
def rInDc : R2 := fun x y H Q => ∃ a kvs k, y = .ref a ∧ Rd H a (.dK kvs) ∧ x = kV k ∧ Q (.bl (valV kvs k).isSome) H
def rNotInDc : R2 := fun x y H Q => ∃ a kvs k, y = .ref a ∧ Rd H a (.dK kvs) ∧ x = kV k ∧ Q (.bl (!(valV kvs k).isSome)) H
theorem or_inDc {X : Cx} (hu : X.A.units + 1 < cLine) : OpR X (compareOp .In) rInDc := by
  intro pins s σ H x y v u Q I rx ry h
  obtain ⟨a, kvs, k, rfl, e, rfl, q⟩ := h
  cases ry
  exact d_in hu I (.inl ⟨kvs, k, e, rfl, rfl⟩) rx fun s' I' => ⟨.bl _, H, I', rfl, q⟩
theorem or_notInDc {X : Cx} (hu : X.A.units + 1 < cLine) : OpR X (compareOp .NotIn) rNotInDc := by
  intro pins s σ H x y v u Q I rx ry h
  obtain ⟨a, kvs, k, rfl, e, rfl, q⟩ := h
  cases ry
  exact d_notIn hu I (.inl ⟨kvs, k, e, rfl, rfl⟩) rx fun s' I' => ⟨.bl _, H, I', rfl, q⟩
end Den

/-! The operations on plain data, each with Python's. -/
namespace Den
open PySem PySem.Spec PyProof.Rows L2

theorem _root_.L2.PE.impD {X : Cx} {e : Expr} {t t' : TE} (h : PE X e t) (i : ∀ σ H Q, t' σ H Q → t σ H Q) : PE X e t' := ⟨fun pins s σ H Q I q => h.run pins s σ H Q I (i σ H Q q)⟩
theorem _root_.L2.PT.impD {X : Cx} {e : Expr} {t t' : TT} (h : PT X e t) (i : ∀ σ H Q, t' σ H Q → t σ H Q) : PT X e t' := ⟨fun pins s σ H Q I q => h.run pins s σ H Q I (i σ H Q q)⟩
theorem _root_.L2.PW.impD {X : Cx} {e : Expr} {t t' : TT} (h : PW X e t) (i : ∀ σ H Q, t' σ H Q → t σ H Q) : PW X e t' := ⟨fun wh pins s σ H Q I q => h.run wh pins s σ H Q I (i σ H Q q)⟩
theorem _root_.L2.PA.impD {X : Cx} {e : List Expr} {t t' : TA} (h : PA X e t) (i : ∀ σ H Q, t' σ H Q → t σ H Q) : PA X e t' := ⟨fun pos pins s σ H Q I q => h.run pos pins s σ H Q I (i σ H Q q)⟩
theorem _root_.L2.PS.impD {X : Cx} {e : Stmt} {t t' : TS} (h : PS X e t) (i : ∀ D σ H, t' D σ H → t D σ H) : PS X e t' := ⟨fun pins s σ H D I q => h.run pins s σ H D I (i D σ H q)⟩
theorem _root_.L2.PSs.impD {X : Cx} {e : List Stmt} {t t' : TS} (h : PSs X e t) (i : ∀ D σ H, t' D σ H → t D σ H) : PSs X e t' := ⟨fun pins s σ H D I q => h.run pins s σ H D I (i D σ H q)⟩

/-! ### + -/
section
variable {X : Cx} {K : PySem.W.Frag}
def rCatS (K : PySem.W.Frag) : R2 := fun x y H Q => ∃ l b xs zs, x = .ref l ∧ y = .ref b ∧ SqL K H l xs ∧ SqL K H b zs ∧ xs.length + zs.length ≤ sizeLine ∧ ∀ p, H p = none → Q (.ref p) (upd H p (.lst (xs ++ zs)))
theorem op_catS : OpR X (binaryOp .Add) (rCatS X.K) := by
  intro pins s σ H x y v u Q I rx ry h
  obtain ⟨l, b, xs, zs, rfl, rfl, hH, hB, hz, q⟩ := h
  cases rx
  cases ry
  obtain ⟨its, r, ⟨⟨cls, dd, data, sl⟩, n, e, hc, hdn, hd⟩, _⟩ := I.list hH
  obtain ⟨its2, r2, ⟨⟨cls2, dd2, data2, sl2⟩, n2, e2, hc2, hdn2, hd2⟩, _⟩ := I.list hB
  simp only at hc hd hc2 hd2
  subst hc hd hc2 hd2
  have ea : its.toArray ++ its2.toArray = (its ++ its2).toArray := by simp
  refine concat_meets ⟨_, e, rfl⟩ ⟨_, e2, rfl⟩ noFill_list_add seq_list_add PySem.F.slot_list_add PySem.F.entry_list_add (PySem.F.args_list_add_2 _ _)
    (list_addW l b its.toArray its2.toArray n n2 dd dd2 sl sl2 (by rw [List.size_toArray, List.size_toArray, ← r.length, ← r2.length]; exact hz)) ⟨e, e2, ?_⟩
  rw [ea]
  exact ⟨.ref _, _, I.lnew (t' := s.toks) (r.append r2) (by rw [List.length_append]; omega), rfl, q _ I.fresh⟩
def rAdd (K : PySem.W.Frag) : R2 := fun x y H Q => rI0 (fun i j => .int (i + j)) x y H Q ∨ (∃ i j, x = .str i ∧ y = .str j ∧ i.length + j.length ≤ sizeLine ∧ Q (.str (i ++ j)) H) ∨ rCatS K x y H Q ∨ rCatA K x y H Q
theorem or_add : OpR X (binaryOp .Add) (rAdd X.K) := op_add.or (op_add_str.or (op_catS.or op_catA))
def addOp : D → D → Option OR
  | .int i, .int j => some (.s (.int (i + j)))
  | .str a, .str b => if a.length + b.length ≤ sizeLine then some (.s (.str (a ++ b))) else none
  | .lst xs, .lst ys => if xs.length + ys.length ≤ sizeLine then some (.l (xs ++ ys)) else none
  | .tup xs, .tup ys => if xs.length + ys.length ≤ sizeLine then some (.a (.tup (xs ++ ys))) else none
  | _, _ => none
theorem AtAll.nil_of {R : Hp} {vs : List V} (h : AtAll K R vs []) : vs = [] := by cases h; rfl
theorem AtAll.ne_nil {R : Hp} {vs : List V} {ds : List D} (h : AtAll K R vs ds) (e : vs ≠ []) : ds ≠ [] := by rintro rfl; exact e h.nil_of
theorem ox_add : OpX K addOp (rAdd K) := by
  intro d e o v u R H Q ho hs hv hu
  unfold addOp at ho
  split at ho
  · cases ho
    cases hv; cases hu
    exact ⟨rfl, fun w => .inl ⟨_, _, rfl, rfl, w.2⟩⟩
  · split at ho
    · cases ho
      cases hv; cases hu
      exact ⟨rfl, fun w => .inr (.inl ⟨_, _, rfl, rfl, by assumption, w.2⟩)⟩
    · cases ho
  · split at ho
    · cases ho
      cases hv with | lst h1 h2 => cases hu with | lst h3 h4 =>
      refine ⟨rfl, fun w => .inr (.inr (.inl ⟨_, _, _, _, rfl, rfl, hs.sqL h1, hs.sqL h3, ?_, fun p hp => w _ p (AtAll.append h2 h4) hp⟩))⟩
      rw [h2.length, h4.length]; assumption
    · cases ho
  · split at ho
    · cases ho
      cases hv with | @tup a xs _ h1 h2 => cases hu with | @tup b ys _ h3 h4 =>
      refine ⟨rfl, fun w => .inr (.inr (.inr ⟨_, _, _, _, rfl, rfl, hs.sqT h1, hs.sqT h3, ?_, fun e => ?_, fun e e2 => ?_, fun e e2 p hp => w.2 _ _ p rfl (AtAll.append h2 h4) hp⟩))⟩
      · rw [h2.length, h4.length]; assumption
      · subst e; cases h2; exact w.1 _ (.tup h3 h4)
      · subst e2; cases h4; exact w.1 _ (by rw [List.append_nil]; exact .tup h1 h2)
    · cases ho
  · cases ho

/-! ### ints -/
def intOp (C : Int → Int → Bool) (g : Int → Int → D) : D → D → Option OR
  | .int i, .int j => if C i j = true then some (.s (g i j)) else none
  | _, _ => none
theorem ox_int {C : Int → Int → Bool} {g : Int → Int → D} {r : R2} (hg : ∀ i j, (g i j).scal = true) (h : ∀ i j H Q, C i j = true → Q (g i j).sv H → r (.int i) (.int j) H Q) : OpX K (intOp C g) r := by
  intro d e o v u R H Q ho hs hv hu
  unfold intOp at ho
  split at ho
  · split at ho
    · cases ho
      cases hv; cases hu
      exact ⟨hg _ _, fun w => h _ _ _ _ ‹_› w.2⟩
    · cases ho
  · cases ho
def subOp := intOp (fun _ _ => true) fun i j => .int (i - j)
theorem ox_sub : OpX K subOp (rI0 fun i j => .int (i - j)) := ox_int (fun _ _ => rfl) fun i j H Q _ q => ⟨i, j, rfl, rfl, q⟩
/-- a product's size -/
def mulOk (i j : Int) : Bool := decide (-(2 ^ 64) < i ∧ i < 2 ^ 64) || decide (-(2 ^ 64) < j ∧ j < 2 ^ 64) || decide (i.natAbs.log2 + j.natAbs.log2 < 1000000)
def mulOp := intOp mulOk fun i j => .int (i * j)
def rMul : R2 := fun x y H Q => rI CMul (fun i j => .int (i * j)) x y H Q ∨ rI CMulW (fun i j => .int (i * j)) x y H Q
theorem or_mul : OpR X (binaryOp .Mult) rMul := op_mul.or op_mulW
theorem ox_mul : OpX K mulOp rMul := ox_int (fun _ _ => rfl) fun i j H Q c q => by
  unfold mulOk at c
  rw [Bool.or_eq_true, Bool.or_eq_true, decide_eq_true_eq, decide_eq_true_eq, decide_eq_true_eq] at c
  rcases c with (c | c) | c
  · exact .inl ⟨i, j, rfl, rfl, .inl c, q⟩
  · exact .inl ⟨i, j, rfl, rfl, .inr c, q⟩
  · exact .inr ⟨i, j, rfl, rfl, c, q⟩
def fdivOp := intOp (fun _ j => decide (0 < j ∧ j.natAbs.log2 < 9000)) fun i j => .int (i / j)
theorem ox_fdiv : OpX K fdivOp (rI CDivW fun i j => .int (i / j)) := ox_int (fun _ _ => rfl) fun i j H Q c q => by
  have c' := of_decide_eq_true c
  exact ⟨i, j, rfl, rfl, c', q⟩
def modOp := intOp (fun _ j => decide (0 < j)) fun i j => .int (i % j)
theorem ox_mod : OpX K modOp (rI (fun _ j => 0 < j) fun i j => .int (i % j)) := ox_int (fun _ _ => rfl) fun i j H Q c q => by
  have c' := of_decide_eq_true c
  exact ⟨i, j, rfl, rfl, c', q⟩
def powOp := intOp (fun i j => decide (0 ≤ j ∧ j ≤ 1000000 ∧ i.natAbs < 2 ^ 64)) fun i j => .int (i ^ j.toNat)
theorem ox_pow : OpX K powOp (rI CPow fun i j => .int (i ^ j.toNat)) := ox_int (fun _ _ => rfl) fun i j H Q c q => by
  have c' := of_decide_eq_true c
  exact ⟨i, j, rfl, rfl, c', q⟩
def shlOp := intOp (fun i j => decide (0 ≤ j ∧ j ≤ 1000000 ∧ i.natAbs < 2 ^ 64)) fun i j => .int (i * 2 ^ j.toNat)
theorem ox_shl : OpX K shlOp (rI CPow fun i j => .int (i * 2 ^ j.toNat)) := ox_int (fun _ _ => rfl) fun i j H Q c q => by
  have c' := of_decide_eq_true c
  exact ⟨i, j, rfl, rfl, c', q⟩
def shrOp := intOp (fun _ j => decide (0 ≤ j)) fun i j => .int (i / 2 ^ j.toNat)
theorem ox_shr : OpX K shrOp (rI (fun _ j => 0 ≤ j) fun i j => .int (i / 2 ^ j.toNat)) := ox_int (fun _ _ => rfl) fun i j H Q c q => by
  have c' := of_decide_eq_true c
  exact ⟨i, j, rfl, rfl, c', q⟩
def andOp := intOp (fun _ _ => true) fun i j => .int (Builtin.bitAnd i j)
theorem ox_and : OpX K andOp (rI0 fun i j => .int (Builtin.bitAnd i j)) := ox_int (fun _ _ => rfl) fun i j H Q _ q => ⟨i, j, rfl, rfl, q⟩
def borOp := intOp (fun _ _ => true) fun i j => .int (Builtin.bitOr i j)
theorem ox_bor : OpX K borOp (rI0 fun i j => .int (Builtin.bitOr i j)) := ox_int (fun _ _ => rfl) fun i j H Q _ q => ⟨i, j, rfl, rfl, q⟩
def negOp : D → Option OR
  | .int i => some (.s (.int (-i)))
  | _ => none
theorem ux_neg : UnX K negOp (rU fun i => .int (-i)) := by
  intro d o v R H Q ho hs hv
  unfold negOp at ho
  split at ho
  · cases ho; cases hv
    exact ⟨rfl, fun w => ⟨_, rfl, w.2⟩⟩
  · cases ho

/-! ### order of ints, of texts -/
def cmpOp (p : Int → Int → Bool) (q : Str → Str → Bool) : D → D → Option OR
  | .int i, .int j => some (.s (.bl (p i j)))
  | .str i, .str j => some (.s (.bl (q i j)))
  | _, _ => none
def strLt (i j : Str) : Bool := decide (i.cps.toList < j.cps.toList)
def rCmp (p : Int → Int → Bool) (q : Str → Str → Bool) : R2 := fun x y H Q => rI0 (fun i j => .bl (p i j)) x y H Q ∨ ∃ i j, x = .str i ∧ y = .str j ∧ Q (.bl (q i j)) H
theorem ox_cmp {p : Int → Int → Bool} {q : Str → Str → Bool} : OpX K (cmpOp p q) (rCmp p q) := by
  intro d e o v u R H Q ho hs hv hu
  unfold cmpOp at ho
  split at ho
  · cases ho; cases hv; cases hu
    exact ⟨rfl, fun w => .inl ⟨_, _, rfl, rfl, w.2⟩⟩
  · cases ho; cases hv; cases hu
    exact ⟨rfl, fun w => .inr ⟨_, _, rfl, rfl, w.2⟩⟩
  · cases ho
def ltOp := cmpOp (fun i j => decide (i < j)) strLt
def leOp := cmpOp (fun i j => decide (i ≤ j)) fun i j => !strLt j i
def gtOp := cmpOp (fun i j => decide (j < i)) fun i j => strLt j i
def geOp := cmpOp (fun i j => decide (j ≤ i)) fun i j => !strLt i j
theorem or_lt : OpR X (compareOp .Lt) (rCmp (fun i j => decide (i < j)) strLt) := op_lt.or op_lt_str
theorem or_le : OpR X (compareOp .LtE) (rCmp (fun i j => decide (i ≤ j)) fun i j => !strLt j i) := op_le.or op_le_str
theorem or_gt : OpR X (compareOp .Gt) (rCmp (fun i j => decide (j < i)) fun i j => strLt j i) := op_gt.or op_gt_str
theorem or_ge : OpR X (compareOp .GtE) (rCmp (fun i j => decide (j ≤ i)) fun i j => !strLt i j) := op_ge.or op_ge_str

/-! ### is -/
def isD : D → D → Option Bool
  | .non, .non => some true
  | _, .non => some false
  | .bl a, .bl b => some (a == b)
  | _, .bl b => some false
  | _, _ => none
def isOp (d e : D) : Option OR := (isD d e).map fun b => .s (.bl b)
def isNotOp (d e : D) : Option OR := (isD d e).map fun b => .s (.bl (!b))
theorem bl_beq {x : V} {v : Value} {b : Bool} (r : RelV x v) : (v == Value.bool b) = decide (x = .bl b) := by
  cases x with
  | non => cases r; rfl
  | bl c => cases r; cases c <;> cases b <;> rfl
  | int _ => obtain ⟨t, rfl⟩ := r; rfl
  | str _ => obtain ⟨t, rfl⟩ := r; rfl
  | byt _ => obtain ⟨t, rfl⟩ := r; rfl
  | flt _ => obtain ⟨t, rfl⟩ := r; rfl
  | ref _ => cases r; rfl
  | ty _ => cases r; rfl
theorem plainIs_bl {x : V} {v : Value} {b : Bool} (r : RelV x v) : plainIs v (Value.bool b) = true := by
  cases x with
  | non => cases r; rfl
  | bl c => cases r; rfl
  | int _ => obtain ⟨t, rfl⟩ := r; rfl
  | str _ => obtain ⟨t, rfl⟩ := r; rfl
  | byt _ => obtain ⟨t, rfl⟩ := r; rfl
  | flt _ => obtain ⟨t, rfl⟩ := r; rfl
  | ref _ => cases r; rfl
  | ty _ => cases r; rfl
theorem op_isB : OpR X (compareOp .Is) (fun x y H Q => ∃ b, y = .bl b ∧ Q (.bl (decide (x = .bl b))) H) := by
  intro pins s σ H x y v u Q I rx ry h
  obtain ⟨b, rfl, q⟩ := h
  cases ry
  exact wpAny_is_plain (plainIs_bl rx) ⟨.bl _, H, I, by rw [bl_beq rx]; rfl, q⟩
theorem op_isNotB : OpR X (compareOp .IsNot) (fun x y H Q => ∃ b, y = .bl b ∧ Q (.bl (!decide (x = .bl b))) H) := by
  intro pins s σ H x y v u Q I rx ry h
  obtain ⟨b, rfl, q⟩ := h
  cases ry
  exact wpAny_isNot_plain (plainIs_bl rx) ⟨.bl _, H, I, by rw [bl_beq rx]; rfl, q⟩
def rIs : R2 := fun x y H Q => (y = .non ∧ Q (.bl (decide (x = .non))) H) ∨ ∃ b, y = .bl b ∧ Q (.bl (decide (x = .bl b))) H
def rIsNot : R2 := fun x y H Q => (y = .non ∧ Q (.bl (!decide (x = .non))) H) ∨ ∃ b, y = .bl b ∧ Q (.bl (!decide (x = .bl b))) H
theorem or_is : OpR X (compareOp .Is) rIs := op_isN.or op_isB
theorem or_isNot : OpR X (compareOp .IsNot) rIsNot := op_notN.or op_isNotB
theorem isD_ok {R : Hp} {d e : D} {b : Bool} {v u : V} (h : isD d e = some b) (hv : At K R v d) (hu : At K R u e) : (u = .non ∧ b = decide (v = .non)) ∨ ∃ c, u = .bl c ∧ b = decide (v = .bl c) := by
  unfold isD at h
  split at h
  · cases h; cases hu; cases hv; exact .inl ⟨rfl, rfl⟩
  · cases h; cases hu
    refine .inl ⟨rfl, ?_⟩
    cases hv <;> first | rfl | (exfalso; simp_all)
  · cases h; cases hu; cases hv
    refine .inr ⟨_, rfl, ?_⟩
    rename_i a b
    cases a <;> cases b <;> rfl
  · cases h; cases hu
    refine .inr ⟨_, rfl, ?_⟩
    cases hv <;> first | rfl | (exfalso; simp_all)
  · cases h
theorem ox_is : OpX K isOp rIs := by
  intro d e o v u R H Q ho hs hv hu
  unfold isOp at ho
  obtain ⟨b, h1, h2⟩ := Option.map_eq_some_iff.mp ho
  subst h2
  refine ⟨rfl, fun w => ?_⟩
  rcases isD_ok h1 hv hu with ⟨e1, e2⟩ | ⟨c, e1, e2⟩
  · exact .inl ⟨e1, by rw [← e2]; exact w.2⟩
  · exact .inr ⟨c, e1, by rw [← e2]; exact w.2⟩
theorem ox_isNot : OpX K isNotOp rIsNot := by
  intro d e o v u R H Q ho hs hv hu
  unfold isNotOp at ho
  obtain ⟨b, h1, h2⟩ := Option.map_eq_some_iff.mp ho
  subst h2
  refine ⟨rfl, fun w => ?_⟩
  rcases isD_ok h1 hv hu with ⟨e1, e2⟩ | ⟨c, e1, e2⟩
  · exact .inl ⟨e1, by rw [← e2]; exact w.2⟩
  · exact .inr ⟨c, e1, by rw [← e2]; exact w.2⟩
end

/-! ### == of data -/
mutual
def D.beq : D → D → Bool
  | .non, .non => true
  | .bl a, .bl b => a == b
  | .bl a, .int j => (if a then 1 else 0) == j
  | .int i, .bl b => i == (if b then 1 else 0)
  | .int i, .int j => i == j
  | .str x, .str y => x == y
  | .lst xs, .lst ys => D.beqs xs ys
  | .tup xs, .tup ys => D.beqs xs ys
  | .set xs, .set ys => D.beqs xs ys
  | .set xs, .tup ys => D.beqs xs ys
  | .tup xs, .set ys => D.beqs xs ys
  | _, _ => false
def D.beqs : List D → List D → Bool
  | [], [] => true
  | x :: xs, y :: ys => D.beq x y && D.beqs xs ys
  | _, _ => false
end
mutual
/-- data that == walks: no dicts, sets, objects; at most n deep; texts of signs -/
def D.shp : Nat → D → Bool
  | _, .non => true
  | _, .bl _ => true
  | _, .int _ => true
  | _, .str x => PyData.strOk x
  | 0, .lst _ => false
  | 0, .tup _ => false
  | 0, .set _ => false
  | n + 1, .lst xs => D.shps n xs
  | n + 1, .tup xs => D.shps n xs
  | n + 1, .set xs => D.shps n xs
  | _, _ => false
def D.shps : Nat → List D → Bool
  | _, [] => true
  | n, x :: xs => D.shp n x && D.shps n xs
end
mutual
def D.py : D → PyData
  | .non => .none
  | .bl b => .bool b
  | .int i => .int i
  | .str x => .str x
  | .lst xs => .list (D.pys xs)
  | .tup xs => .tuple (D.pys xs)
  | .set xs => .tuple (D.pys xs)
  | _ => .none
def D.pys : List D → List PyData
  | [] => []
  | x :: xs => D.py x :: D.pys xs
end

section
variable {K : PySem.W.Frag} {R H : Hp}
mutual
theorem D.shp_ok : ∀ {n : Nat} {d : D}, D.shp n d = true → (D.py d).canLay0 = true ∧ (D.py d).depth ≤ n ∧ ∀ {v : V}, At K R v d → Dp K R v (D.py d)
  | n, .non, _ => ⟨rfl, Nat.zero_le _, fun h => by cases h; exact .non⟩
  | n, .bl b, _ => ⟨rfl, Nat.zero_le _, fun h => by cases h; exact .bl _⟩
  | n, .int i, _ => ⟨rfl, Nat.zero_le _, fun h => by cases h; exact .int _⟩
  | n, .str x, h => ⟨by simpa only [D.py, PyData.canLay0, D.shp] using h, Nat.zero_le _, fun h => by cases h; exact .str _⟩
  | 0, .lst xs, h => by simp [D.shp] at h
  | 0, .tup xs, h => by simp [D.shp] at h
  | n + 1, .lst xs, h => by
    obtain ⟨h1, h2, h3⟩ := D.shps_ok (n := n) (xs := xs) (by simpa only [D.shp] using h)
    refine ⟨by simpa only [D.py, PyData.canLay0] using h1, by simp only [D.py, PyData.depth]; omega, fun q => ?_⟩
    cases q with | lst q1 q2 => exact .lst q1 (h3 q2)
  | n + 1, .tup xs, h => by
    obtain ⟨h1, h2, h3⟩ := D.shps_ok (n := n) (xs := xs) (by simpa only [D.shp] using h)
    refine ⟨by simpa only [D.py, PyData.canLay0] using h1, by simp only [D.py, PyData.depth]; omega, fun q => ?_⟩
    cases q with | tup q1 q2 => exact .tup q1 (h3 q2)
  | 0, .set xs, h => by simp [D.shp] at h
  | n + 1, .set xs, h => by
    obtain ⟨h1, h2, h3⟩ := D.shps_ok (n := n) (xs := xs) (by simpa only [D.shp] using h)
    refine ⟨by simpa only [D.py, PyData.canLay0] using h1, by simp only [D.py, PyData.depth]; omega, fun q => ?_⟩
    cases q with | tux q1 _ _ q2 => exact .tup (.inl (.inr ⟨_, q1⟩)) (h3 q2)
  | n, .dic _, h => by cases n <;> simp [D.shp] at h
  | n, .ins _ _, h => by cases n <;> simp [D.shp] at h
  | n, .ty _, h => by cases n <;> simp [D.shp] at h
theorem D.shps_ok : ∀ {n : Nat} {xs : List D}, D.shps n xs = true → PyData.canLayAll0 (D.pys xs) = true ∧ PyData.depthAll (D.pys xs) ≤ n ∧ ∀ {vs : List V}, AtAll K R vs xs → DpAll K R vs (D.pys xs)
  | n, [], _ => ⟨rfl, Nat.zero_le _, fun h => by cases h; exact .nil⟩
  | n, x :: xs, h => by
    have h' : D.shp n x = true ∧ D.shps n xs = true := by simpa only [D.shps, Bool.and_eq_true] using h
    obtain ⟨a1, a2, a3⟩ := D.shp_ok h'.1
    obtain ⟨b1, b2, b3⟩ := D.shps_ok h'.2
    refine ⟨by simp only [D.pys, PyData.canLayAll0, a1, b1, Bool.and_self], by simp only [D.pys, PyData.depthAll]; omega, fun q => ?_⟩
    cases q with | cons q1 q2 => exact .cons (a3 q1) (b3 q2)
end
theorem shp_lst {n : Nat} {xs : List D} (h : D.shps n xs = true) : D.shp (n + 1) (.lst xs) = true := by simpa only [D.shp] using h
theorem shp_tup {n : Nat} {xs : List D} (h : D.shps n xs = true) : D.shp (n + 1) (.tup xs) = true := by simpa only [D.shp] using h
theorem shp_set {n : Nat} {xs : List D} (h : D.shps n xs = true) : D.shp (n + 1) (.set xs) = true := by simpa only [D.shp] using h
theorem D.shaped {n : Nat} {d : D} (hn : n ≤ 64) (h : D.shp n d = true) : SeqAt.shaped (D.py d) = true := by
  obtain ⟨h1, h2, _⟩ := D.shp_ok (K := []) (R := fun _ => none) h
  show ((D.py d).canLay0 && decide ((D.py d).depth ≤ 64)) = true
  rw [Bool.and_eq_true]
  exact ⟨h1, decide_eq_true (by omega)⟩
mutual
theorem D.eqv_beq : ∀ {n m : Nat} {d e : D}, D.shp n d = true → D.shp m e = true → PyData.eqv (D.py d) (D.py e) = D.beq d e
  | _, m, .non, e, _, h => by cases e <;> first | (simp only [D.py, PyData.eqv, D.beq]; done) | (cases m <;> simp [D.shp] at h)
  | _, m, .bl _, e, _, h => by cases e <;> first | (simp only [D.py, PyData.eqv, D.beq]; done) | (cases m <;> simp [D.shp] at h)
  | _, m, .int _, e, _, h => by cases e <;> first | (simp only [D.py, PyData.eqv, D.beq]; done) | (cases m <;> simp [D.shp] at h)
  | _, m, .str _, e, _, h => by cases e <;> first | (simp only [D.py, PyData.eqv, D.beq]; done) | (cases m <;> simp [D.shp] at h)
  | 0, m, .lst xs, e, h, _ => by simp [D.shp] at h
  | 0, m, .tup xs, e, h, _ => by simp [D.shp] at h
  | n + 1, m, .lst xs, e, h, h' => by
    cases e with
    | lst ys =>
      cases m with
      | zero => simp [D.shp] at h'
      | succ m => simp only [D.py, PyData.eqv, D.beq]; exact D.eqvs_beqs (n := n) (m := m) (by simpa only [D.shp] using h) (by simpa only [D.shp] using h')
    | _ => first | (simp only [D.py, PyData.eqv, D.beq]; done) | (cases m <;> simp [D.shp] at h')
  | n + 1, m, .tup xs, e, h, h' => by
    cases e with
    | tup ys =>
      cases m with
      | zero => simp [D.shp] at h'
      | succ m => simp only [D.py, PyData.eqv, D.beq]; exact D.eqvs_beqs (n := n) (m := m) (by simpa only [D.shp] using h) (by simpa only [D.shp] using h')
    | set ys =>
      cases m with
      | zero => simp [D.shp] at h'
      | succ m => simp only [D.py, PyData.eqv, D.beq]; exact D.eqvs_beqs (n := n) (m := m) (by simpa only [D.shp] using h) (by simpa only [D.shp] using h')
    | _ => first | (simp only [D.py, PyData.eqv, D.beq]; done) | (cases m <;> simp [D.shp] at h')
  | 0, m, .set xs, e, h, _ => by simp [D.shp] at h
  | n + 1, m, .set xs, e, h, h' => by
    cases e with
    | tup ys =>
      cases m with
      | zero => simp [D.shp] at h'
      | succ m => simp only [D.py, PyData.eqv, D.beq]; exact D.eqvs_beqs (n := n) (m := m) (by simpa only [D.shp] using h) (by simpa only [D.shp] using h')
    | set ys =>
      cases m with
      | zero => simp [D.shp] at h'
      | succ m => simp only [D.py, PyData.eqv, D.beq]; exact D.eqvs_beqs (n := n) (m := m) (by simpa only [D.shp] using h) (by simpa only [D.shp] using h')
    | _ => first | (simp only [D.py, PyData.eqv, D.beq]; done) | (cases m <;> simp [D.shp] at h')
  | n, _, .dic _, _, h, _ => by cases n <;> simp [D.shp] at h
  | n, _, .ins _ _, _, h, _ => by cases n <;> simp [D.shp] at h
  | n, _, .ty _, _, h, _ => by cases n <;> simp [D.shp] at h
theorem D.eqvs_beqs : ∀ {n m : Nat} {xs ys : List D}, D.shps n xs = true → D.shps m ys = true → PyData.eqvAll (D.pys xs) (D.pys ys) = D.beqs xs ys
  | _, _, [], [], _, _ => by simp only [D.pys, PyData.eqvAll, D.beqs]
  | _, _, [], _ :: _, _, _ => by simp only [D.pys, PyData.eqvAll, D.beqs]
  | _, _, _ :: _, [], _, _ => by simp only [D.pys, PyData.eqvAll, D.beqs]
  | n, m, x :: xs, y :: ys, h, h' => by
    have a : D.shp n x = true ∧ D.shps n xs = true := by simpa only [D.shps, Bool.and_eq_true] using h
    have b : D.shp m y = true ∧ D.shps m ys = true := by simpa only [D.shps, Bool.and_eq_true] using h'
    simp only [D.pys, PyData.eqvAll, D.beqs, D.eqv_beq a.1 b.1, D.eqvs_beqs a.2 b.2]
end
/-- == : scalars of one kind (or None beside others); data that == walks -/
def eqOk (d e : D) : Bool := (d.scal && e.scal && scal d.sv e.sv) || (D.shp 60 d && D.shp 60 e)
def eqOp (d e : D) : Option OR := if eqOk d e = true then some (.s (.bl (D.beq d e))) else none
def neOp (d e : D) : Option OR := if eqOk d e = true then some (.s (.bl (!D.beq d e))) else none
def rEqA (K : PySem.W.Frag) : R2 := fun x y H Q => rEq x y H Q ∨ rEqD K x y H Q
def rNeA (K : PySem.W.Frag) : R2 := fun x y H Q => rNe x y H Q ∨ rNeD K x y H Q
theorem or_eq {X : Cx} (hu : X.A.units + 64 < cLine) : OpR X (compareOp .Eq) (rEqA X.K) := op_eq.or (op_eqD hu)
theorem or_ne {X : Cx} (hu : X.A.units + 64 < cLine) : OpR X (compareOp .NotEq) (rNeA X.K) := op_ne.or (op_neD hu)
theorem scal_beq {d e : D} (h1 : d.scal = true) (h2 : e.scal = true) (h : scal d.sv e.sv = true) : decide (d.sv = e.sv) = D.beq d e := by
  cases d <;> cases e <;> first
    | (simp [D.scal] at h1; done)
    | (simp [D.scal] at h2; done)
    | (simp [D.sv, scal] at h; done)
    | (simp only [D.sv, D.beq]; first | rfl | exact dec_int | exact dec_bl | exact dec_str | (simp; done))
theorem ox_eq : OpX K eqOp (rEqA K) := by
  intro d e o v u R H Q ho hs hv hu
  unfold eqOp eqOk at ho
  split at ho
  · rename_i c
    cases ho
    refine ⟨rfl, fun w => ?_⟩
    rw [Bool.or_eq_true, Bool.and_eq_true, Bool.and_eq_true, Bool.and_eq_true] at c
    rcases c with ⟨⟨c1, c2⟩, c3⟩ | ⟨c1, c2⟩
    · have e1 := hv.scal c1
      have e2 := hu.scal c2
      subst e1 e2
      exact .inl ⟨c3, by rw [scal_beq c1 c2 c3]; exact w.2⟩
    · exact .inr ⟨_, _, (D.shp_ok c1).2.2 hv, (D.shp_ok c2).2.2 hu, D.shaped (by decide) c1, D.shaped (by decide) c2, by rw [D.eqv_beq c1 c2]; exact w.2⟩
  · cases ho
theorem ox_ne : OpX K neOp (rNeA K) := by
  intro d e o v u R H Q ho hs hv hu
  unfold neOp eqOk at ho
  split at ho
  · rename_i c
    cases ho
    refine ⟨rfl, fun w => ?_⟩
    rw [Bool.or_eq_true, Bool.and_eq_true, Bool.and_eq_true, Bool.and_eq_true] at c
    rcases c with ⟨⟨c1, c2⟩, c3⟩ | ⟨c1, c2⟩
    · have e1 := hv.scal c1
      have e2 := hu.scal c2
      subst e1 e2
      exact .inl ⟨c3, by rw [scal_beq c1 c2 c3]; exact w.2⟩
    · exact .inr ⟨_, _, (D.shp_ok c1).2.2 hv, (D.shp_ok c2).2.2 hu, D.shaped (by decide) c1, D.shaped (by decide) c2, by rw [D.eqv_beq c1 c2]; exact w.2⟩
  · cases ho

/-! ### in -/
def rInT (K : PySem.W.Frag) : R2 := fun x y H Q => ∃ d ds, Dp K H x d ∧ Dp K H y (.tuple ds) ∧ SeqAt.shaped d = true ∧ SeqAt.shaped (.tuple ds) = true ∧ Q (.bl (ds.any fun z => PyData.eqv z d)) H
def rNotInT (K : PySem.W.Frag) : R2 := fun x y H Q => ∃ d ds, Dp K H x d ∧ Dp K H y (.tuple ds) ∧ SeqAt.shaped d = true ∧ SeqAt.shaped (.tuple ds) = true ∧ Q (.bl (!ds.any fun z => PyData.eqv z d)) H
theorem op_inT {X : Cx} (hu : X.A.units + 65 < cLine) : OpR X (compareOp .In) (rInT X.K) := by
  intro pins s σ H x y v u Q I rx ry h
  obtain ⟨d, ds, hd, he, sd, se, q⟩ := h
  obtain ⟨as, r1⟩ := Dp.reads I d x v hd rx
  obtain ⟨bs, r2⟩ := Dp.reads I (.tuple ds) y u he ry
  exact SeqAt.in_tuple_reads r2 r1 (SeqAt.canLay_of_shaped se) (SeqAt.canLay_of_shaped sd) (room_in_shaped sd hu) ⟨.bl _, H, I, rfl, q⟩
theorem op_notInT {X : Cx} (hu : X.A.units + 65 < cLine) : OpR X (compareOp .NotIn) (rNotInT X.K) := by
  intro pins s σ H x y v u Q I rx ry h
  obtain ⟨d, ds, hd, he, sd, se, q⟩ := h
  obtain ⟨as, r1⟩ := Dp.reads I d x v hd rx
  obtain ⟨bs, r2⟩ := Dp.reads I (.tuple ds) y u he ry
  exact SeqAt.notIn_tuple_reads r2 r1 (SeqAt.canLay_of_shaped se) (SeqAt.canLay_of_shaped sd) (room_in_shaped sd hu) ⟨.bl _, H, I, rfl, q⟩
def rInA (K : PySem.W.Frag) : R2 := fun x y H Q => rInD K x y H Q ∨ rInT K x y H Q ∨ (∃ i j, x = .str i ∧ y = .str j ∧ Q (.bl (!(Builtin.Str.occurrences j i 0 j.length 1).isEmpty)) H) ∨
  (∃ (c : Nat) (z : Str), x = .str ⟨#[c]⟩ ∧ y = .str z ∧ Q (.bl (decide (c ∈ z.cps.toList))) H) ∨ rInDc x y H Q
def rNotInA (K : PySem.W.Frag) : R2 := fun x y H Q => rNotInD K x y H Q ∨ rNotInT K x y H Q ∨ (∃ i j, x = .str i ∧ y = .str j ∧ Q (.bl (!(!(Builtin.Str.occurrences j i 0 j.length 1).isEmpty))) H) ∨
  (∃ (c : Nat) (z : Str), x = .str ⟨#[c]⟩ ∧ y = .str z ∧ Q (.bl (!decide (c ∈ z.cps.toList))) H) ∨ rNotInDc x y H Q
theorem or_in {X : Cx} (hu : X.A.units + 65 < cLine) : OpR X (compareOp .In) (rInA X.K) := (op_inD hu).or ((op_inT hu).or (op_in_str.or (op_in_sign.or (or_inDc (by omega)))))
theorem or_notIn {X : Cx} (hu : X.A.units + 65 < cLine) : OpR X (compareOp .NotIn) (rNotInA X.K) := (op_notInD hu).or ((op_notInT hu).or (op_notin_str.or (op_notIn_sign.or (or_notInDc (by omega)))))
def D.mem (d : D) (ds : List D) : Bool := ds.any fun z => D.beq z d
def strIn (a b : Str) : Bool := match a.cps.toList with
  | [c] => decide (c ∈ b.cps.toList)
  | _ => !(Builtin.Str.occurrences b a 0 b.length 1).isEmpty
def inD : D → D → Option Bool
  | d, .lst ds => if (D.shp 60 d && D.shps 60 ds) = true then some (D.mem d ds) else none
  | d, .tup ds => if (D.shp 60 d && D.shps 60 ds) = true then some (D.mem d ds) else none
  | d, .set ds => if (D.shp 60 d && D.shps 60 ds) = true then some (D.mem d ds) else none
  | .str a, .str b => some (strIn a b)
  | c, .dic kds => if isKey c = true then some (getK kds c).isSome else none
  | _, _ => none
def inOp (d e : D) : Option OR := (inD d e).map fun b => .s (.bl b)
def notInOp (d e : D) : Option OR := (inD d e).map fun b => .s (.bl (!b))
theorem any_py {n m : Nat} {d : D} (h : D.shp n d = true) : ∀ {ds : List D}, D.shps m ds = true → (D.pys ds).any (fun z => PyData.eqv z (D.py d)) = D.mem d ds
  | [], _ => rfl
  | e :: ds, h' => by
    have a : D.shp m e = true ∧ D.shps m ds = true := by simpa only [D.shps, Bool.and_eq_true] using h'
    simp only [D.pys, List.any_cons, D.mem, D.eqv_beq a.1 h]
    congr 1
    exact any_py h a.2
theorem str_one {a : Str} {c : Nat} (h : a.cps.toList = [c]) : a = ⟨#[c]⟩ := by
  obtain ⟨⟨l⟩⟩ := a
  simp at h
  subst h
  rfl
theorem ox_in : OpX K inOp (rInA K) := by
  intro d e o v u R H Q ho hs hv hu
  obtain ⟨b, h1, h2⟩ := Option.map_eq_some_iff.mp (show (inD d e).map _ = some o from ho)
  subst h2
  refine ⟨rfl, fun w => ?_⟩
  unfold inD at h1
  split at h1
  · split at h1
    · rename_i c
      cases h1
      rw [Bool.and_eq_true] at c
      have c2 := shp_lst c.2
      exact .inl ⟨_, _, (D.shp_ok c.1).2.2 hv, (D.shp_ok c2).2.2 hu, D.shaped (by decide) c.1, D.shaped (by decide) c2, by rw [any_py c.1 c.2]; exact w.2⟩
    · cases h1
  · split at h1
    · rename_i c
      cases h1
      rw [Bool.and_eq_true] at c
      have c2 := shp_tup c.2
      exact .inr (.inl ⟨_, _, (D.shp_ok c.1).2.2 hv, (D.shp_ok c2).2.2 hu, D.shaped (by decide) c.1, D.shaped (by decide) c2, by rw [any_py c.1 c.2]; exact w.2⟩)
    · cases h1
  · split at h1
    · rename_i c
      cases h1
      rw [Bool.and_eq_true] at c
      have c2 := shp_set c.2
      exact .inr (.inl ⟨_, _, (D.shp_ok c.1).2.2 hv, (D.shp_ok c2).2.2 hu, D.shaped (by decide) c.1, D.shaped (by decide) c2, by rw [any_py c.1 c.2]; exact w.2⟩)
    · cases h1
  · cases h1; cases hv; cases hu
    have w2 := w.2
    simp only [D.sv] at w2
    unfold strIn at w2
    split at w2
    · rename_i c hc
      exact .inr (.inr (.inr (.inl ⟨c, _, by rw [str_one hc], rfl, w2⟩)))
    · exact .inr (.inr (.inl ⟨_, _, rfl, rfl, w2⟩))
  · rename_i kds
    split at h1
    · rename_i hk
      cases h1
      obtain ⟨k, rfl⟩ := key_of hk
      cases hu with | dic g1 g2 g3 =>
      have gg := get_at (k := k) g2 g3
      refine .inr (.inr (.inr (.inr ⟨_, _, k, rfl, g1, key_at rfl hv, ?_⟩)))
      have w2 := w.2
      cases hg : getK kds (kD k) with
      | none => rw [hg] at gg w2; rw [gg]; exact w2
      | some d => rw [hg] at gg w2; obtain ⟨z, e1, _⟩ := gg; rw [e1]; exact w2
    · cases h1
  · cases h1
theorem ox_notIn : OpX K notInOp (rNotInA K) := by
  intro d e o v u R H Q ho hs hv hu
  obtain ⟨b, h1, h2⟩ := Option.map_eq_some_iff.mp (show (inD d e).map _ = some o from ho)
  subst h2
  refine ⟨rfl, fun w => ?_⟩
  unfold inD at h1
  split at h1
  · split at h1
    · rename_i c
      cases h1
      rw [Bool.and_eq_true] at c
      have c2 := shp_lst c.2
      exact .inl ⟨_, _, (D.shp_ok c.1).2.2 hv, (D.shp_ok c2).2.2 hu, D.shaped (by decide) c.1, D.shaped (by decide) c2, by rw [any_py c.1 c.2]; exact w.2⟩
    · cases h1
  · split at h1
    · rename_i c
      cases h1
      rw [Bool.and_eq_true] at c
      have c2 := shp_tup c.2
      exact .inr (.inl ⟨_, _, (D.shp_ok c.1).2.2 hv, (D.shp_ok c2).2.2 hu, D.shaped (by decide) c.1, D.shaped (by decide) c2, by rw [any_py c.1 c.2]; exact w.2⟩)
    · cases h1
  · split at h1
    · rename_i c
      cases h1
      rw [Bool.and_eq_true] at c
      have c2 := shp_set c.2
      exact .inr (.inl ⟨_, _, (D.shp_ok c.1).2.2 hv, (D.shp_ok c2).2.2 hu, D.shaped (by decide) c.1, D.shaped (by decide) c2, by rw [any_py c.1 c.2]; exact w.2⟩)
    · cases h1
  · cases h1; cases hv; cases hu
    have w2 := w.2
    simp only [D.sv] at w2
    unfold strIn at w2
    split at w2
    · rename_i c hc
      exact .inr (.inr (.inr (.inl ⟨c, _, by rw [str_one hc], rfl, w2⟩)))
    · exact .inr (.inr (.inl ⟨_, _, rfl, rfl, w2⟩))
  · rename_i kds
    split at h1
    · rename_i hk
      cases h1
      obtain ⟨k, rfl⟩ := key_of hk
      cases hu with | dic g1 g2 g3 =>
      have gg := get_at (k := k) g2 g3
      refine .inr (.inr (.inr (.inr ⟨_, _, k, rfl, g1, key_at rfl hv, ?_⟩)))
      have w2 := w.2
      cases hg : getK kds (kD k) with
      | none => rw [hg] at gg w2; rw [gg]; exact w2
      | some d => rw [hg] at gg w2; obtain ⟨z, e1, _⟩ := gg; rw [e1]; exact w2
    · cases h1
  · cases h1
end
end Den

/-! Expressions and tests, by their meanings. -/
namespace Den
open PySem PySem.Spec PyProof.Rows L2

section
variable {α β γ δ : Type} {K : PySem.W.Frag} {mg : Str → Option Value} {W : WX} {rel : RelT α β} {rel' : RelT γ δ} {pu pa pb pc pd : Bool} {R R1 H H1 : Hp} {F F1 G : List Addr} {ρ ρ1 : Rho} {σ : L2.St} {Q : VK} {d : D} {ds : List D} {vs : List V} {p : Addr}

theorem PostR.flag {r : Res γ} {Q' : δ → Hp → Prop} (h : PostR K mg W rel' pc R H F σ Q' r) (e : pc = true → pa = true) : PostR K mg W rel' pa R H F σ Q' r := by
  cases r with
  | ok ρ' a => exact fun v H' R' F' Fv st q n s p => h v H' R' F' Fv st q n s fun z => p (e z)
  | ex ρ' x => exact h
theorem PostR.rb {Q : Bool → Hp → Prop} {b : Bool} (hQ : PostR K mg W RB pc R H F σ Q (.ok ρ b)) (hS : Sta K R H ρ σ F) : Q b H :=
  hQ b H R F [] hS ⟨rfl, rfl⟩ (by rw [List.append_nil]; exact hS.nd) (by rw [List.append_nil]; exact .refl) fun _ => .refl
/-- what is owned by a dropped value -/
theorem PostR.drop {r : Res γ} {Q' : δ → Hp → Prop} (h : PostR K mg W rel' pc R H (F ++ G) σ Q' r) : PostR K mg W rel' pc R H F σ Q' r :=
  h.step (.less .refl fun x hx => List.mem_append_left _ hx) fun _ => .refl
/-- go on with a further piece -/
theorem goOn {den : Den γ} {r : Res γ} {Q' : δ → Hp → Prop} (hS : Sta K R H ρ σ F) (e : den ρ = some r) (hQ : PostR K mg W rel' pc R H F σ Q' r) (hp : pc = true → pa = true) : tG K mg W rel' pa den σ H Q' :=
  ⟨ρ, R, F, r, hS, e, hQ.flag hp⟩

/-! ### tests -/
def dTst (da : Den DV) : Den Bool := dBind da fun a => match a.2 with
  | .bl b => dRet b
  | _ => dFail
theorem tst_ok {da : Den DV} {Q : Bool → Hp → Prop} (h : tT K mg W pa (dTst da) σ H Q) : tTest (tE K mg W pa da) σ H Q := by
  obtain ⟨ρ, R, F, res, hS, hden, hQ⟩ := h
  refine tG_bind hS hden hQ fun ρ1 a v H1 R1 F1 G1 e st q n s p => ?_
  obtain ⟨m, d⟩ := a
  cases d with
  | bl b =>
    cases e
    have hv := (q.at st.sub).scal rfl
    exact ⟨b, hv, (hQ.step s p).drop.rb st⟩
  | _ => cases e
def truthD : D → Option Bool
  | .non => some false
  | .bl b => some b
  | .int i => some (i != 0)
  | .str x => if x.length ≤ sizeLine then some ((x.length : Int) != 0) else none
  | .lst xs => some (!xs.isEmpty)
  | .tup xs => some (!xs.isEmpty)
  | .set xs => some (!xs.isEmpty)
  | .dic kds => some (!kds.isEmpty)
  | _ => none
theorem AtAll.isEmpty : ∀ {vs : List V} {ds : List D}, AtAll K R vs ds → vs.isEmpty = ds.isEmpty
  | _, _, .nil => rfl
  | _, _, .cons _ _ => rfl
/-- truth, of a dict that is locked, too -/
def TruW (K : PySem.W.Frag) (x : V) (H : Hp) (k : Bool) : Prop := TruV K x H k ∨ ∃ p kvs, x = .ref p ∧ Rd H p (.dK kvs) ∧ k = !kvs.isEmpty
theorem truW_ok {X : Cx} : TruR X (fun x H Q => ∃ k, TruW X.K x H k ∧ Q k H) := by
  intro pins s σ H x v Q I rx h
  obtain ⟨k, e, q⟩ := h
  rcases e with e | ⟨p, kvs, rfl, e, rfl⟩
  · exact tru_ok pins s σ H x v Q I rx ⟨k, e, q⟩
  · cases rx
    have hl := line63
    have hz0 : sizeLine = 16777216 := sizeLine_eq
    obtain ⟨hz, hS, vs, r, m⟩ := dk_rd I.hok e
    have hlen : kvs.length = vs.length := Paired.length r
    exact wpAny_truthy_dict hS m (by omega) ⟨H, I.tok _, by rw [isEmpty_kv r]; exact q⟩
theorem pt_truthW {X : Cx} {a : Expr} {ta : TE} (ha : PE X a ta) (he : ∀ whole, isTrue a X.env whole = (do let v ← whole; standAt a.pos; holding [v] (truthy v))) :
    PT X a (fun σ H Q => ta σ H fun x H' => ∃ k, TruW X.K x H' k ∧ Q k H') := by
  refine ⟨fun pins s σ H Q I h => ?_⟩
  exact isTrue_plain (thn (ha.run pins s σ H _ I h) fun v s1 ⟨x, H1, I1, r1, q1⟩ => truW_ok pins s1 σ H1 x v Q I1 r1 q1) (he _)
theorem truth_at {v : V} {k : Bool} (h : truthD d = some k) (q : At K H v d) : TruW K v H k := by
  cases q with
  | non => cases h; exact .inl rfl
  | bl => cases h; exact .inl rfl
  | int => cases h; exact .inl rfl
  | str x =>
    unfold truthD at h
    split at h <;> simp_all [TruW, TruV]
  | ty => cases h
  | ins => cases h
  | lst h1 h2 => cases h; exact .inl (.inl ⟨_, h1, by rw [h2.isEmpty]⟩)
  | tup h1 h2 => cases h; exact .inl (.inr (.inl ⟨_, h1, by rw [h2.isEmpty]⟩))
  | tux h1 _ _ h2 => cases h; exact .inl (.inr (.inl ⟨_, .inl (.inr ⟨_, h1⟩), by rw [h2.isEmpty]⟩))
  | dic h1 h2 h3 =>
    cases h
    refine .inr ⟨_, _, rfl, h1, ?_⟩
    have := (dk_len h2 h3).2.2
    rename_i ks xs kds
    cases kds with
    | nil => rw [List.eq_nil_of_length_eq_zero this]; rfl
    | cons => cases z : ks.zip xs with
      | nil => rw [z] at this; simp at this
      | cons => rfl
def dTruth (da : Den DV) : Den Bool := dBind da fun a => dLift (truthD a.2) dRet
theorem truth_ok {da : Den DV} {Q : Bool → Hp → Prop} (h : tT K mg W pa (dTruth da) σ H Q) : (fun σ H Q => tE K mg W pa da σ H fun x H' => ∃ k, TruW K x H' k ∧ Q k H') σ H Q := by
  obtain ⟨ρ, R, F, res, hS, hden, hQ⟩ := h
  refine tG_bind hS hden hQ fun ρ1 a v H1 R1 F1 G1 e st q n s p => ?_
  unfold dLift at e
  split at e
  · cases e
  · rename_i k e1
    cases e
    exact ⟨k, truth_at e1 (q.at st.sub), (hQ.step s p).drop.rb st⟩
def dAnd (da db : Den Bool) : Den Bool := dBind da fun c => if c = true then db else dRet false
def dOr (da db : Den Bool) : Den Bool := dBind da fun c => if c = true then dRet true else db
def dNot (da : Den Bool) : Den Bool := dBind da fun c => dRet (!c)
theorem and_ok {da db : Den Bool} {Q : Bool → Hp → Prop} (h : tT K mg W (pa && pb) (dAnd da db) σ H Q) : tAnd (tT K mg W pa da) (tT K mg W pb db) σ H Q := by
  obtain ⟨ρ, R, F, res, hS, hden, hQ⟩ := h
  refine tG_bind hS hden hQ fun ρ1 a v H1 R1 F1 G1 e st q n s p => ?_
  obtain ⟨rfl, rfl⟩ := q
  have hQ1 := (hQ.step s fun z => p (Bool.and_eq_true_iff.mp z).1).drop
  cases v with
  | true => exact goOn st e hQ1 fun z => (Bool.and_eq_true_iff.mp z).2
  | false => cases e; exact hQ1.rb st
theorem or_ok {da db : Den Bool} {Q : Bool → Hp → Prop} (h : tT K mg W (pa && pb) (dOr da db) σ H Q) : tOr (tT K mg W pa da) (tT K mg W pb db) σ H Q := by
  obtain ⟨ρ, R, F, res, hS, hden, hQ⟩ := h
  refine tG_bind hS hden hQ fun ρ1 a v H1 R1 F1 G1 e st q n s p => ?_
  obtain ⟨rfl, rfl⟩ := q
  have hQ1 := (hQ.step s fun z => p (Bool.and_eq_true_iff.mp z).1).drop
  cases v with
  | false => exact goOn st e hQ1 fun z => (Bool.and_eq_true_iff.mp z).2
  | true => cases e; exact hQ1.rb st
theorem not_ok {da : Den Bool} {Q : Bool → Hp → Prop} (h : tT K mg W pa (dNot da) σ H Q) : tNot (tT K mg W pa da) σ H Q := by
  obtain ⟨ρ, R, F, res, hS, hden, hQ⟩ := h
  refine tG_bind hS hden hQ fun ρ1 a v H1 R1 F1 G1 e st q n s p => ?_
  obtain ⟨rfl, rfl⟩ := q
  cases e
  exact (hQ.step s p).drop.rb st
/-- a if t else b -/
def dIf {α : Type} (dc : Den Bool) (da db : Den α) : Den α := dBind dc fun c => if c = true then da else db
theorem ifE_ok {dc : Den Bool} {da db : Den DV} (h : tE K mg W (pc && (pa && pb)) (dIf dc da db) σ H Q) : tIf (tT K mg W pc dc) (tE K mg W pa da) (tE K mg W pb db) σ H Q := by
  obtain ⟨ρ, R, F, res, hS, hden, hQ⟩ := h
  refine tG_bind hS hden hQ fun ρ1 a v H1 R1 F1 G1 e st q n s p => ?_
  obtain ⟨rfl, rfl⟩ := q
  have hQ1 := (hQ.step s fun z => p (Bool.and_eq_true_iff.mp z).1).drop
  cases v with
  | true => exact goOn st e hQ1 fun z => (Bool.and_eq_true_iff.mp (Bool.and_eq_true_iff.mp z).2).1
  | false => exact goOn st e hQ1 fun z => (Bool.and_eq_true_iff.mp (Bool.and_eq_true_iff.mp z).2).2
/-- and, or, not as values: bools, but for the last -/
def dAndV (da db : Den DV) : Den DV := dBind da fun a => match a.2 with
  | .bl true => db
  | .bl false => dRet (.sh .im, .bl false)
  | _ => dFail
def dOrV (da db : Den DV) : Den DV := dBind da fun a => match a.2 with
  | .bl true => dRet (.sh .im, .bl true)
  | .bl false => db
  | _ => dFail
def dNotV (da : Den DV) : Den DV := dBind da fun a => match a.2 with
  | .bl b => dRet (.sh .im, .bl (!b))
  | _ => dFail
theorem andV_ok {da db : Den DV} (h : tE K mg W (pa && pb) (dAndV da db) σ H Q) : tAndV (tE K mg W pa da) (tE K mg W pb db) σ H Q := by
  obtain ⟨ρ, R, F, res, hS, hden, hQ⟩ := h
  refine tG_bind hS hden hQ fun ρ1 a v H1 R1 F1 G1 e st q n s p => ?_
  have hQ1 := (hQ.step s fun z => p (Bool.and_eq_true_iff.mp z).1).drop
  obtain ⟨m, d⟩ := a
  cases d with
  | bl b =>
    have hv := (q.at st.sub).scal rfl
    cases b with
    | true => exact ⟨true, hv, goOn st e hQ1 fun z => (Bool.and_eq_true_iff.mp z).2⟩
    | false => cases e; exact ⟨false, hv, hQ1.scal st rfl⟩
  | _ => cases e
theorem orV_ok {da db : Den DV} (h : tE K mg W (pa && pb) (dOrV da db) σ H Q) : tOrV (tE K mg W pa da) (tE K mg W pb db) σ H Q := by
  obtain ⟨ρ, R, F, res, hS, hden, hQ⟩ := h
  refine tG_bind hS hden hQ fun ρ1 a v H1 R1 F1 G1 e st q n s p => ?_
  have hQ1 := (hQ.step s fun z => p (Bool.and_eq_true_iff.mp z).1).drop
  obtain ⟨m, d⟩ := a
  cases d with
  | bl b =>
    have hv := (q.at st.sub).scal rfl
    cases b with
    | false => exact ⟨false, hv, goOn st e hQ1 fun z => (Bool.and_eq_true_iff.mp z).2⟩
    | true => cases e; exact ⟨true, hv, hQ1.scal st rfl⟩
  | _ => cases e
theorem notV_ok {da : Den DV} (h : tE K mg W pa (dNotV da) σ H Q) : tNotV (tE K mg W pa da) σ H Q := by
  obtain ⟨ρ, R, F, res, hS, hden, hQ⟩ := h
  refine tG_bind hS hden hQ fun ρ1 a v H1 R1 F1 G1 e st q n s p => ?_
  obtain ⟨m, d⟩ := a
  cases d with
  | bl b =>
    have hv := (q.at st.sub).scal rfl
    cases e
    exact ⟨b, hv, (hQ.step s p).drop.scal st rfl⟩
  | _ => cases e
/-- a op b op' c, of scalars -/
theorem lift_some {o : Option α} {f : α → Den γ} {r : Res γ} (h : dLift o f ρ = some r) : ∃ a, o = some a ∧ f a ρ = some r := by
  unfold dLift at h
  split at h
  · cases h
  · exact ⟨_, rfl, h⟩
def boolOf : Option OR → Option Bool
  | some (.s (.bl k)) => some k
  | _ => none
theorem boolOf_some {o : Option OR} {k : Bool} (h : boolOf o = some k) : o = some (.s (.bl k)) := by
  unfold boolOf at h
  split at h <;> first | (cases h; rfl) | cases h
def dChain (op op' : D → D → Option OR) (da db dc : Den DV) : Den DV := dBind da fun a => if a.2.scal = true then dBind db fun b => if b.2.scal = true then dLift (boolOf (op a.2 b.2)) fun k => if k = true then
  dBind dc fun c => if c.2.scal = true then dLift (boolOf (op' b.2 c.2)) fun k => dRet (.sh .im, .bl k) else dFail else dRet (.sh .im, .bl false) else dFail else dFail
theorem chain_ok {op op' : D → D → Option OR} {r r' : R2} (hr : OpX K op r) (hr' : OpX K op' r') {da db dc : Den DV} (h : tE K mg W (pa && (pb && pc)) (dChain op op' da db dc) σ H Q) : tChain r r' (tE K mg W pa da) (tE K mg W pb db) (tE K mg W pc dc) σ H Q := by
  obtain ⟨ρ, R, F, res, hS, hden, hQ⟩ := h
  refine tG_bind hS hden hQ fun ρ1 a v H1 R1 F1 G1 e st q n s p => ?_
  have hQ1 := (hQ.step s fun z => p (Bool.and_eq_true_iff.mp z).1).drop
  by_cases ha : a.2.scal = true
  rotate_left
  · rw [if_neg ha] at e; cases e
  rw [if_pos ha] at e
  have hv := (q.at st.sub).scal ha
  refine tG_bind st e hQ1 fun ρ2 b u H2 R2 F2 G2 e2 st2 q2 n2 s2 p2 => ?_
  have hQ2 := (hQ1.step s2 fun z => p2 (Bool.and_eq_true_iff.mp (Bool.and_eq_true_iff.mp z).2).1).drop
  by_cases hb : b.2.scal = true
  rotate_left
  · rw [if_neg hb] at e2; cases e2
  rw [if_pos hb] at e2
  have hu := (q2.at st2.sub).scal hb
  obtain ⟨k, hk, e2⟩ := lift_some e2
  have ho := boolOf_some hk
  obtain ⟨_, hx⟩ := hr _ _ _ v u R2 H2 (fun z H3 => ∃ k, z = .bl k ∧ (if k = true then tE K mg W pc dc σ H3 fun w' H4 => r' u w' H4 Q else Q (.bl false) H3)) ho st2.sub (by rw [hv]; exact .sv ha) (by rw [hu]; exact .sv hb)
  refine hx ⟨rfl, k, rfl, ?_⟩
  cases k with
  | false =>
    rw [if_neg Bool.false_ne_true] at e2 ⊢
    cases e2
    exact hQ2.scal st2 rfl
  | true =>
    rw [if_pos rfl] at e2 ⊢
    refine tG_bind st2 e2 hQ2 fun ρ3 c w H3 R3 F3 G3 e3 st3 q3 n3 s3 p3 => ?_
    have hQ3 := (hQ2.step s3 fun z => p3 (Bool.and_eq_true_iff.mp (Bool.and_eq_true_iff.mp z).2).2).drop
    by_cases hc : c.2.scal = true
    rotate_left
    · rw [if_neg hc] at e3; cases e3
    rw [if_pos hc] at e3
    have hw := (q3.at st3.sub).scal hc
    obtain ⟨k', hk', e3⟩ := lift_some e3
    cases e3
    obtain ⟨h1, hx'⟩ := hr' _ _ _ u w R3 H3 Q (boolOf_some hk') st3.sub (by rw [hu]; exact .sv hb) (by rw [hw]; exact .sv hc)
    exact hx' (hQ3.or st3 h1)

/-! ### places -/
def idxD : D → D → Option D
  | .lst ds, .int i => atI ds i
  | .tup ds, .int i => atI ds i
  | .set ds, .int i => atI ds i
  | .str z, .int i => if z.length ≤ sizeLine then (atI z.cps.toList i).map fun c => .str ⟨#[c]⟩ else none
  | .dic kds, c => getK kds c
  | _, _ => none
theorem AtAll.atI {i : Int} (h : AtAll K R vs ds) (e : atI ds i = some d) : ∃ v, L2.atI vs i = some v ∧ At K R v d := by
  unfold L2.atI at e ⊢
  rw [h.length]
  obtain ⟨j, h1, h2⟩ := Option.bind_eq_some_iff.mp e
  obtain ⟨v, h3, h4⟩ := h.get h2
  exact ⟨v, by rw [h1]; exact h3, h4⟩
theorem idx_ok {G : Hp} {v u : V} {c : D} (g : Sub G H) (h : idxD d c = some ds') (hv : At K G v d) (hu : At K G u c) : ∃ w, At K G w ds' ∧ (Q w H → rIx2 K v u H Q) := by
  unfold idxD at h
  split at h
  · cases hu
    cases hv with | lst h1 h2 =>
    obtain ⟨w, e1, e2⟩ := h2.atI h
    exact ⟨w, e2, fun q => .inl (.inl ⟨_, _, _, w, rfl, rfl, g.sqL h1, e1, q⟩)⟩
  · cases hu
    cases hv with | tup h1 h2 =>
    obtain ⟨w, e1, e2⟩ := h2.atI h
    exact ⟨w, e2, fun q => .inl (.inr (.inl ⟨_, _, _, w, rfl, rfl, g.sqT h1, e1, q⟩))⟩
  · cases hu
    cases hv with | tux h1 h3 h4 h2 =>
    obtain ⟨w, e1, e2⟩ := h2.atI h
    exact ⟨w, e2, fun q => .inl (.inr (.inl ⟨_, _, _, w, rfl, rfl, .inl (.inr ⟨_, g _ _ h1⟩), e1, q⟩))⟩
  · split at h
    · obtain ⟨c, h1, h2⟩ := Option.map_eq_some_iff.mp h
      subst h2
      cases hu; cases hv
      exact ⟨_, .str _, fun q => .inl (.inr (.inr ⟨_, _, c, rfl, rfl, by assumption, h1, q⟩))⟩
    · cases h
  · obtain ⟨k, rfl⟩ := key_of (getK_key h)
    cases hv with | dic h1 h2 h3 =>
    have := get_at (k := k) h2 h3
    rw [h] at this
    obtain ⟨w, e1, e2⟩ := this
    exact ⟨w, e2, fun q => .inr ⟨_, _, k, w, rfl, Sub.rd g h1, key_at rfl hu, e1, q⟩⟩
  · cases h
/-- an item: of what is lent, it is lent, too -/
def itemMd (a : DV) (d : D) : DV := if (isBo a && !d.scal) = true then (.bo, d) else (.sh .im, d)
def dIdx (pb : Bool) (da db : Den DV) : Den DV := dBind da fun a => if (isBo a && !pb) = true then dFail else dBind db fun b => dLift (if isBo b = true then none else idxD a.2 b.2) fun d => dRet (itemMd a d)
theorem index_ok {da db : Den DV} (h : tE K mg W (pa && pb) (dIdx pb da db) σ H Q) : tOp (rIx2 K) (tE K mg W pa da) (tE K mg W pb db) σ H Q := by
  obtain ⟨ρ, R, F, res, hS, hden, hQ⟩ := h
  refine two (g := fun a => isBo a && !pb) hS hden hQ (fun z => Bool.and_eq_true_iff.mp z) (fun a z w => ?_) fun ρ2 a b v u H2 R2 F2 G1 G2 ga e st q q2 n hQ2 => ?_
  · rw [w] at z; simpa using z
  · unfold dLift at e
    split at e
    · cases e
    · rename_i d' e1
      cases e
      split at e1
      · cases e1
      rename_i hb
      unfold itemMd at hQ2
      cases ha : isBo a with
      | false =>
        rw [ha, if_neg (by simp)] at hQ2
        have st' := st.freeze (nd_out n)
        have q' := (q.freeze st.sub (not_bo ha)).mono (ext_mono (G2 := G1 ++ G2) st.sub fun x hx => List.mem_append_left _ hx)
        have q2' := (q2.freeze st.sub (not_bo (ff_of hb))).mono (ext_mono (G2 := G1 ++ G2) st.sub fun x hx => List.mem_append_right _ hx)
        obtain ⟨w, h1, h2⟩ := idx_ok (Q := Q) st'.sub e1 q' q2'
        exact h2 ((hQ2.step (.freeze st.sub) fun _ => .refl).im st' h1)
      | true =>
        obtain ⟨w, h1, h2⟩ := idx_ok (Q := Q) .refl e1 (q.at st.sub) (q2.at st.sub)
        refine h2 ?_
        rw [ha] at hQ2
        cases hs : d'.scal with
        | true =>
          rw [hs, if_neg (by simp)] at hQ2
          rw [h1.scal hs]
          exact hQ2.drop.scal st hs
        | false =>
          rw [hs, if_pos (by simp)] at hQ2
          exact hQ2.drop w H2 R2 F2 [] st ⟨rfl, h1⟩ (by rw [List.append_nil]; exact st.nd) (by rw [List.append_nil]; exact .refl) fun _ => .refl

/-! ### slices -/
def RO : RelT (Option Int) (Option Int) := fun _ _ a v F => v = a ∧ F = []
abbrev tO (K : PySem.W.Frag) (mg : Str → Option Value) (W : WX) (pu : Bool) (den : Den (Option Int)) : TO := tG K mg W RO pu den
def dNoPart : Den (Option Int) := dRet none
def dPart (da : Den DV) : Den (Option Int) := dBind da fun a => match a.2 with
  | .int i => dRet (some i)
  | _ => dFail
theorem PostR.ro {Q : Option Int → Hp → Prop} {b : Option Int} (hQ : PostR K mg W RO pc R H F σ Q (.ok ρ b)) (hS : Sta K R H ρ σ F) : Q b H :=
  hQ b H R F [] hS ⟨rfl, rfl⟩ (by rw [List.append_nil]; exact hS.nd) (by rw [List.append_nil]; exact .refl) fun _ => .refl
theorem noPart_ok {Q : Option Int → Hp → Prop} (h : tO K mg W true dNoPart σ H Q) : tNoPart σ H Q := by
  obtain ⟨ρ, R, F, res, hS, hden, hQ⟩ := h
  cases hden
  exact hQ.ro hS
theorem part_ok {da : Den DV} {Q : Option Int → Hp → Prop} (h : tO K mg W pa (dPart da) σ H Q) : tPart (tE K mg W pa da) σ H Q := by
  obtain ⟨ρ, R, F, res, hS, hden, hQ⟩ := h
  refine tG_bind hS hden hQ fun ρ1 a v H1 R1 F1 G1 e st q n s p => ?_
  obtain ⟨m, d⟩ := a
  cases d with
  | int i =>
    cases e
    exact ⟨i, (q.at st.sub).scal rfl, (hQ.step s p).drop.ro st⟩
  | _ => cases e
def cutD {α : Type} (xs : List α) (lo hi : Option Int) : List α := (xs.drop (HT.sIx xs.length 0 lo)).take (HT.sIx xs.length xs.length hi - HT.sIx xs.length 0 lo)
def sliceOp (d : D) (lo hi : Option Int) : Option OR := match d with
  | .lst ds => some (.l (cutD ds lo hi))
  | .tup ds => some (.a (.tup (cutD ds lo hi)))
  | .str z => if z.length ≤ sizeLine then some (.s (.str (cutS z lo hi))) else none
  | _ => none
def rSl (K : PySem.W.Frag) : V → Option Int → Option Int → Hp → VK → Prop := fun x lo hi H Q => rSlL K x lo hi H Q ∨ rSlA K x lo hi H Q ∨ rSlS x lo hi H Q
theorem sl_any {X : Cx} : SlR X (rSl X.K) := sl_list.or (sl_tupA.or sl_str)
theorem cut_at {lo hi : Option Int} (h : AtAll K R vs ds) : AtAll K R (cutV vs lo hi) (cutD ds lo hi) := by
  unfold cutV cutD
  rw [h.length]
  exact (h.drop _).take _
theorem slice_ok {lo hi : Option Int} {o : OR} {v : V} (ho : sliceOp d lo hi = some o) (g : Sub R H) (hv : At K (if o.lent = true then H else R) v d) : o.okS = true ∧ (o.wants K R H Q → rSl K v lo hi H Q) := by
  unfold sliceOp at ho
  split at ho
  · cases ho
    cases hv with | lst h1 h2 =>
    exact ⟨rfl, fun w => .inl ⟨_, _, rfl, g.sqL h1, fun p hp => w _ p (cut_at h2) hp⟩⟩
  · rename_i es
    cases ho
    cases hv with | @tup a xs _ h1 h2 =>
    refine ⟨rfl, fun w => .inr (.inl ⟨_, xs, rfl, g.sqT h1, fun e => ?_, fun _ p hp => w.2 _ _ p rfl (cut_at h2) hp⟩)⟩
    have e' : cutD es lo hi = es := by
      unfold cutD
      rw [← h2.length, e.1, e.2]
      simp [h2.length]
    exact w.1 _ (by rw [e']; exact .tup h1 h2)
  · split at ho
    · cases ho
      cases hv
      exact ⟨rfl, fun w => .inr (.inr ⟨_, rfl, by assumption, w.2⟩)⟩
    · cases ho
  · cases ho
def dSl (pl : Bool) (da : Den DV) (dl dh : Den (Option Int)) : Den DV := dBind da fun a => if (isBo a && !pl) = true then dFail else dBind dl fun lo => dBind dh fun hi => dLift (sliceOp a.2 lo hi) fun o => if (!o.lent && isBo a) = true then dFail else dRet o.val
theorem sl_ok {da : Den DV} {dl dh : Den (Option Int)} (h : tE K mg W (pa && (pb && pc)) (dSl (pb && pc) da dl dh) σ H Q) : tSl (rSl K) (tE K mg W pa da) (tO K mg W pb dl) (tO K mg W pc dh) σ H Q := by
  obtain ⟨ρ, R, F, res, hS, hden, hQ⟩ := h
  refine tG_bind hS hden hQ fun ρ1 a v H1 R1 F1 G1 e st q n s p => ?_
  cases hga : (isBo a && !(pb && pc)) with
  | true => rw [if_pos hga] at e; cases e
  | false =>
    rw [if_neg (by rw [hga]; exact Bool.false_ne_true)] at e
    have hbo : isBo a = true → pb = true ∧ pc = true := fun z => by
      rw [z] at hga
      cases pb <;> cases pc <;> first | exact ⟨rfl, rfl⟩ | cases hga
    have hQ1 := (hQ.step s fun z => p (Bool.and_eq_true_iff.mp z).1).drop
    refine tG_bind st e hQ1 fun ρ2 lo v2 H2 R2 F2 G2 e2 st2 q2 n2 s2 p2 => ?_
    obtain ⟨rfl, rfl⟩ := q2
    rw [List.append_nil] at s2
    have hQ2 := hQ1.step s2 fun z => p2 (Bool.and_eq_true_iff.mp (Bool.and_eq_true_iff.mp z).2).1
    refine tG_bind st2 e2 hQ2 fun ρ3 hi v3 H3 R3 F3 G3 e3 st3 q3 n3 s3 p3 => ?_
    obtain ⟨rfl, rfl⟩ := q3
    rw [List.append_nil] at s3
    have hQ3 := hQ2.step s3 fun z => p3 (Bool.and_eq_true_iff.mp (Bool.and_eq_true_iff.mp z).2).2
    obtain ⟨vv, hd⟩ := Frm.vok.behind q n (s2.trans s3) fun z => (p2 (hbo z).1).trans (p3 (hbo z).2)
    unfold dLift at e3
    split at e3
    · cases e3
    · rename_i o e4
      dsimp only at e3
      split at e3
      · cases e3
      · rename_i hb
        cases e3
        cases hl : o.lent with
        | true =>
          have hx := slice_ok (Q := Q) e4 st3.sub (by rw [if_pos hl]; exact vv.at st3.sub)
          exact hx.2 (hQ3.or st3 hx.1)
        | false =>
          rw [hl] at hb
          have st' := st3.freeze (G := G1) hd
          have hx := slice_ok (Q := Q) e4 st'.sub (by rw [hl]; exact vv.freeze st3.sub (not_bo (ff_of hb)))
          have hQ4 := PostR.step (R1 := ext R3 H3 G1) (H1 := H3) (F1 := F3) hQ (by
            refine Step.trans (F1 := F3 ++ G1) ⟨((s.less fun x hx => List.mem_append_left _ hx).trans (s2.trans s3)).keep, ((s.less fun x hx => List.mem_append_left _ hx).trans (s2.trans s3)).grow, ((s.less fun x hx => List.mem_append_left _ hx).trans (s2.trans s3)).rnew, fun x hx => ?_, ((s.less fun x hx => List.mem_append_left _ hx).trans (s2.trans s3)).there⟩ (.freeze st3.sub)
            rcases List.mem_append.mp hx with hx | hx
            · exact ((s.less fun x hx => List.mem_append_left _ hx).trans (s2.trans s3)).fnew x hx
            · exact s.fnew x (List.mem_append_right _ hx)) fun z => (p (Bool.and_eq_true_iff.mp z).1).trans ((p2 (Bool.and_eq_true_iff.mp (Bool.and_eq_true_iff.mp z).2).1).trans (p3 (Bool.and_eq_true_iff.mp (Bool.and_eq_true_iff.mp z).2).2))
          exact hx.2 (hQ4.or st' hx.1)
end
end Den

/-! Statements, by their meanings. -/
namespace Den
open PySem PySem.Spec PyProof.Rows L2

/-- how a statement ends -/
inductive Fl where
  | nx (ρ : Rho) | rt (ρ : Rho) (a : DV) | bk (ρ : Rho) | ct (ρ : Rho) | ex (ρ : Rho) (x : Exn)
abbrev DenS := Rho → Option Fl
/-- a target: what it does to the names with a plain value -/
abbrev DenG := D → Rho → Option Rho
/-- names other than those of A hold what they held -/
def Kept (A : List Nat) (σ σ' : L2.St) : Prop := σ'.length = σ.length ∧ ∀ i, i ∉ A → σ'[i]? = σ[i]?
theorem Kept.refl {A : List Nat} {σ : L2.St} : Kept A σ σ := ⟨rfl, fun _ _ => rfl⟩
theorem Kept.trans {A : List Nat} {σ σ' σ'' : L2.St} (a : Kept A σ σ') (b : Kept A σ' σ'') : Kept A σ σ'' := ⟨b.1.trans a.1, fun i h => (b.2 i h).trans (a.2 i h)⟩
theorem Kept.set {A : List Nat} {σ : L2.St} {i : Nat} {v : Option V} (h : i ∈ A) : Kept A σ (σ.set i v) := ⟨List.length_set .., fun j hj => by
  rw [List.getElem?_set_ne]
  rintro rfl
  exact hj h⟩

section
variable (K : PySem.W.Frag) (mg : Str → Option Value) (W : WX) (A : List Nat)
def PostS (R H : Hp) (F : List Addr) (σ : L2.St) (D : Ends) : Fl → Prop
  | .nx ρ' => ∀ σ' H' R' F', Sta K R' H' ρ' σ' F' → Kept A σ σ' → Step R H F R' H' F' → D.nx σ' H'
  | .bk ρ' => ∀ σ' H' R' F', Sta K R' H' ρ' σ' F' → Kept A σ σ' → Step R H F R' H' F' → D.bk σ' H'
  | .ct ρ' => ∀ σ' H' R' F', Sta K R' H' ρ' σ' F' → Kept A σ σ' → Step R H F R' H' F' → D.ct σ' H'
  | .rt ρ' a => ∀ σ' v H' R' F' Fv, Sta K R' H' ρ' σ' F' → Kept A σ σ' → VOk K R' H' a v Fv → (F' ++ Fv).Nodup → Step R H F R' H' (F' ++ Fv) → D.rt v H'
  | .ex ρ' x => ∀ c dx σ' H' R' F', Sta K R' H' ρ' σ' F' → Kept A σ σ' → XOk K mg R' x c dx → Step R H F R' H' F' → W c dx σ' H'
def tS (den : DenS) : TS := fun D σ H => ∃ ρ R F o, Sta K R H ρ σ F ∧ den ρ = some o ∧ PostS K mg W A R H F σ D o
def gOf (tg : DenG) : TG := fun v σ H Q => ∃ ρ R F d ρ', Sta K R H ρ σ F ∧ At K R v d ∧ tg d ρ = some ρ' ∧ ∀ σ' F', Sta K R H ρ' σ' F' → Kept A σ σ' → (∀ a ∈ F', a ∈ F) → Q σ' H
def gsOf (tg : List D → Rho → Option Rho) : TGs := fun vs σ H Q => ∃ ρ R F ds ρ', Sta K R H ρ σ F ∧ AtAll K R vs ds ∧ tg ds ρ = some ρ' ∧ ∀ σ' F', Sta K R H ρ' σ' F' → Kept A σ σ' → (∀ a ∈ F', a ∈ F) → Q σ' H
end

section
variable {α β γ δ : Type} {K : PySem.W.Frag} {mg : Str → Option Value} {W : WX} {A : List Nat} {rel : RelT α β} {rel' : RelT γ δ} {pu pa pb pc pd : Bool} {R R1 H H1 : Hp} {F F1 G : List Addr} {ρ ρ1 : Rho} {σ σ1 : L2.St} {Q : VK} {d : D} {ds : List D} {vs : List V} {p : Addr} {T : Ends}

theorem PostS.step {o : Fl} (h : PostS K mg W A R H F σ T o) (s : Step R H F R1 H1 F1) (k : Kept A σ σ1) : PostS K mg W A R1 H1 F1 σ1 T o := by
  cases o with
  | nx ρ' => exact fun σ' H' R' F' st q s2 => h σ' H' R' F' st (k.trans q) (s.trans s2)
  | bk ρ' => exact fun σ' H' R' F' st q s2 => h σ' H' R' F' st (k.trans q) (s.trans s2)
  | ct ρ' => exact fun σ' H' R' F' st q s2 => h σ' H' R' F' st (k.trans q) (s.trans s2)
  | rt ρ' a => exact fun σ' v H' R' F' Fv st q w n s2 => h σ' v H' R' F' Fv st (k.trans q) w n (s.trans s2)
  | ex ρ' x => exact fun c dx σ' H' R' F' st q w s2 => h c dx σ' H' R' F' st (k.trans q) w (s.trans s2)
theorem PostS.drop {o : Fl} (h : PostS K mg W A R H (F ++ G) σ T o) : PostS K mg W A R H F σ T o := h.step (.less .refl fun x hx => List.mem_append_left _ hx) .refl

/-- an expression within a statement -/
def sBind {α : Type} (m : Den α) (f : α → DenS) : DenS := fun ρ => match m ρ with
  | none => none
  | some (.ex ρ x) => some (.ex ρ x)
  | some (.ok ρ a) => f a ρ
theorem tS_bind {da : Den α} {f : α → DenS} {o : Fl} {Q : β → Hp → Prop} (hS : Sta K R H ρ σ F) (hden : sBind da f ρ = some o) (hQ : PostS K mg W A R H F σ T o)
    (k : ∀ ρ1 a v H1 R1 F1 Fv, f a ρ1 = some o → Sta K R1 H1 ρ1 σ F1 → rel R1 H1 a v Fv → (F1 ++ Fv).Nodup → Step R H F R1 H1 (F1 ++ Fv) → (pa = true → Sub H H1) → Q v H1) : tG K mg W rel pa da σ H Q := by
  unfold sBind at hden
  split at hden
  · cases hden
  · rename_i ρ' x e
    cases hden
    exact ⟨ρ, R, F, _, hS, e, fun c dx H' R' F' st q s => hQ c dx σ H' R' F' st .refl q s⟩
  · rename_i ρ1 a e
    exact ⟨ρ, R, F, _, hS, e, fun v H1 R1 F1 Fv st q n s p => k ρ1 a v H1 R1 F1 Fv hden st q n s p⟩
theorem goS {den : DenS} {o : Fl} (hS : Sta K R H ρ σ F) (e : den ρ = some o) (hQ : PostS K mg W A R H F σ T o) : tS K mg W A den T σ H := ⟨ρ, R, F, o, hS, e, hQ⟩

/-! ### blocks -/
def sNil : DenS := fun ρ => some (.nx ρ)
def sSeq (a b : DenS) : DenS := fun ρ => match a ρ with
  | some (.nx ρ') => b ρ'
  | o => o
theorem nil_ok (h : tS K mg W A sNil T σ H) : tNext T σ H := by
  obtain ⟨ρ, R, F, o, hS, hden, hQ⟩ := h
  cases hden
  exact hQ σ H R F hS .refl .refl
theorem seq_ok {a b : DenS} (h : tS K mg W A (sSeq a b) T σ H) : tSeq (tS K mg W A a) (tS K mg W A b) T σ H := by
  obtain ⟨ρ, R, F, o, hS, hden, hQ⟩ := h
  unfold sSeq at hden
  split at hden
  · rename_i ρ' e
    exact ⟨ρ, R, F, _, hS, e, fun σ' H' R' F' st k s => ⟨ρ', R', F', o, st, hden, hQ.step s k⟩⟩
  · rename_i z
    refine ⟨ρ, R, F, o, hS, hden, ?_⟩
    cases o with
    | nx ρ' => exact absurd hden (z ρ')
    | bk ρ' => exact hQ
    | ct ρ' => exact hQ
    | rt ρ' a => exact hQ
    | ex ρ' x => exact hQ
def sBreak : DenS := fun ρ => some (.bk ρ)
def sCont : DenS := fun ρ => some (.ct ρ)
theorem break_ok (h : tS K mg W A sBreak T σ H) : tBreak T σ H := by
  obtain ⟨ρ, R, F, o, hS, hden, hQ⟩ := h
  cases hden
  exact hQ σ H R F hS .refl .refl
theorem cont_ok (h : tS K mg W A sCont T σ H) : tCont T σ H := by
  obtain ⟨ρ, R, F, o, hS, hden, hQ⟩ := h
  cases hden
  exact hQ σ H R F hS .refl .refl
def sIf (c : Den Bool) (a b : DenS) : DenS := sBind c fun k => if k = true then a else b
theorem ifS_ok {c : Den Bool} {a b : DenS} (h : tS K mg W A (sIf c a b) T σ H) : tIfS (tT K mg W pc c) (tS K mg W A a) (tS K mg W A b) T σ H := by
  obtain ⟨ρ, R, F, o, hS, hden, hQ⟩ := h
  refine tS_bind hS hden hQ fun ρ1 a v H1 R1 F1 G1 e st q n s p => ?_
  obtain ⟨rfl, rfl⟩ := q
  have hQ1 := (hQ.step s .refl).drop
  cases v with
  | true => exact goS st e hQ1
  | false => exact goS st e hQ1
def sExpr (da : Den DV) : DenS := sBind da fun _ => sNil
theorem expr_ok {da : Den DV} (h : tS K mg W A (sExpr da) T σ H) : tDrop (tE K mg W pa da) T σ H := by
  obtain ⟨ρ, R, F, o, hS, hden, hQ⟩ := h
  refine tS_bind hS hden hQ fun ρ1 a v H1 R1 F1 G1 e st q n s p => ?_
  cases e
  exact (hQ.step s .refl).drop σ H1 R1 F1 st .refl .refl
def sRet (da : Den DV) : DenS := sBind da fun a => if isBo a = true then (fun _ => none) else fun ρ => some (.rt ρ a)
theorem ret_ok {da : Den DV} (h : tS K mg W A (sRet da) T σ H) : tRet (tE K mg W pa da) T σ H := by
  obtain ⟨ρ, R, F, o, hS, hden, hQ⟩ := h
  refine tS_bind hS hden hQ fun ρ1 a v H1 R1 F1 G1 e st q n s p => ?_
  cases hb : isBo a with
  | true => rw [if_pos hb] at e; cases e
  | false =>
    rw [if_neg (by rw [hb]; exact Bool.false_ne_true)] at e
    cases e
    exact hQ σ v H1 R1 F1 G1 st .refl q n s
def sRetN : DenS := fun ρ => some (.rt ρ (.sh .im, .non))
theorem retN_ok (h : tS K mg W A sRetN T σ H) : tRetN T σ H := by
  obtain ⟨ρ, R, F, o, hS, hden, hQ⟩ := h
  cases hden
  exact hQ σ .non H R F [] hS .refl ⟨rfl, .non⟩ (by rw [List.append_nil]; exact hS.nd) (by rw [List.append_nil]; exact .refl)

/-! ### stores to names -/
def sSet (i : Nat) (da : Den DV) : DenS := sBind da fun a ρ => match a with
  | (.sh s, d) => if i < ρ.length then some (.nx (ρ.set i (some (s, d)))) else none
  | _ => none
theorem set_ok {i : Nat} {da : Den DV} (hi : i ∈ A) (h : tS K mg W A (sSet i da) T σ H) : tAsg (tE K mg W pa da) (gName i) T σ H := by
  obtain ⟨ρ, R, F, o, hS, hden, hQ⟩ := h
  refine tS_bind hS hden hQ fun ρ1 a v H1 R1 F1 G1 e st q n s p => ?_
  obtain ⟨m, d⟩ := a
  cases m with
  | bo => cases e
  | sh sh =>
    dsimp only at e
    split at e
    · rename_i hl
      cases e
      obtain ⟨F', h1, h2, h3⟩ := st.slots.put hl q
      refine hQ _ H1 R1 F' ⟨h1, st.sub, h3 (List.perm_append_comm.nodup_iff.mp n)⟩ (.set hi) (s.less fun x hx => ?_)
      exact List.mem_append.mpr ((h2 x hx).symm)
    · cases e
def gSet (i : Nat) : DenG := fun d ρ => if i < ρ.length then some (ρ.set i (some (.im, d))) else none
theorem gname_ok {i : Nat} {v : V} {Q : L2.St → Hp → Prop} (hi : i ∈ A) (h : gOf K A (gSet i) v σ H Q) : gName i v σ H Q := by
  obtain ⟨ρ, R, F, d, ρ', hS, hv, e, k⟩ := h
  unfold gSet at e
  split at e
  · rename_i hl
    cases e
    obtain ⟨F', h1, h2, h3⟩ := hS.slots.put (s := .im) (d := d) (v := v) (G := []) hl ⟨rfl, hv⟩
    exact k _ F' ⟨h1, hS.sub, h3 (by simpa using hS.nd)⟩ (.set hi) fun a ha => (h2 a ha).elim (fun z => by cases z) id
  · cases e
def gsNil : List D → Rho → Option Rho := fun ds ρ => if ds.isEmpty = true then some ρ else none
def gsCons (t : DenG) (u : List D → Rho → Option Rho) : List D → Rho → Option Rho
  | d :: ds, ρ => match t d ρ with
    | some ρ' => u ds ρ'
    | none => none
  | [], _ => none
theorem gsnil_ok {Q : L2.St → Hp → Prop} (h : gsOf K A gsNil vs σ H Q) : gNil vs σ H Q := by
  obtain ⟨ρ, R, F, ds, ρ', hS, hv, e, k⟩ := h
  unfold gsNil at e
  split at e
  · rename_i hl
    cases e
    have : ds = [] := List.isEmpty_iff.mp hl
    subst this
    cases hv
    exact ⟨rfl, k σ F hS .refl fun _ h => h⟩
  · cases e
theorem gscons_ok {t : DenG} {u : List D → Rho → Option Rho} {Q : L2.St → Hp → Prop} (h : gsOf K A (gsCons t u) vs σ H Q) : gCons (gOf K A t) (gsOf K A u) vs σ H Q := by
  obtain ⟨ρ, R, F, ds, ρ', hS, hv, e, k⟩ := h
  unfold gsCons at e
  split at e
  · rename_i d ds
    cases hv with | cons h1 h2 =>
    split at e
    · rename_i ρ1 e1
      refine ⟨_, _, rfl, ρ, R, F, d, ρ1, hS, h1, e1, fun σ' F' st kp sub => ?_⟩
      exact ⟨ρ1, R, F', ds, ρ', st, h2, e, fun σ2 F2 st2 kp2 sub2 => k σ2 F2 st2 (kp.trans kp2) fun a ha => sub a (sub2 a ha)⟩
    · cases e
  · cases e
def gTupD (n : Nat) (u : List D → Rho → Option Rho) : DenG := fun d ρ => match d with
  | .tup ds => if ds.length = n then u ds ρ else none
  | .lst ds => if ds.length = n then u ds ρ else none
  | _ => none
def gTupX (K : PySem.W.Frag) (n : Nat) (t : TGs) : TG := fun v σ H Q => gTup K n t v σ H Q ∨ gLst K n t v σ H Q
theorem gtup_ok {n : Nat} {u : List D → Rho → Option Rho} {v : V} {Q : L2.St → Hp → Prop} (h : gOf K A (gTupD n u) v σ H Q) : gTupX K n (gsOf K A u) v σ H Q := by
  obtain ⟨ρ, R, F, d, ρ', hS, hv, e, k⟩ := h
  cases d with
  | tup ds =>
    unfold gTupD at e
    dsimp only at e
    split at e
    · rename_i hn
      cases hv with | tup h1 h2 =>
      exact .inl ⟨_, _, rfl, hS.sub.sqT h1, by rw [h2.length]; exact hn, ρ, R, F, ds, ρ', hS, h2, e, k⟩
    · cases e
  | lst ds =>
    unfold gTupD at e
    dsimp only at e
    split at e
    · rename_i hn
      cases hv with | lst h1 h2 =>
      exact .inr ⟨_, _, rfl, hS.sub.sqL h1, by rw [h2.length]; exact hn, ρ, R, F, ds, ρ', hS, h2, e, k⟩
    · cases e
  | _ => cases e
/-- a value to a target, plain -/
def sAsg (da : Den DV) (tg : DenG) : DenS := sBind da fun a ρ => if isBo a = true then none else (tg a.2 ρ).map .nx
theorem asg_ok {da : Den DV} {tg : DenG} (h : tS K mg W A (sAsg da tg) T σ H) : tAsg (tE K mg W pa da) (gOf K A tg) T σ H := by
  obtain ⟨ρ, R, F, o, hS, hden, hQ⟩ := h
  refine tS_bind hS hden hQ fun ρ1 a v H1 R1 F1 G1 e st q n s p => ?_
  split at e
  · cases e
  · rename_i hb
    obtain ⟨ρ', e1, e2⟩ := Option.map_eq_some_iff.mp e
    subst e2
    refine ⟨ρ1, ext R1 H1 G1, F1, a.2, ρ', st.freeze (nd_out n), q.freeze st.sub (not_bo (ff_of hb)), e1, fun σ' F' st' kp sub => ?_⟩
    exact hQ σ' H1 _ F' st' kp ((s.trans (.freeze st.sub)).less sub)
/-- a, b = x, y of two names -/
def sPar (i j : Nat) (da : Den (List DV)) : DenS := sBind da fun as ρ => if as.any isBo = true then none else match as with
  | [a, b] => if i < ρ.length ∧ j < ρ.length then some (.nx ((ρ.set i (some (.im, a.2))).set j (some (.im, b.2)))) else none
  | _ => none
theorem par_ok {i j : Nat} {da : Den (List DV)} (hi : i ∈ A) (hj : j ∈ A) (h : tS K mg W A (sPar i j da) T σ H) : tPar i j (tA K mg W pa da) T σ H := by
  obtain ⟨ρ, R, F, o, hS, hden, hQ⟩ := h
  refine tS_bind hS hden hQ fun ρ1 a v H1 R1 F1 G1 e st q n s p => ?_
  split at e
  · cases e
  · rename_i hb
    have q' := q.freeze st.sub (fun _ h => h) (ff_of hb)
    have st' := st.freeze (nd_out n)
    have s' := s.trans (.freeze st.sub)
    split at e
    · rename_i a b
      split at e
      · rename_i hl
        cases e
        cases q' with | cons q1 q2 => cases q2 with | cons q2 q3 => cases q3 with | nil =>
        obtain ⟨F', h1, h2, h3⟩ := st'.slots.put (s := .im) (G := []) hl.1 ⟨rfl, q1⟩
        obtain ⟨F'', g1, g2, g3⟩ := h1.put (s := .im) (G := []) (i := j) (by rw [List.length_set]; exact hl.2) ⟨rfl, q2⟩
        refine ⟨_, _, rfl, hQ _ H1 _ F'' ⟨g1, st'.sub, g3 (h3 (by simpa using st'.nd))⟩ ((Kept.set hi).trans (.set hj)) (s'.less fun x hx => ?_)⟩
        rcases g2 x hx with z | z
        · cases z
        · exact (h2 x z).elim (fun w => by cases w) id
      · cases e
    · cases e

/-! ### loops -/
/-- an iterator that gives the items ds, over all heaps that have the ground -/
structure Feeds (K : PySem.W.Frag) (J : It) (R : Hp) (ds : List D) : Prop where
  stop : ∀ H i, Sub R H → ds.length ≤ i → J.stop i H
  go : ∀ H i, Sub R H → i < ds.length → J.go i H
  yld : ∀ H i x H', Sub R H → i < ds.length → J.yld i H x H' → ∃ d, ds[i]? = some d ∧ ((H' = H ∧ At K R x d) ∨ ∃ T vs es, x = .ref T ∧ H T = none ∧ H' = upd H T (.tup vs) ∧ d = .tup es ∧ AtAll K R vs es)
def RI (K : PySem.W.Frag) : RelT (List D) It := fun R _ ds J F => Feeds K J R ds ∧ F = []
abbrev tI (K : PySem.W.Frag) (mg : Str → Option Value) (W : WX) (pu : Bool) (den : Den (List D)) : TI := tG K mg W (RI K) pu den
theorem Feeds.mono {J : It} {R' : Hp} (f : Feeds K J R ds) (g : Sub R R') : Feeds K J R' ds where
  stop := fun H i s => f.stop H i (g.trans s)
  go := fun H i s => f.go H i (g.trans s)
  yld := fun H i x H' s hi y => by
    obtain ⟨d, h1, h2⟩ := f.yld H i x H' (g.trans s) hi y
    refine ⟨d, h1, ?_⟩
    rcases h2 with ⟨e, h⟩ | ⟨T, vs, es, e1, e2, e3, e4, h⟩
    · exact .inl ⟨e, h.mono g⟩
    · exact .inr ⟨T, vs, es, e1, e2, e3, e4, h.mono g⟩
theorem feeds_list {a : Addr} (h : SqL K R a vs) (q : AtAll K R vs ds) : Feeds K (Itl K a) R ds where
  stop := fun H i s hi => ⟨vs, s.sqL h, by rw [q.length]; exact hi⟩
  go := fun H i s hi => by
    have hv : i < vs.length := by rw [q.length]; exact hi
    exact ⟨vs, vs[i], s.sqL h, List.getElem?_eq_getElem hv⟩
  yld := fun H i x H' s hi y => by
    obtain ⟨e, f⟩ := y
    have hx := f vs (s.sqL h)
    obtain ⟨d, h1, h2⟩ := q.get' hx
    exact ⟨d, h1, .inl ⟨e, h2⟩⟩
theorem feeds_tup {a : Addr} (h : SqT K R a vs) (q : AtAll K R vs ds) : Feeds K (Itt K a) R ds where
  stop := fun H i s hi => ⟨vs, s.sqT h, by rw [q.length]; exact hi⟩
  go := fun H i s hi => by
    have hv : i < vs.length := by rw [q.length]; exact hi
    exact ⟨vs, vs[i], s.sqT h, List.getElem?_eq_getElem hv⟩
  yld := fun H i x H' s hi y => by
    obtain ⟨e, f⟩ := y
    have hx := f vs (s.sqT h)
    obtain ⟨d, h1, h2⟩ := q.get' hx
    exact ⟨d, h1, .inl ⟨e, h2⟩⟩
def rangeD (lo : Int) (n : Nat) : List D := (List.range n).map fun i => .int (lo + (i : Nat))
theorem rangeD_len {lo : Int} {n : Nat} : (rangeD lo n).length = n := by simp [rangeD]
theorem feeds_range {lo : Int} {n : Nat} : Feeds K (Itr lo n) R (rangeD lo n) where
  stop := fun H i s hi => by rw [rangeD_len] at hi; exact hi
  go := fun H i s hi => by rw [rangeD_len] at hi; exact hi
  yld := fun H i x H' s hi y => by
    rw [rangeD_len] at hi
    obtain ⟨e, f⟩ := y
    exact ⟨.int (lo + i), by simp [rangeD, List.getElem?_map, List.getElem?_range hi], .inl ⟨e, by rw [f]; exact .int _⟩⟩
theorem PostR.ri {J : It} {Q : It → Hp → Prop} (hQ : PostR K mg W (RI K) pc R H F σ Q (.ok ρ ds)) (hS : Sta K R H ρ σ F) (f : Feeds K J R ds) : Q J H :=
  hQ J H R F [] hS ⟨f, rfl⟩ (by rw [List.append_nil]; exact hS.nd) (by rw [List.append_nil]; exact .refl) fun _ => .refl
/-- the items of a list, of a tuple, by what is walked -/
def dItemsL (da : Den DV) : Den (List D) := dBind da fun a => if isBo a = true then dFail else match a.2 with
  | .lst ds => dRet ds
  | _ => dFail
def dItemsT (da : Den DV) : Den (List D) := dBind da fun a => if isBo a = true then dFail else match a.2 with
  | .tup ds => dRet ds
  | _ => dFail
theorem itemsL_ok {da : Den DV} {Q : It → Hp → Prop} (h : tI K mg W pa (dItemsL da) σ H Q) : iList K (tE K mg W pa da) σ H Q := by
  obtain ⟨ρ, R, F, res, hS, hden, hQ⟩ := h
  refine oneIm hS hden hQ fun ρ2 a v H2 R2 F2 e st q hQ2 => ?_
  obtain ⟨m, d⟩ := a
  cases d with
  | lst ds =>
    cases e
    cases q with | lst h1 h2 => exact ⟨_, rfl, ⟨_, st.sub.sqL h1⟩, hQ2.ri st (feeds_list h1 h2)⟩
  | _ => cases e
theorem itemsT_ok {da : Den DV} {Q : It → Hp → Prop} (h : tI K mg W pa (dItemsT da) σ H Q) : iTup K (tE K mg W pa da) σ H Q := by
  obtain ⟨ρ, R, F, res, hS, hden, hQ⟩ := h
  refine oneIm hS hden hQ fun ρ2 a v H2 R2 F2 e st q hQ2 => ?_
  obtain ⟨m, d⟩ := a
  cases d with
  | tup ds =>
    cases e
    cases q with | tup h1 h2 => exact ⟨_, rfl, ⟨_, st.sub.sqT h1⟩, hQ2.ri st (feeds_tup h1 h2)⟩
  | _ => cases e

def loopF (tg : DenG) (body : DenS) : List D → DenS
  | [], ρ => some (.nx ρ)
  | d :: ds, ρ => match tg d ρ with
    | none => none
    | some ρ1 => match body ρ1 with
      | none => none
      | some (.nx ρ2) => loopF tg body ds ρ2
      | some (.ct ρ2) => loopF tg body ds ρ2
      | some (.bk ρ2) => some (.nx ρ2)
      | some (.rt ρ2 a) => some (.rt ρ2 a)
      | some (.ex ρ2 x) => some (.ex ρ2 x)
def sFor (di : Den (List D)) (tg : DenG) (body : DenS) : DenS := sBind di fun ds => loopF tg body ds
theorem for_ok {di : Den (List D)} {tg : DenG} {body : DenS} (h : tS K mg W A (sFor di tg body) T σ H) : tFor (tI K mg W pa di) (gOf K A tg) (tS K mg W A body) T σ H := by
  obtain ⟨ρ, R, F, o, hS, hden, hQ⟩ := h
  refine tS_bind hS hden hQ fun ρ1 ds J H1 R1 F1 G1 e st q n s p => ?_
  obtain ⟨f, rfl⟩ := q
  rw [List.append_nil] at s
  have hQ1 := hQ.step s .refl
  refine ⟨fun i m σ' H' => m = ds.length - i ∧ i ≤ ds.length ∧ ∃ ρ' R' F', Sta K R' H' ρ' σ' F' ∧ loopF tg body (ds.drop i) ρ' = some o ∧ Kept A σ σ' ∧ Step R1 H1 F1 R' H' F', ⟨ds.length, by simp, Nat.zero_le _, ρ1, R1, F1, st, e, .refl, .refl⟩, ?_⟩
  rintro i m σ' H' ⟨rfl, hi, ρ', R', F', st', e', kp, s'⟩
  have f' := f.mono s'.grow
  by_cases hlt : i < ds.length
  · refine .inr ⟨f'.go H' i st'.sub hlt, fun σ2 H2 => i + 1 ≤ ds.length ∧ ∃ ρ' R' F', Sta K R' H2 ρ' σ2 F' ∧ loopF tg body (ds.drop (i + 1)) ρ' = some o ∧ Kept A σ σ2 ∧ Step R1 H1 F1 R' H2 F', fun σ2 H2 h2 => ⟨ds.length - (i + 1), by omega, rfl, h2⟩, fun x H2 y => ?_⟩
    obtain ⟨d, hd, hx⟩ := f'.yld H' i x H2 st'.sub hlt y
    have hdrop : ds.drop i = d :: ds.drop (i + 1) := by
      obtain ⟨h1, h2⟩ := List.getElem?_eq_some_iff.mp hd
      rw [List.drop_eq_getElem_cons h1, h2]
    rw [hdrop] at e'
    unfold loopF at e'
    split at e'
    · cases e'
    rename_i ρ2 etg
    -- the item is plain
    obtain ⟨R2, st2, hx2, s2⟩ : ∃ R2, Sta K R2 H2 ρ' σ' F' ∧ At K R2 x d ∧ Step R' H' F' R2 H2 F' := by
      rcases hx with ⟨e1, h1⟩ | ⟨T, vs, es, rfl, hT, rfl, rfl, h1⟩
      · subst e1; exact ⟨R', st', h1, .refl⟩
      · exact ⟨_, st'.grow hT, .tup (.inl (.inl upd_same)) (h1.mono (.upd (st'.none_of hT))), .grown hT (st'.none_of hT)⟩
    refine ⟨ρ', R2, F', d, ρ2, st2, hx2, etg, fun σ3 F3 st3 kp3 sub3 => ?_⟩
    have s3 : Step R1 H1 F1 R2 H2 F3 := (s'.trans s2).less sub3
    have kp' := kp.trans kp3
    split at e'
    · cases e'
    · rename_i ρ4 eb
      exact ⟨ρ2, R2, F3, _, st3, eb, fun σ4 H4 R4 F4 st4 kp4 s4 => ⟨hlt, ρ4, R4, F4, st4, e', kp'.trans kp4, s3.trans s4⟩⟩
    · rename_i ρ4 eb
      exact ⟨ρ2, R2, F3, _, st3, eb, fun σ4 H4 R4 F4 st4 kp4 s4 => ⟨hlt, ρ4, R4, F4, st4, e', kp'.trans kp4, s3.trans s4⟩⟩
    · rename_i ρ4 eb
      cases e'
      exact ⟨ρ2, R2, F3, _, st3, eb, fun σ4 H4 R4 F4 st4 kp4 s4 => hQ1 σ4 H4 R4 F4 st4 (kp'.trans kp4) (s3.trans s4)⟩
    · rename_i ρ4 a eb
      cases e'
      exact ⟨ρ2, R2, F3, _, st3, eb, fun σ4 v H4 R4 F4 Fv st4 kp4 w n4 s4 => hQ1 σ4 v H4 R4 F4 Fv st4 (kp'.trans kp4) w n4 (s3.trans s4)⟩
    · rename_i ρ4 x eb
      cases e'
      exact ⟨ρ2, R2, F3, _, st3, eb, fun c dx σ4 H4 R4 F4 st4 kp4 w s4 => hQ1 c dx σ4 H4 R4 F4 st4 (kp'.trans kp4) w (s3.trans s4)⟩
  · have ei : i = ds.length := by omega
    subst ei
    rw [List.drop_length] at e'
    cases e'
    exact .inl ⟨f'.stop H' _ st'.sub (Nat.le_refl _), hQ1 σ' H' R' F' st' kp s'⟩

def whileF (c : Den Bool) (body : DenS) : Nat → DenS
  | 0, _ => none
  | n + 1, ρ => match c ρ with
    | none => none
    | some (.ex ρ x) => some (.ex ρ x)
    | some (.ok ρ1 false) => some (.nx ρ1)
    | some (.ok ρ1 true) => match body ρ1 with
      | none => none
      | some (.nx ρ2) => whileF c body n ρ2
      | some (.ct ρ2) => whileF c body n ρ2
      | some (.bk ρ2) => some (.nx ρ2)
      | some (.rt ρ2 a) => some (.rt ρ2 a)
      | some (.ex ρ2 x) => some (.ex ρ2 x)
theorem while_ok {n : Nat} {c : Den Bool} {body : DenS} (h : tS K mg W A (whileF c body n) T σ H) : tWhile (tT K mg W pa c) (tS K mg W A body) T σ H := by
  obtain ⟨ρ, R, F, o, hS, hden, hQ⟩ := h
  refine ⟨fun m σ' H' => ∃ ρ' R' F', Sta K R' H' ρ' σ' F' ∧ whileF c body m ρ' = some o ∧ Kept A σ σ' ∧ Step R H F R' H' F', ⟨n, ρ, R, F, hS, hden, .refl, .refl⟩, ?_⟩
  rintro m σ' H' ⟨ρ', R', F', st, e, kp, s⟩
  cases m with
  | zero => cases e
  | succ m =>
    unfold whileF at e
    split at e
    · cases e
    · rename_i ρ1 x ec
      cases e
      exact ⟨ρ', R', F', _, st, ec, fun cc dx H2 R2 F2 st2 w s2 => hQ cc dx σ' H2 R2 F2 st2 kp w (s.trans s2)⟩
    · rename_i ρ1 ec
      cases e
      refine ⟨ρ', R', F', _, st, ec, fun b H2 R2 F2 G2 st2 w n2 s2 _ => ?_⟩
      obtain ⟨rfl, rfl⟩ := w
      rw [List.append_nil] at s2
      exact hQ σ' H2 R2 F2 st2 kp (s.trans s2)
    · rename_i ρ1 ec
      refine ⟨ρ', R', F', _, st, ec, fun b H2 R2 F2 G2 st2 w n2 s2 _ => ?_⟩
      obtain ⟨rfl, rfl⟩ := w
      rw [List.append_nil] at s2
      have s2' := s.trans s2
      refine ⟨fun σ3 H3 => ∃ ρ' R' F', Sta K R' H3 ρ' σ3 F' ∧ whileF c body m ρ' = some o ∧ Kept A σ σ3 ∧ Step R H F R' H3 F', fun σ3 H3 h3 => ⟨m, Nat.lt_succ_self _, h3⟩, ?_⟩
      split at e
      · cases e
      · rename_i ρ4 eb
        exact ⟨ρ1, R2, F2, _, st2, eb, fun σ4 H4 R4 F4 st4 kp4 s4 => ⟨ρ4, R4, F4, st4, e, kp.trans kp4, s2'.trans s4⟩⟩
      · rename_i ρ4 eb
        exact ⟨ρ1, R2, F2, _, st2, eb, fun σ4 H4 R4 F4 st4 kp4 s4 => ⟨ρ4, R4, F4, st4, e, kp.trans kp4, s2'.trans s4⟩⟩
      · rename_i ρ4 eb
        cases e
        exact ⟨ρ1, R2, F2, _, st2, eb, fun σ4 H4 R4 F4 st4 kp4 s4 => hQ σ4 H4 R4 F4 st4 (kp.trans kp4) (s2'.trans s4)⟩
      · rename_i ρ4 a eb
        cases e
        exact ⟨ρ1, R2, F2, _, st2, eb, fun σ4 v H4 R4 F4 Fv st4 kp4 w n4 s4 => hQ σ4 v H4 R4 F4 Fv st4 (kp.trans kp4) w n4 (s2'.trans s4)⟩
      · rename_i ρ4 x eb
        cases e
        exact ⟨ρ1, R2, F2, _, st2, eb, fun cc dx σ4 H4 R4 F4 st4 kp4 w s4 => hQ cc dx σ4 H4 R4 F4 st4 (kp.trans kp4) w (s2'.trans s4)⟩
end
end Den

/-! Defs and calls, by their meanings. -/
namespace Den
open PySem PySem.Spec PyProof.Rows L2

inductive Arg where
  | lent (i : Nat) | val (a : DV)
def Arg.bo : Arg → Bool
  | .val a => isBo a
  | .lent _ => false
def AsOk (K : PySem.W.Frag) (σ : L2.St) : RelT (List Arg) (List V)
  | _, _, [], vs, F => vs = [] ∧ F = []
  | R, H, .lent i :: as, vs, F => ∃ v vr, vs = v :: vr ∧ σ[i]? = some (some v) ∧ AsOk K σ R H as vr F
  | R, H, .val a :: as, vs, F => ∃ v vr F1 F2, vs = v :: vr ∧ F = F1 ++ F2 ∧ VOk K R H a v F1 ∧ AsOk K σ R H as vr F2
inductive FRes where
  | ret (a : DV) (outs : List (Sh × D)) | ex (x : Exn) (outs : List (Sh × D))
/-- the meaning of a def: from its arguments, as they are held -/
abbrev FDen := List (Sh × D) → Option FRes

section
variable (K : PySem.W.Frag) (mg : Str → Option Value) (W : WX)
abbrev tAs (pu : Bool) (den : Den (List Arg)) : TA := fun σ H Q => tG K mg W (AsOk K σ) pu den σ H Q
def SpD (n : Nat) (f : FDen) : Sp := fun vs H Q E => ∃ args R F r, Sta K R H (args.map some) (vs.map some) F ∧ args.length = n ∧ f args = some r ∧ match r with
  | .ret a outs => ∀ v H' R' F' Fv, Sta K R' H' (outs.map some) (vs.map some) F' → VOk K R' H' a v Fv → (F' ++ Fv).Nodup → Step R H F R' H' (F' ++ Fv) → Q v H'
  | .ex x outs => ∀ c dx H' R' F', Sta K R' H' (outs.map some) (vs.map some) F' → XOk K mg R' x c dx → Step R H F R' H' F' → E c dx H'
end

def takeAs : List Arg → Rho → Option (List (Sh × D) × Rho)
  | [], ρ => some ([], ρ)
  | .val (.sh s, d) :: as, ρ => match takeAs as ρ with
    | some (l, ρ') => some ((s, d) :: l, ρ')
    | none => none
  | .val (.bo, _) :: _, _ => none
  | .lent i :: as, ρ => match ρ[i]? with
    | some (some sd) => (match takeAs as (ρ.set i none) with
      | some (l, ρ') => some (sd :: l, ρ')
      | none => none)
    | _ => none
def giveAs : List Arg → List (Sh × D) → Rho → Rho
  | .lent i :: as, o :: os, ρ => (giveAs as os ρ).set i (some o)
  | .val _ :: as, _ :: os, ρ => giveAs as os ρ
  | _, _, ρ => ρ
def dCallF (n : Nat) (f : FDen) (das : Den (List Arg)) : Den DV := dBind das fun as ρ => match takeAs as ρ with
  | none => none
  | some (args, ρ') => if args.length ≠ n then none else match f args with
    | none => none
    | some (.ret a outs) => some (.ok (giveAs as outs ρ') a)
    | some (.ex x outs) => some (.ex (giveAs as outs ρ') x)
def dAsNil : Den (List Arg) := dRet []
def dAsV (i : Nat) (dr : Den (List Arg)) : Den (List Arg) := fun ρ => match ρ[i]? with
  | some (some (.im, d)) => dBind dr (fun as => dRet (.val (.sh .im, d) :: as)) ρ
  | some (some (.ow _, _)) => dBind dr (fun as => dRet (.lent i :: as)) ρ
  | _ => none
def dAsC (pr : Bool) (da : Den DV) (dr : Den (List Arg)) : Den (List Arg) := dBind da fun a => if (isBo a && !pr) = true then dFail else dBind dr fun as => dRet (.val a :: as)

section
variable {K : PySem.W.Frag} {R R' H H' : Hp} {F : List Addr} {σ : L2.St}
theorem AsOk.foot : ∀ {as : List Arg} {vs : List V} {F : List Addr}, AsOk K σ R H as vs F → ∀ x ∈ F, (∃ o, H x = some o) ∧ R x = none
  | [], _, _, ⟨_, e⟩, x, hx => by rw [e] at hx; cases hx
  | .lent i :: as, _, _, ⟨v, vr, _, _, t⟩, x, hx => AsOk.foot t x hx
  | .val a :: as, _, _, ⟨v, vr, F1, F2, _, e, h, t⟩, x, hx => by
    rw [e] at hx
    rcases List.mem_append.mp hx with hx | hx
    · exact h.foot x hx
    · exact AsOk.foot t x hx
theorem AsOk.frame (g : Sub R R') : ∀ {as : List Arg} {vs : List V} {F : List Addr}, AsOk K σ R H as vs F → (as.any Arg.bo = true → Sub H H') → (∀ x ∈ F, H' x = H x) → (∀ x ∈ F, R' x = none) → AsOk K σ R' H' as vs F
  | [], _, _, ⟨h1, h2⟩, _, _, _ => ⟨h1, h2⟩
  | .lent i :: as, _, _, ⟨v, vr, e1, e2, t⟩, hb, k, n => ⟨v, vr, e1, e2, AsOk.frame g t (fun q => hb (by rw [List.any_cons, q, Bool.or_true])) k n⟩
  | .val a :: as, _, _, ⟨v, vr, F1, F2, e1, e, h, t⟩, hb, k, n => by
    subst e
    refine ⟨v, vr, F1, F2, e1, rfl, h.frame g (fun q => hb (by rw [List.any_cons, show Arg.bo (.val a) = true from decide_eq_true q]; rfl)) (fun x hx => k x (List.mem_append_left _ hx)) fun x hx => n x (List.mem_append_left _ hx), ?_⟩
    exact AsOk.frame g t (fun q => hb (by rw [List.any_cons, q, Bool.or_true])) (fun x hx => k x (List.mem_append_right _ hx)) fun x hx => n x (List.mem_append_right _ hx)
theorem Frm.asok : Frm (AsOk K σ) (fun as => as.any Arg.bo) where
  foot := fun h => h.foot
  frame := fun h g hb k n => h.frame g hb k n
theorem take_ok : ∀ {as : List Arg} {ρ ρ' : Rho} {F G : List Addr} {vs : List V} {args : List (Sh × D)}, Slots K R H ρ σ F → AsOk K σ R H as vs G → takeAs as ρ = some (args, ρ') →
    ∃ F1 F2, Slots K R H (args.map some) (vs.map some) F1 ∧ Slots K R H ρ' σ F2 ∧ (F ++ G).Perm (F1 ++ F2)
  | [], ρ, ρ', F, G, vs, args, hS, ⟨e1, e2⟩, e => by
    cases e
    subst e1 e2
    exact ⟨[], F, ⟨rfl, rfl⟩, hS, by simp⟩
  | .val (.bo, _) :: _, _, _, _, _, _, _, _, _, e => by cases e
  | .val (.sh s, d) :: as, ρ, ρ', F, _, _, args, hS, ⟨v, vr, G1, G2, rfl, rfl, h, t⟩, e => by
    unfold takeAs at e
    split at e
    · rename_i l ρ2 e1
      cases e
      obtain ⟨F1, F2, h1, h2, h3⟩ := take_ok hS t e1
      refine ⟨G1 ++ F1, F2, ⟨v, vr.map some, G1, F1, rfl, rfl, h, h1⟩, h2, ?_⟩
      have p1 : (F ++ (G1 ++ G2)).Perm (G1 ++ (F ++ G2)) := by
        rw [← List.append_assoc, ← List.append_assoc]
        exact List.Perm.append_right G2 List.perm_append_comm
      rw [List.append_assoc]
      exact p1.trans (List.Perm.append_left G1 h3)
    · cases e
  | .lent i :: as, ρ, ρ', F, G, _, args, hS, ⟨v, vr, rfl, hv, t⟩, e => by
    unfold takeAs at e
    split at e
    · rename_i sd e0
      obtain ⟨s, d⟩ := sd
      split at e
      · rename_i l ρ2 e1
        cases e
        obtain ⟨v', Fi, Fr, k1, k2, k3, k4⟩ := hS.pick e0
        rw [hv] at k1; cases k1
        obtain ⟨F1, F2, h1, h2, h3⟩ := take_ok k3 t e1
        refine ⟨Fi ++ F1, F2, ⟨v, vr.map some, Fi, F1, rfl, rfl, k2, h1⟩, h2, ?_⟩
        rw [List.append_assoc]
        refine (List.Perm.append_right G k4).trans ?_
        rw [List.append_assoc]
        exact List.Perm.append_left Fi h3
      · cases e
    · cases e
theorem give_ok : ∀ {as : List Arg} {ρ' : Rho} {Fo F2 G : List Addr} {vs : List V} {outs : List (Sh × D)} {R0 H0 : Hp}, Slots K R H (outs.map some) (vs.map some) Fo → Slots K R H ρ' σ F2 → AsOk K σ R0 H0 as vs G → (Fo ++ F2).Nodup →
    ∃ F3, Slots K R H (giveAs as outs ρ') σ F3 ∧ (∀ x ∈ F3, x ∈ Fo ++ F2) ∧ F3.Nodup
  | [], ρ', Fo, F2, G, vs, outs, _, _, hO, hS, hA, n => by
    refine ⟨F2, ?_, fun x hx => List.mem_append_right _ hx, (List.nodup_append.mp n).2.1⟩
    cases outs <;> exact hS
  | .val a :: as, ρ', Fo, F2, _, vs, [], _, _, hO, hS, hA, n => by
    obtain ⟨v, vr, G1, G2, rfl, rfl, h, t⟩ := hA
    obtain ⟨e, _⟩ := hO
    cases e
  | .lent i :: as, ρ', Fo, F2, G, vs, [], _, _, hO, hS, hA, n => by
    obtain ⟨v, vr, rfl, hv, t⟩ := hA
    obtain ⟨e, _⟩ := hO
    cases e
  | .val a :: as, ρ', Fo, F2, _, vs, o :: os, _, _, hO, hS, hA, n => by
    obtain ⟨v, vr, G1, G2, rfl, rfl, h, t⟩ := hA
    obtain ⟨s, d⟩ := o
    obtain ⟨v', σ', K1, K2, e1, rfl, h1, h2⟩ := hO
    simp only [List.map_cons, List.cons.injEq, Option.some.injEq] at e1
    obtain ⟨rfl, rfl⟩ := e1
    obtain ⟨F3, g1, g2, g3⟩ := give_ok (as := as) h2 hS t (by
      rw [List.append_assoc] at n
      exact (List.nodup_append.mp n).2.1)
    exact ⟨F3, g1, fun x hx => by
      rcases List.mem_append.mp (g2 x hx) with z | z
      · exact List.mem_append_left _ (List.mem_append_right _ z)
      · exact List.mem_append_right _ z, g3⟩
  | .lent i :: as, ρ', Fo, F2, G, vs, o :: os, _, _, hO, hS, hA, n => by
    obtain ⟨v, vr, rfl, hv, t⟩ := hA
    obtain ⟨s, d⟩ := o
    obtain ⟨v', σ', K1, K2, e1, rfl, h1, h2⟩ := hO
    simp only [List.map_cons, List.cons.injEq, Option.some.injEq] at e1
    obtain ⟨rfl, rfl⟩ := e1
    rw [List.append_assoc] at n
    obtain ⟨n1, n2, n3⟩ := List.nodup_append.mp n
    obtain ⟨F3, g1, g2, g3⟩ := give_ok (as := as) h2 hS t n2
    have hi : i < (giveAs as os ρ').length := by
      rw [← g1.length]
      exact (List.getElem?_eq_some_iff.mp hv).1
    obtain ⟨F4, p1, p2, p3⟩ := g1.put hi h1
    rw [set_self hv] at p1
    refine ⟨F4, p1, fun x hx => ?_, p3 (List.nodup_append.mpr ⟨n1, g3, fun a ha b hb => n3 a ha b (g2 b hb)⟩)⟩
    rcases p2 x hx with z | z
    · exact List.mem_append_left _ (List.mem_append_left _ z)
    · rcases List.mem_append.mp (g2 x z) with z | z
      · exact List.mem_append_left _ (List.mem_append_right _ z)
      · exact List.mem_append_right _ z
end

section
variable {α β γ δ : Type} {K : PySem.W.Frag} {mg : Str → Option Value} {W : WX} {A : List Nat} {rel : RelT α β} {rel' : RelT γ δ} {pu pa pb pc pd : Bool} {R R1 H H1 : Hp} {F F1 G : List Addr} {ρ ρ1 : Rho} {σ σ1 : L2.St} {Q : VK} {d : D} {ds : List D} {vs : List V} {p : Addr}

theorem asNil_ok {Q : List V → Hp → Prop} (h : tAs K mg W true dAsNil σ H Q) : tNil σ H Q := by
  obtain ⟨ρ, R, F, res, hS, hden, hQ⟩ := h
  cases hden
  exact hQ [] H R F [] hS ⟨rfl, rfl⟩ (by rw [List.append_nil]; exact hS.nd) (by rw [List.append_nil]; exact .refl) fun _ => .refl
theorem asV_ok {i : Nat} {dr : Den (List Arg)} {Q : List V → Hp → Prop} (h : tAs K mg W pb (dAsV i dr) σ H Q) : tCons (tVar i) (tAs K mg W pb dr) σ H Q := by
  obtain ⟨ρ, R, F, res, hS, hden, hQ⟩ := h
  unfold dAsV at hden
  split at hden
  · rename_i d e
    obtain ⟨v, Fi, Fr, k1, k2, k3, k4⟩ := hS.slots.pick e
    refine ⟨v, k1, ?_⟩
    refine tG_bind (rel' := AsOk K σ) hS hden hQ fun ρ1 a u H1 R1 F1 G1 e1 st q n s p => ?_
    cases e1
    exact hQ (v :: u) H1 R1 F1 G1 st ⟨v, u, [], G1, rfl, rfl, ⟨rfl, k2.2.mono s.grow⟩, q⟩ n s p
  · rename_i s0 d e
    obtain ⟨v, Fi, Fr, k1, k2, k3, k4⟩ := hS.slots.pick e
    refine ⟨v, k1, ?_⟩
    refine tG_bind (rel' := AsOk K σ) hS hden hQ fun ρ1 a u H1 R1 F1 G1 e1 st q n s p => ?_
    cases e1
    exact hQ (v :: u) H1 R1 F1 G1 st ⟨v, u, rfl, k1, q⟩ n s p
  · cases hden
theorem asC_ok {da : Den DV} {dr : Den (List Arg)} {Q : List V → Hp → Prop} (h : tAs K mg W (pa && pb) (dAsC pb da dr) σ H Q) : tCons (tE K mg W pa da) (tAs K mg W pb dr) σ H Q := by
  obtain ⟨ρ, R, F, res, hS, hden, hQ⟩ := h
  refine tG_bind hS hden hQ fun ρ1 a v H1 R1 F1 G1 e st q n s p => ?_
  cases hga : (isBo a && !pb) with
  | true => rw [if_pos hga] at e; cases e
  | false =>
    rw [if_neg (by rw [hga]; exact Bool.false_ne_true)] at e
    have sl : Step R H F R1 H1 F1 := s.less fun x hx => List.mem_append_left _ hx
    have hQ1 := hQ.step sl fun z => p (Bool.and_eq_true_iff.mp z).1
    refine tG_bind (rel' := AsOk K σ) st e hQ1 fun ρ2 b u H2 R2 F2 G2 e2 st2 q2 n2 s2 p2 => ?_
    cases e2
    obtain ⟨v2, hd⟩ := Frm.vok.behind q n s2 fun z => p2 (by rw [z] at hga; simpa using hga)
    refine hQ (v :: u) H2 R2 F2 (G1 ++ G2) st2 ⟨v, u, G1, G2, rfl, rfl, v2, q2⟩ ?_ ⟨(sl.trans s2).keep, (sl.trans s2).grow, (sl.trans s2).rnew, fun x hx => ?_, (sl.trans s2).there⟩ fun z => (p (Bool.and_eq_true_iff.mp z).1).trans (p2 (Bool.and_eq_true_iff.mp z).2)
    · rw [List.nodup_append] at n n2 ⊢
      obtain ⟨a1, a2, a3⟩ := n
      obtain ⟨b1, b2, b3⟩ := n2
      refine ⟨b1, List.nodup_append.mpr ⟨a2, b2, fun x hx y hy => ?_⟩, fun x hx y hy => ?_⟩
      · rintro rfl; exact hd x hx (List.mem_append_right _ hy)
      · rcases List.mem_append.mp hy with hy | hy
        · rintro rfl; exact hd x hy (List.mem_append_left _ hx)
        · exact b3 x hx y hy
    · rcases List.mem_append.mp hx with hx | hx
      · exact (sl.trans s2).fnew x (List.mem_append_left _ hx)
      · rcases List.mem_append.mp hx with hx | hx
        · exact s.fnew x (List.mem_append_right _ hx)
        · exact (sl.trans s2).fnew x (List.mem_append_right _ hx)

/-- behind a call: the names, what was lent is back -/
theorem given {as : List Arg} {outs : List (Sh × D)} {ρ' : Rho} {G Fa Fr Fo : List Addr} {R' H' : Hp} (hS : Sta K R H ρ σ F) (hA : AsOk K σ R H as vs G) (n : (F ++ G).Nodup)
    (h2 : Slots K R H ρ' σ Fr) (hp : (F ++ G).Perm (Fa ++ Fr)) (so : Sta K R' H' (outs.map some) (vs.map some) Fo) {Fv : List Addr} (nv : (Fo ++ Fv).Nodup) (s : Step R H Fa R' H' (Fo ++ Fv)) :
    ∃ F3, Sta K R' H' (giveAs as outs ρ') σ F3 ∧ (F3 ++ Fv).Nodup ∧ Step R H (F ++ G) R' H' (F3 ++ Fv) := by
  have nd : (Fa ++ Fr).Nodup := hp.nodup_iff.mp n
  have hd : ∀ x ∈ Fr, x ∉ Fa := fun x hx hy => (List.nodup_append.mp nd).2.2 x hy x hx rfl
  obtain ⟨k1, k2, k3⟩ := s.away (fun x hx => h2.foot x hx) hd
  have h2' := h2.frame s.grow k1 k2
  have nOr : (Fo ++ Fr).Nodup := List.nodup_append.mpr ⟨so.nd, (List.nodup_append.mp nd).2.1, fun a ha b hb => by
    rintro rfl; exact k3 a hb (List.mem_append_left _ ha)⟩
  obtain ⟨F3, g1, g2, g3⟩ := give_ok so.slots h2' hA nOr
  have hm : ∀ x ∈ Fa, x ∈ F ++ G := fun x hx => hp.mem_iff.mpr (List.mem_append_left _ hx)
  refine ⟨F3, ⟨g1, so.sub, g3⟩, ?_, ?_⟩
  · refine List.nodup_append.mpr ⟨g3, (List.nodup_append.mp nv).2.1, fun a ha b hb => ?_⟩
    rintro rfl
    rcases List.mem_append.mp (g2 a ha) with z | z
    · exact (List.nodup_append.mp nv).2.2 a z a hb rfl
    · exact k3 a z (List.mem_append_right _ hb)
  · have s1 := s.more hm
    refine ⟨s1.keep, s1.grow, s1.rnew, fun x hx => ?_, s1.there⟩
    rcases List.mem_append.mp hx with z | z
    · rcases List.mem_append.mp (g2 x z) with z | z
      · exact s1.fnew x (List.mem_append_left _ z)
      · exact .inl (hp.mem_iff.mpr (List.mem_append_right _ z))
    · exact s1.fnew x (List.mem_append_right _ z)

theorem callF_ok {n : Nat} {f : FDen} {das : Den (List Arg)} (h : tE K mg W false (dCallF n f das) σ H Q) :
    tCallS (SpD K mg n f) (fun σ c d H => W c d σ H) (tAs K mg W pa das) σ H Q := by
  obtain ⟨ρ, R, F, res, hS, hden, hQ⟩ := h
  refine tG_bind (rel := AsOk K σ) hS hden hQ fun ρ1 as vs H1 R1 F1 G1 e st q n s p => ?_
  split at e
  · cases e
  rename_i args ρ' e1
  split at e
  · cases e
  rename_i hl
  have hl' := Decidable.of_not_not hl
  obtain ⟨Fa, Fr, h1, h2, hp⟩ := take_ok st.slots q e1
  have nd := hp.nodup_iff.mp n
  have sta : Sta K R1 H1 (args.map some) (vs.map some) Fa := ⟨h1, st.sub, (List.nodup_append.mp nd).1⟩
  split at e
  · cases e
  · rename_i a outs e2
    cases e
    refine ⟨args, R1, Fa, _, sta, hl', e2, fun v H' R' F' Fv so hv nv s2 => ?_⟩
    obtain ⟨F3, g1, g2, g3⟩ := given st q n h2 hp so nv s2
    exact hQ v H' R' F3 Fv g1 hv g2 (s.trans g3) fun z => by cases z
  · rename_i x outs e2
    cases e
    refine ⟨args, R1, Fa, _, sta, hl', e2, fun c dx H' R' F' so hx s2 => ?_⟩
    obtain ⟨F3, g1, g2, g3⟩ := given (Fv := []) st q n h2 hp so (by rw [List.append_nil]; exact so.nd) (by rw [List.append_nil]; exact s2)
    rw [List.append_nil] at g3
    exact hQ c dx H' R' F3 g1 hx (s.trans g3)

/-! ### a def by its body -/
def outsOf (A : List Nat) : Nat → List (Sh × D) → Rho → Option (List (Sh × D))
  | _, [], _ => some []
  | i, a :: as, x :: ρ => if i ∈ A then (if a.1 = .im then (outsOf A (i + 1) as ρ).map (a :: ·) else none) else (match x with
    | some sd => (outsOf A (i + 1) as ρ).map (sd :: ·)
    | none => none)
  | _, _ :: _, [] => none
theorem outs_ok {R' H' : Hp} (g : Sub R R') : ∀ {i : Nat} {as : List (Sh × D)} {ρ : Rho} {vs : List V} {σ' : L2.St} {F0 F' : List Addr} {os : List (Sh × D)}, Slots K R H (as.map some) (vs.map some) F0 → Slots K R' H' ρ σ' F' →
    (∀ j, i + j ∉ A → ∀ v, vs[j]? = some v → σ'[j]? = some (some v)) → outsOf A i as ρ = some os → ∃ F2, Slots K R' H' (os.map some) (vs.map some) F2 ∧ (∀ x ∈ F2, x ∈ F') ∧ (F'.Nodup → F2.Nodup)
  | i, [], ρ, vs, σ', F0, F', os, h0, h1, k, e => by
    cases e
    obtain ⟨e1, _⟩ := h0
    refine ⟨[], ?_, (fun _ h => by cases h), (fun _ => List.nodup_nil)⟩
    rw [e1]
    exact ⟨rfl, rfl⟩
  | i, a :: as, [], vs, σ', F0, F', os, h0, h1, k, e => by cases e
  | i, (s, d) :: as, x :: ρ, vs, σ', _, F', os, ⟨v, vr, K1, K2, e1, rfl, o1, t1⟩, h1, k, e => by
    cases vs with
    | nil => cases e1
    | cons v0 vs =>
    simp only [List.map_cons, List.cons.injEq, Option.some.injEq] at e1
    obtain ⟨rfl, rfl⟩ := e1
    unfold outsOf at e
    split at e
    · rename_i hA
      split at e
      · rename_i hs
        obtain ⟨os', e2, rfl⟩ := Option.map_eq_some_iff.mp e
        have hs' : s = .im := hs
        subst hs'
        have rest : ∃ σ2 G, Slots K R' H' ρ σ2 G ∧ (∃ y, σ' = y :: σ2) ∧ (∀ x ∈ G, x ∈ F') ∧ (F'.Nodup → G.Nodup) := by
          cases x with
          | none => obtain ⟨y, σ2, rfl, t⟩ := h1; exact ⟨σ2, _, t, ⟨y, rfl⟩, fun _ h => h, id⟩
          | some sd => obtain ⟨s', d'⟩ := sd; obtain ⟨w, σ2, L1, L2, rfl, rfl, _, t⟩ := h1; exact ⟨σ2, L2, t, ⟨_, rfl⟩, fun _ h => List.mem_append_right _ h, fun n => (List.nodup_append.mp n).2.1⟩
        obtain ⟨σ2, G, t, ⟨y, rfl⟩, sub, nd⟩ := rest
        obtain ⟨F2, a1, a2, a3⟩ := outs_ok g (i := i + 1) t1 t (fun j hj w hw => by
          have := k (j + 1) (by rw [← Nat.add_assoc, Nat.add_right_comm]; exact hj) w (by simpa using hw)
          simpa using this) e2
        exact ⟨F2, ⟨v0, vs.map some, [], F2, rfl, rfl, ⟨rfl, o1.2.mono g⟩, a1⟩, fun x hx => sub x (a2 x hx), fun n => a3 (nd n)⟩
      · cases e
    · rename_i hA
      cases x with
      | none => cases e
      | some sd =>
        obtain ⟨os', e2, rfl⟩ := Option.map_eq_some_iff.mp e
        obtain ⟨s', d'⟩ := sd
        obtain ⟨w, σ2, L1, L2, rfl, rfl, o, t⟩ := h1
        have hw := k 0 (by simpa using hA) v0 (by simp)
        simp at hw
        subst hw
        obtain ⟨F2, a1, a2, a3⟩ := outs_ok g (i := i + 1) t1 t (fun j hj w hw => by
          have := k (j + 1) (by rw [← Nat.add_assoc, Nat.add_right_comm]; exact hj) w (by simpa using hw)
          simpa using this) e2
        refine ⟨L1 ++ F2, ⟨w, vs.map some, L1, F2, rfl, rfl, o, a1⟩, fun x hx => ?_, fun n => ?_⟩
        · rcases List.mem_append.mp hx with z | z
          · exact List.mem_append_left _ z
          · exact List.mem_append_right _ (a2 x z)
        · obtain ⟨n1, n2, n3⟩ := List.nodup_append.mp n
          exact List.nodup_append.mpr ⟨n1, a3 n2, fun a ha b hb => n3 a ha b (a2 b hb)⟩
def fnDen (A : List Nat) (n N : Nat) (body : DenS) : FDen := fun args => match body (args.map some ++ List.replicate (N - n) none) with
  | some (.nx ρ) => (outsOf A 0 args ρ).map fun os => .ret (.sh .im, .non) os
  | some (.rt ρ a) => (outsOf A 0 args ρ).map fun os => .ret a os
  | some (.ex ρ x) => (outsOf A 0 args ρ).map fun os => .ex x os
  | _ => none
theorem slots_pad : ∀ {ρ : Rho} {σ : L2.St} {F : List Addr} (m : Nat), Slots K R H ρ σ F → Slots K R H (ρ ++ List.replicate m none) (σ ++ List.replicate m none) F
  | [], _, _, m, ⟨e1, e2⟩ => by
    subst e1 e2
    rw [List.nil_append, List.nil_append]
    induction m with
    | zero => exact ⟨rfl, rfl⟩
    | succ m ih => exact ⟨none, _, rfl, ih⟩
  | none :: ρ, _, _, m, ⟨x, σ', e, t⟩ => by rw [e]; exact ⟨x, _, rfl, slots_pad m t⟩
  | some (s, d) :: ρ, _, _, m, ⟨v, σ', F1, F2, e, e2, h, t⟩ => by rw [e]; exact ⟨v, _, F1, F2, rfl, e2, h, slots_pad m t⟩
end
section
variable {P : Program} {w : World} {K : PySem.W.Frag} {mg : Str → Option Value} {base : Heap}
theorem fn_ok {x qual : Str} {st : Stmt} {f : Addr} {fd : FuncData} {N ps : List Str} {k : Nat} {A : List Nat} {body : DenS} (F : L2.Fun K x qual st f fd) (S : FnScope N ps (defScope st))
    (hbody : ∀ (cdv : Value) (Ar : Around) (outer : List Env) (s : Shared) (H : Hp) (E : XK), Room k (Ar.deeper (envOfC qual (defScope st) s.heap.objs.size f cdv)) →
      Takes (cxOf (L2.CX P w) P w K mg base N qual (defScope st) f cdv Ar outer s H E) (fun c d _ H => E c d H) →
      PassesOwn (model P w) (cxOf (L2.CX P w) P w K mg base N qual (defScope st) f cdv Ar outer s H E).A (cxOf (L2.CX P w) P w K mg base N qual (defScope st) f cdv Ar outer s H E).env (cxOf (L2.CX P w) P w K mg base N qual (defScope st) f cdv Ar outer s H E).xe →
      PSs (cxOf (L2.CX P w) P w K mg base N qual (defScope st) f cdv Ar outer s H E) (defBody st) (tS K mg (fun c d _ H => E c d H) A body)) :
    FnOk P w K mg base (L2.CX P w) (k + 1) f fd ps (SpD K mg ps.length (fnDen A ps.length N.length body)) := by
  refine F.okX S (fun vs H Q E h => ?_) (fun cdv Ar outer s H vs Q E hr h => ⟨_, hbody cdv Ar outer s H E hr (takes_of (X := cxOf (L2.CX P w) P w K mg base N qual (defScope st) f cdv Ar outer s H E) rfl rfl rfl rfl) (passes_of (X := cxOf (L2.CX P w) P w K mg base N qual (defScope st) f cdv Ar outer s H E) rfl), ?_⟩)
  · obtain ⟨args, R, F, r, sta, hl, _⟩ := h
    have := sta.slots.length
    rw [List.length_map, List.length_map] at this
    omega
  · obtain ⟨args, R, F, r, sta, hl, e, q⟩ := h
    have hvl : vs.length = ps.length := by
      have := sta.slots.length
      rw [List.length_map, List.length_map] at this
      omega
    unfold fnDen at e
    have pad := slots_pad (N.length - ps.length) sta.slots
    have hst : L2.start N vs = vs.map some ++ List.replicate (N.length - ps.length) none := by unfold L2.start; rw [hvl]
    have keep : ∀ {σ' : L2.St}, Kept A (L2.start N vs) σ' → ∀ j, 0 + j ∉ A → ∀ v, vs[j]? = some v → σ'[j]? = some (some v) := fun kp j hj v hv => by
      rw [kp.2 j (by simpa using hj), hst, List.getElem?_append_left (by rw [List.length_map]; exact (List.getElem?_eq_some_iff.mp hv).1), List.getElem?_map, hv]
      rfl
    split at e
    · rename_i ρ eb
      obtain ⟨os, e2, rfl⟩ := Option.map_eq_some_iff.mp e
      refine ⟨_, R, F, _, ⟨by rw [hst]; exact pad, sta.sub, sta.nd⟩, eb, fun σ' H' R' F' st' kp s' => ?_⟩
      obtain ⟨F2, a1, a2, a3⟩ := outs_ok s'.grow sta.slots st'.slots (keep kp) e2
      exact q .non H' R' F2 [] ⟨a1, st'.sub, a3 st'.nd⟩ ⟨rfl, .non⟩ (by rw [List.append_nil]; exact a3 st'.nd) (by rw [List.append_nil]; exact s'.less a2)
    · rename_i ρ a eb
      obtain ⟨os, e2, rfl⟩ := Option.map_eq_some_iff.mp e
      refine ⟨_, R, F, _, ⟨by rw [hst]; exact pad, sta.sub, sta.nd⟩, eb, fun σ' v H' R' F' Fv st' kp hv nv s' => ?_⟩
      obtain ⟨F2, a1, a2, a3⟩ := outs_ok s'.grow sta.slots st'.slots (keep kp) e2
      obtain ⟨n1, n2, n3⟩ := List.nodup_append.mp nv
      refine q v H' R' F2 Fv ⟨a1, st'.sub, a3 n1⟩ hv (List.nodup_append.mpr ⟨a3 n1, n2, fun a ha b hb => n3 a (a2 a ha) b hb⟩) (s'.less fun x hx => ?_)
      rcases List.mem_append.mp hx with z | z
      · exact List.mem_append_left _ (a2 x z)
      · exact List.mem_append_right _ z
    · rename_i ρ x eb
      obtain ⟨os, e2, rfl⟩ := Option.map_eq_some_iff.mp e
      refine ⟨_, R, F, _, ⟨by rw [hst]; exact pad, sta.sub, sta.nd⟩, eb, fun c dx σ' H' R' F' st' kp hx s' => ?_⟩
      obtain ⟨F2, a1, a2, a3⟩ := outs_ok s'.grow sta.slots st'.slots (keep kp) e2
      exact q c dx H' R' F2 ⟨a1, st'.sub, a3 st'.nd⟩ hx (s'.less a2)
    · cases e
end
end Den

/-! Comprehensions; lists that are changed. -/
namespace Den
open PySem PySem.Spec PyProof.Rows L2

def W0 : WX := fun _ _ _ _ => False
def wipeR (ρ : Rho) : List Nat → Rho
  | [] => ρ
  | v :: vs => (wipeR ρ vs).set v none
/-- the names of own as they were, the others as they are -/
def mergeR (own : List Nat) : Nat → Rho → Rho → Rho
  | i, x :: r, y :: r' => (if i ∈ own then x else y) :: mergeR own (i + 1) r r'
  | _, _, _ => []
def ownIm (own : List Nat) : Nat → Rho → Bool
  | _, [] => true
  | i, x :: r => (if i ∈ own then (match x with | some (.ow _, _) => false | _ => true) else true) && ownIm own (i + 1) r
/-- is a value of this shape taken among members of shape k -/
def kidOk (k : Sh) (m : Md) : Bool := match k, m with
  | _, .bo => false
  | .im, _ => true
  | k, .sh s => decide (k = s)
def compF (own : List Nat) (k : Sh) (tg : DenG) (tt : Den Bool) (te : Den DV) : List D → Rho → List D → Option (Rho × List D)
  | [], ρ, acc => some (ρ, acc)
  | d :: ds, ρ, acc => match tg d ρ with
    | none => none
    | some ρ1 => match tt ρ1 with
      | some (.ok ρ2 false) => compF own k tg tt te ds (wipeR ρ2 own) acc
      | some (.ok ρ2 true) => (match te ρ2 with
        | some (.ok ρ3 a) => if kidOk k a.1 = true ∧ acc.length < sizeLine then compF own k tg tt te ds (wipeR ρ3 own) (acc ++ [a.2]) else none
        | _ => none)
      | _ => none
def dComp (own : List Nat) (k : Sh) (di : Den (List D)) (tg : DenG) (tt : Den Bool) (te : Den DV) : Den DV := dBind di fun ds ρ =>
  if ownIm own 0 ρ = true then (match compF own k tg tt te ds (wipeR ρ own) [] with
    | some (ρ', acc) => some (.ok (mergeR own 0 ρ ρ') (.sh (.ow k), .lst acc))
    | none => none) else none

section
variable {α β γ δ : Type} {K : PySem.W.Frag} {mg : Str → Option Value} {W : WX} {A : List Nat} {rel : RelT α β} {rel' : RelT γ δ} {pu pa pb pc pd : Bool} {R R' R1 H H' H1 : Hp} {F F1 G : List Addr} {ρ ρ1 : Rho} {σ σ1 : L2.St} {Q : VK} {d : D} {ds : List D} {vs : List V} {p : Addr}

theorem wipe_get : ∀ {vs : List Nat} {σ : L2.St} {j : Nat}, (wipe σ vs)[j]? = if j ∈ vs ∧ j < σ.length then some none else σ[j]?
  | [], σ, j => by simp [wipe]
  | v :: vs, σ, j => by
    unfold wipe
    by_cases e : v = j
    · subst e
      by_cases hl : v < σ.length
      · rw [List.getElem?_set_self (by rw [wipe_length]; exact hl), if_pos ⟨List.mem_cons_self, hl⟩]
      · rw [List.getElem?_eq_none (by rw [List.length_set, wipe_length]; omega), if_neg (fun z => hl z.2), List.getElem?_eq_none (by omega)]
    · rw [List.getElem?_set_ne e, wipe_get]
      simp [Ne.symm e]
theorem wipe_same {vs : List Nat} {a b : L2.St} (hl : a.length = b.length) (h : ∀ j, j ∉ vs → a[j]? = b[j]?) : wipe a vs = wipe b vs := by
  apply List.ext_getElem?
  intro j
  rw [wipe_get, wipe_get, hl]
  by_cases hj : j ∈ vs
  · by_cases hb : j < b.length
    · rw [if_pos ⟨hj, hb⟩, if_pos ⟨hj, hb⟩]
    · rw [if_neg (fun z => hb z.2), if_neg (fun z => hb z.2), List.getElem?_eq_none (by omega), List.getElem?_eq_none (by omega)]
  · rw [if_neg (fun z => hj z.1), if_neg (fun z => hj z.1), h j hj]
theorem wipe_wipe {vs : List Nat} {a : L2.St} : wipe (wipe a vs) vs = wipe a vs := wipe_same (wipe_length _ _) fun j hj => by rw [wipe_get, if_neg fun z => hj z.1]
theorem Slots.wipe : ∀ {vs : List Nat} {ρ : Rho} {σ : L2.St} {F : List Addr}, Slots K R H ρ σ F → ∃ F', Slots K R H (wipeR ρ vs) (L2.wipe σ vs) F' ∧ (∀ a ∈ F', a ∈ F) ∧ (F.Nodup → F'.Nodup)
  | [], ρ, σ, F, h => ⟨F, h, fun _ h => h, id⟩
  | v :: vs, ρ, σ, F, h => by
    obtain ⟨F1, h1, h2, h3⟩ := Slots.wipe (vs := vs) h
    obtain ⟨F2, g1, g2, g3⟩ := Slots.drop (i := v) none h1
    exact ⟨F2, g1, fun a ha => h2 a (g2 a ha), fun n => g3 (h3 n)⟩
theorem Sta.wipe {vs : List Nat} (h : Sta K R H ρ σ F) : ∃ F', Sta K R H (wipeR ρ vs) (L2.wipe σ vs) F' ∧ ∀ a ∈ F', a ∈ F := by
  obtain ⟨F', h1, h2, h3⟩ := h.slots.wipe (vs := vs)
  exact ⟨F', ⟨h1, h.sub, h3 h.nd⟩, h2⟩
theorem Slots.merge {own : List Nat} (g : Sub R R') : ∀ {i : Nat} {ρ ρ' : Rho} {σ σ' : L2.St} {F F' : List Addr}, Slots K R H ρ σ F → Slots K R' H' ρ' σ' F' → σ'.length = σ.length → ownIm own i ρ = true →
    (∀ j, i + j ∉ own → σ'[j]? = σ[j]?) → ∃ F2, Slots K R' H' (mergeR own i ρ ρ') σ F2 ∧ (∀ x ∈ F2, x ∈ F') ∧ (F'.Nodup → F2.Nodup)
  | i, [], ρ', σ, σ', F, F', h0, h1, hl, ho, k => by
    obtain ⟨e, _⟩ := h0
    subst e
    refine ⟨[], ?_, (fun _ h => by cases h), (fun _ => List.nodup_nil)⟩
    unfold mergeR
    exact ⟨rfl, rfl⟩
  | i, x :: ρ, [], σ, σ', F, F', h0, h1, hl, ho, k => by
    have a := h0.length
    have b := h1.length
    rw [List.length_cons] at a
    rw [List.length_nil] at b
    omega
  | i, x :: ρ, y :: ρ', σ, σ', F, F', h0, h1, hl, ho, k => by
    unfold ownIm at ho
    rw [Bool.and_eq_true] at ho
    have r0 : ∃ v σ2 G, σ = v :: σ2 ∧ Slots K R H ρ σ2 G := by
      cases x with
      | none => obtain ⟨v, σ2, e, t⟩ := h0; exact ⟨v, σ2, _, e, t⟩
      | some sd => obtain ⟨s, d⟩ := sd; obtain ⟨v, σ2, L1, L2, e, _, _, t⟩ := h0; exact ⟨some v, σ2, L2, e, t⟩
    have r1 : ∃ v σ2 G, σ' = v :: σ2 ∧ Slots K R' H' ρ' σ2 G ∧ (∀ a ∈ G, a ∈ F') ∧ (F'.Nodup → G.Nodup) := by
      cases y with
      | none => obtain ⟨v, σ2, e, t⟩ := h1; exact ⟨v, σ2, _, e, t, fun _ h => h, id⟩
      | some sd => obtain ⟨s, d⟩ := sd; obtain ⟨v, σ2, L1, L2, e, e2, _, t⟩ := h1; subst e2; exact ⟨some v, σ2, L2, e, t, fun _ h => List.mem_append_right _ h, fun n => (List.nodup_append.mp n).2.1⟩
    obtain ⟨v0, σ2, G0, rfl, t0⟩ := r0
    obtain ⟨v1, σ3, G1, rfl, t1, sub1, nd1⟩ := r1
    obtain ⟨F2, a1, a2, a3⟩ := Slots.merge g (i := i + 1) t0 t1 (by simpa using hl) ho.2 (fun j hj => by
      have := k (j + 1) (by rw [← Nat.add_assoc, Nat.add_right_comm]; exact hj)
      simpa using this)
    unfold mergeR
    by_cases hi : i ∈ own
    · rw [if_pos hi]
      cases x with
      | none => exact ⟨F2, ⟨v0, σ2, rfl, a1⟩, fun x hx => sub1 x (a2 x hx), fun n => a3 (nd1 n)⟩
      | some sd =>
        obtain ⟨s, d⟩ := sd
        cases s with
        | ow s => have h9 := ho.1; rw [if_pos hi] at h9; cases h9
        | im =>
          obtain ⟨v, σ4, L1, L2, e, _, o, _⟩ := h0
          cases e
          exact ⟨F2, ⟨v, σ2, [], F2, rfl, rfl, ⟨rfl, o.2.mono g⟩, a1⟩, fun x hx => sub1 x (a2 x hx), fun n => a3 (nd1 n)⟩
    · rw [if_neg hi]
      have e01 : v1 = v0 := by simpa using k 0 (by simpa using hi)
      subst e01
      cases y with
      | none => exact ⟨F2, ⟨v1, σ2, rfl, a1⟩, fun x hx => sub1 x (a2 x hx), fun n => a3 (nd1 n)⟩
      | some sd =>
        obtain ⟨s, d⟩ := sd
        obtain ⟨w, σ5, L1, L2, e, rfl, o, t5⟩ := h1
        cases e
        obtain ⟨F3, b1, b2, b3⟩ := Slots.merge g (i := i + 1) t0 t5 (by simpa using hl) ho.2 (fun j hj => by
          have := k (j + 1) (by rw [← Nat.add_assoc, Nat.add_right_comm]; exact hj)
          simpa using this)
        refine ⟨L1 ++ F3, ⟨w, σ2, L1, F3, rfl, rfl, o, b1⟩, fun x hx => ?_, fun n => ?_⟩
        · rcases List.mem_append.mp hx with z | z
          · exact List.mem_append_left _ z
          · exact List.mem_append_right _ (b2 x z)
        · obtain ⟨n1, n2, n3⟩ := List.nodup_append.mp n
          exact List.nodup_append.mpr ⟨n1, b3 n2, fun a ha b hb => n3 a ha b (b2 b hb)⟩

theorem OwnL.append {f : D → V → List Addr → Prop} : ∀ {ds es : List D} {vs ws : List V} {F G : List Addr}, OwnL f ds vs F → OwnL f es ws G → OwnL f (ds ++ es) (vs ++ ws) (F ++ G)
  | [], _, _, _, _, _, ⟨e1, e2⟩, h => by rw [e1, e2]; exact h
  | d :: ds, _, _, _, _, _, ⟨v, vr, F1, F2, rfl, rfl, h1, t⟩, h => ⟨v, vr ++ _, F1, F2 ++ _, rfl, by rw [List.append_assoc], h1, OwnL.append t h⟩
theorem OwnL.foot {s : Sh} : ∀ {ds : List D} {vs : List V} {F : List Addr}, OwnL (Own K R H s) ds vs F → ∀ x ∈ F, (∃ o, H x = some o) ∧ R x = none
  | [], _, _, ⟨_, e⟩, x, hx => by rw [e] at hx; cases hx
  | d :: ds, _, _, ⟨v, vr, F1, F2, _, rfl, h1, t⟩, x, hx => by
    rcases List.mem_append.mp hx with z | z
    · exact h1.foot x z
    · exact OwnL.foot t x z
theorem OwnL.frame {s : Sh} (g : Sub R R') {ds : List D} {vs : List V} {F : List Addr} (h : OwnL (Own K R H s) ds vs F) (k : ∀ x ∈ F, H' x = H x) (n : ∀ x ∈ F, R' x = none) : OwnL (Own K R' H' s) ds vs F :=
  OwnL.imp (fun d v G hG q => q.frame g (fun x hx => k x (hG x hx)) fun x hx => n x (hG x hx)) h
/-- a value as a member of shape k: the ground may grow by it -/
theorem VOk.kid {a : DV} {v : V} {k : Sh} (g : Sub R H) (h : VOk K R H a v G) (hk : kidOk k a.1 = true) : ∃ R' G', Own K R' H k a.2 v G' ∧ Sub R R' ∧ Sub R' H ∧ (∀ x ∈ G', x ∈ G) ∧ (∀ x, x ∉ G → R' x = R x) ∧ (G.Nodup → G'.Nodup) ∧ (∀ x ∈ G', R' x = none) := by
  obtain ⟨m, d⟩ := a
  cases m with
  | bo => cases k <;> cases hk
  | sh s =>
    cases k with
    | im => exact ⟨ext R H G, [], ⟨rfl, h.freeze g (by simp)⟩, ext_sub g, sub_ext g, fun _ h => (by cases h), fun x hx => ext_out hx, fun _ => List.nodup_nil, fun _ h => (by cases h)⟩
    | ow k =>
      have e : Sh.ow k = s := of_decide_eq_true hk
      subst e
      exact ⟨R, G, h, .refl, g, fun _ h => h, fun _ _ => rfl, id, fun x hx => (h.foot x hx).2⟩

theorem comp_ok {own : List Nat} {k : Sh} {di : Den (List D)} {tg : DenG} {tt : Den Bool} {te : Den DV} (h : tE K mg W (pa && (pb && pc)) (dComp own k di tg tt te) σ H Q) :
    tLc (tI K mg W pa di) (gOf K own tg) (tT K mg W0 pb tt) (tE K mg W0 pc te) own σ H Q := by
  obtain ⟨ρ, R, F, res, hS, hden, hQ⟩ := h
  refine tG_bind hS hden hQ fun ρ1 ds J H1 R1 F1 G1 e st q n s pp => ?_
  obtain ⟨f, rfl⟩ := q
  rw [List.append_nil] at s
  have hQ1 := hQ.step s fun z => pp (Bool.and_eq_true_iff.mp z).1
  split at e
  rotate_left
  · cases e
  rename_i ho
  split at e
  rotate_left
  · cases e
  rename_i ρe acc ec
  cases e
  intro DD hDD
  obtain ⟨Fw, stw, subw⟩ := st.wipe (vs := own)
  have dF1 : DD ∉ F1 := fun hm => by
    obtain ⟨⟨u, e⟩, _⟩ := st.slots.foot DD hm
    rw [hDD] at e; cases e
  -- the invariant
  refine ⟨fun i m H2 => m = ds.length - i ∧ i ≤ ds.length ∧ ∃ ρ' R' F' acc' vs' Fk, Sta K R' H2 ρ' (L2.wipe σ own) F' ∧ compF own k tg tt te (ds.drop i) ρ' acc' = some (ρe, acc) ∧ H2 DD = some (.lst vs') ∧ R' DD = none ∧
    OwnL (Own K R' H2 k) acc' vs' Fk ∧ (F' ++ DD :: Fk).Nodup ∧ Step R1 H1 F1 R' H2 (F' ++ DD :: Fk) ∧ ((pb && pc) = true → Sub H1 H2), ⟨ds.length, by simp, Nat.zero_le _, wipeR ρ1 own, R1, Fw, [], [], [], stw.fresh hDD, ec, upd_same, st.none_of hDD, ⟨rfl, rfl⟩, ?_, ?_, ?_⟩, ?_⟩
  · exact List.nodup_append.mpr ⟨stw.nd, by simp, fun a ha b hb => by
      rw [List.mem_singleton.mp hb]; rintro rfl; exact dF1 (subw _ ha)⟩
  · exact .fresh hDD fun a ha => by
      rcases List.mem_append.mp ha with z | z
      · exact .inl (subw a z)
      · exact .inr (List.mem_singleton.mp z)
  · exact fun _ => .upd hDD
  rintro i m H2 ⟨rfl, hi, ρ', R', F', acc', vs', Fk, st', e', hD2, hRD, hO, nd, s', pu'⟩
  have f' := f.mono s'.grow
  have ndF := List.nodup_append.mp nd
  have hDF : DD ∉ F' := fun z => ndF.2.2 DD z DD List.mem_cons_self rfl
  have hDk : DD ∉ Fk := fun z => (List.nodup_cons.mp ndF.2.1).1 z
  by_cases hlt : i < ds.length
  · -- a turn
    refine .inr ⟨f'.go H2 i st'.sub hlt, fun H3 => i + 1 ≤ ds.length ∧ ∃ ρ' R' F' acc' vs' Fk, Sta K R' H3 ρ' (L2.wipe σ own) F' ∧ compF own k tg tt te (ds.drop (i + 1)) ρ' acc' = some (ρe, acc) ∧ H3 DD = some (.lst vs') ∧ R' DD = none ∧
      OwnL (Own K R' H3 k) acc' vs' Fk ∧ (F' ++ DD :: Fk).Nodup ∧ Step R1 H1 F1 R' H3 (F' ++ DD :: Fk) ∧ ((pb && pc) = true → Sub H1 H3), fun H3 h3 => ⟨ds.length - (i + 1), by omega, rfl, h3⟩, fun x H3 y => ?_⟩
    obtain ⟨d, hd, hx⟩ := f'.yld H2 i x H3 st'.sub hlt y
    have hdrop : ds.drop i = d :: ds.drop (i + 1) := by
      obtain ⟨h1, h2⟩ := List.getElem?_eq_some_iff.mp hd
      rw [List.drop_eq_getElem_cons h1, h2]
    rw [hdrop] at e'
    unfold compF at e'
    split at e'
    · cases e'
    rename_i ρ2 etg
    -- the item is plain
    obtain ⟨R2, st2, hx2, s2, sub23⟩ : ∃ R2, Sta K R2 H3 ρ' (L2.wipe σ own) F' ∧ At K R2 x d ∧ Step R' H2 F' R2 H3 F' ∧ Sub H2 H3 := by
      rcases hx with ⟨e1, h1⟩ | ⟨T, vs, es, rfl, hT, rfl, rfl, h1⟩
      · subst e1; exact ⟨R', st', h1, .refl, .refl⟩
      · exact ⟨_, st'.grow hT, .tup (.inl (.inl upd_same)) (h1.mono (.upd (st'.none_of hT))), .grown hT (st'.none_of hT), .upd hT⟩
    -- what is kept besides: the new list and its members
    have ft : ∀ x ∈ DD :: Fk, (∃ o, H2 x = some o) ∧ R' x = none := fun x hx => by
      rcases List.mem_cons.mp hx with rfl | z
      · exact ⟨⟨_, hD2⟩, hRD⟩
      · exact hO.foot x z
    have away0 : ∀ x ∈ DD :: Fk, x ∉ F' := fun x hx z => ndF.2.2 x z x hx rfl
    refine ⟨ρ', R2, F', d, ρ2, st2, hx2, etg, fun σ3 F3 st3 kp3 sub3 => ⟨?_, ?_⟩⟩
    · rw [wipe_same kp3.1 fun j hj => kp3.2 j hj, wipe_wipe]
    · have s23 : Step R' H2 F' R2 H3 F3 := s2.less sub3
      have hw3 : L2.wipe σ3 own = L2.wipe σ own := by rw [wipe_same kp3.1 fun j hj => kp3.2 j hj, wipe_wipe]
      split at e'
      · -- the test falls
        rename_i ρ4 eb
        refine ⟨ρ2, R2, F3, _, st3, eb, fun b H4 R4 F4 G4 st4 w n4 s4 p4 => ?_⟩
        obtain ⟨rfl, rfl⟩ := w
        rw [List.append_nil] at s4
        rw [if_neg Bool.false_ne_true]
        have s24 := s23.trans s4
        obtain ⟨k1, k2, k3⟩ := s24.away ft away0
        obtain ⟨F5, st5, sub5⟩ := st4.wipe (vs := own)
        rw [hw3] at st5
        refine ⟨hlt, wipeR ρ4 own, R4, F5, acc', vs', Fk, st5, e', (k1 DD List.mem_cons_self).trans hD2, k2 DD List.mem_cons_self, hO.frame s24.grow (fun x hx => k1 x (List.mem_cons_of_mem _ hx)) (fun x hx => k2 x (List.mem_cons_of_mem _ hx)), ?_, (s'.side s24).less fun x hx => ?_, fun z => (pu' z).trans (sub23.trans (p4 (Bool.and_eq_true_iff.mp z).1))⟩
        · exact List.nodup_append.mpr ⟨st5.nd, ndF.2.1, fun a ha b hb => by rintro rfl; exact k3 a hb (sub5 a ha)⟩
        · rcases List.mem_append.mp hx with z | z
          · exact List.mem_append_left _ (sub5 x z)
          · exact List.mem_append_right _ z
      · -- the test holds
        rename_i ρ4 eb
        refine ⟨ρ2, R2, F3, _, st3, eb, fun b H4 R4 F4 G4 st4 w n4 s4 p4 => ?_⟩
        obtain ⟨rfl, rfl⟩ := w
        rw [List.append_nil] at s4
        rw [if_pos rfl]
        split at e'
        rotate_left
        · cases e'
        rename_i ρ5 a ea
        split at e'
        rotate_left
        · cases e'
        rename_i hk
        refine ⟨ρ4, R4, F4, _, st4, ea, fun y H5 R5 F5 G5 st5 hv n5 s5 p5 => ?_⟩
        have s25 : Step R' H2 F' R5 H5 (F5 ++ G5) := (s23.trans s4).trans s5
        obtain ⟨k1, k2, k3⟩ := s25.away ft away0
        obtain ⟨R6, G6, o6, g1, g2, g3, g4, g5, g6⟩ := hv.kid st5.sub hk.1
        have hD5 : H5 DD = some (.lst vs') := (k1 DD List.mem_cons_self).trans hD2
        have nDG : DD ∉ G5 := fun z => k3 DD List.mem_cons_self (List.mem_append_right _ z)
        have nDF : DD ∉ F5 := fun z => k3 DD List.mem_cons_self (List.mem_append_left _ z)
        have hR6 : R6 DD = none := by rw [g4 DD nDG]; exact k2 DD List.mem_cons_self
        refine ⟨vs', hD5, by rw [OwnL.length hO]; exact hk.2, hlt, ?_⟩
        obtain ⟨F7, st7, sub7⟩ := st5.wipe (vs := own)
        have hw5 : L2.wipe σ3 own = L2.wipe σ own := hw3
        rw [hw5] at st7
        have nd5 := List.nodup_append.mp n5
        have out5 : ∀ x ∈ F7, x ∉ G5 := fun x hx z => nd5.2.2 x (sub7 x hx) x z rfl
        have ne7 : ∀ x ∈ F7, x ≠ DD := fun x hx e => nDF (e ▸ sub7 x hx)
        have ne6 : ∀ x ∈ G6, x ≠ DD := fun x hx e => nDG (e ▸ g3 x hx)
        have nek : ∀ x ∈ Fk, x ≠ DD := fun x hx e => hDk (e ▸ hx)
        have kg : ∀ x ∈ Fk, x ∉ G5 := fun x hx z => k3 x (List.mem_cons_of_mem _ hx) (List.mem_append_right _ z)
        have sub6 : Sub R6 (upd H5 DD (.lst (vs' ++ [y]))) := fun x o q => by
          have hx : x ≠ DD := fun e => by subst e; rw [hR6] at q; cases q
          rw [upd_ne hx]; exact g2 x o q
        refine ⟨wipeR ρ5 own, R6, F7, acc' ++ [a.2], vs' ++ [y], Fk ++ G6, st7.frame g1 sub6 (fun x hx => upd_ne (ne7 x hx)) (fun x hx => by rw [g4 x (out5 x hx)]; exact (st7.slots.foot x hx).2), e', upd_same, hR6, ?_, ?_, ?_, ?_⟩
        · refine OwnL.append (hO.frame (s25.grow.trans g1) (fun x hx => by rw [upd_ne (nek x hx)]; exact k1 x (List.mem_cons_of_mem _ hx)) fun x hx => by rw [g4 x (kg x hx)]; exact k2 x (List.mem_cons_of_mem _ hx)) ?_
          exact ⟨y, [], G6, [], rfl, by rw [List.append_nil], o6.frame .refl (fun x hx => upd_ne (ne6 x hx)) g6, rfl, rfl⟩
        · refine List.nodup_append.mpr ⟨st7.nd, List.nodup_cons.mpr ⟨fun z => ?_, List.nodup_append.mpr ⟨(List.nodup_cons.mp ndF.2.1).2, g5 nd5.2.1, fun a ha b hb => by rintro rfl; exact kg a ha (g3 a hb)⟩⟩, fun a ha b hb => ?_⟩
          · rcases List.mem_append.mp z with z | z
            · exact hDk z
            · exact nDG (g3 DD z)
          · rintro rfl
            rcases List.mem_cons.mp hb with z | z
            · exact ne7 a ha z
            · rcases List.mem_append.mp z with z | z
              · exact k3 a (List.mem_cons_of_mem _ z) (List.mem_append_left _ (sub7 a ha))
              · exact out5 a ha (g3 a z)
        · have s15 := s'.side s25
          have h1n : ∀ x, R6 x ≠ R5 x → x ∈ G5 := fun x hx => Decidable.byContradiction fun z => hx (g4 x z)
          refine ⟨fun x o e n => ?_, s15.grow.trans g1, fun x o q => ?_, fun x hx => ?_, fun x o e => ?_⟩
          · have hx : x ≠ DD := ne_of_none e hDD
            rw [upd_ne hx]; exact s15.keep x o e n
          · by_cases hx : x ∈ G5
            · rcases s15.fnew x (List.mem_append_left _ (List.mem_append_right _ hx)) with z | z
              · exact .inr (.inl z)
              · exact .inr (.inr z)
            · rw [g4 x hx] at q; exact s15.rnew x o q
          · rcases List.mem_append.mp hx with z | z
            · exact s15.fnew x (List.mem_append_left _ (List.mem_append_left _ (sub7 x z)))
            · rcases List.mem_cons.mp z with z | z
              · exact s15.fnew x (List.mem_append_right _ (by rw [z]; exact List.mem_cons_self))
              · rcases List.mem_append.mp z with z | z
                · exact s15.fnew x (List.mem_append_right _ (List.mem_cons_of_mem _ z))
                · exact s15.fnew x (List.mem_append_left _ (List.mem_append_right _ (g3 x z)))
          · by_cases hx : x = DD
            · subst hx; exact ⟨_, upd_same⟩
            · rw [upd_ne hx]; exact s15.there x o e
        · intro z
          have h15 := ((pu' z).trans (sub23.trans (p4 (Bool.and_eq_true_iff.mp z).1))).trans (p5 (Bool.and_eq_true_iff.mp z).2)
          intro x o e
          rw [upd_ne (ne_of_none e hDD)]
          exact h15 x o e
      · cases e'
  · have ei : i = ds.length := by omega
    subst ei
    rw [List.drop_length] at e'
    cases e'
    refine .inl ⟨f'.stop H2 _ st'.sub (Nat.le_refl _), ?_⟩
    obtain ⟨F2, a1, a2, a3⟩ := Slots.merge (own := own) (i := 0) s'.grow st.slots st'.slots (wipe_length _ _) ho fun j hj => by
      rw [wipe_get, if_neg fun z => hj (by simpa using z.1)]
    refine hQ1 (.ref DD) H2 R' F2 (DD :: Fk) ⟨a1, st'.sub, a3 st'.nd⟩ ⟨DD, vs', Fk, rfl, rfl, hD2, hRD, hO⟩ ?_ (s'.less fun x hx => ?_) fun z => pu' (Bool.and_eq_true_iff.mp z).2
    · exact List.nodup_append.mpr ⟨a3 st'.nd, ndF.2.1, fun a ha b hb => ndF.2.2 a (a2 a ha) b hb⟩
    · rcases List.mem_append.mp hx with z | z
      · exact List.mem_append_left _ (a2 x z)
      · exact List.mem_append_right _ z
end
end Den

/-! Comprehensions of two walks. -/
namespace Den
open PySem PySem.Spec PyProof.Rows L2
def comp2F (own vs1 : List Nat) (k : Sh) (tg : DenG) (tt : Den Bool) (di1 : Den (List D)) (tg1 : DenG) (tt1 : Den Bool) (te : Den DV) : List D → Rho → List D → Option (Rho × List D)
  | [], ρ, acc => some (ρ, acc)
  | d :: ds, ρ, acc => match tg d ρ with
    | none => none
    | some ρ1 => match tt ρ1 with
      | some (.ok ρ2 false) => comp2F own vs1 k tg tt di1 tg1 tt1 te ds (wipeR ρ2 own) acc
      | some (.ok ρ2 true) => (match di1 ρ2 with
        | some (.ok ρ3 ds1) => (match compF vs1 k tg1 tt1 te ds1 (wipeR ρ3 vs1) acc with
          | some (ρ4, acc') => comp2F own vs1 k tg tt di1 tg1 tt1 te ds (wipeR ρ4 own) acc'
          | none => none)
        | _ => none)
      | _ => none
def dComp2 (own vs1 : List Nat) (k : Sh) (di : Den (List D)) (tg : DenG) (tt : Den Bool) (di1 : Den (List D)) (tg1 : DenG) (tt1 : Den Bool) (te : Den DV) : Den DV := dBind di fun ds ρ =>
  if ownIm own 0 ρ = true then (match comp2F own vs1 k tg tt di1 tg1 tt1 te ds (wipeR ρ own) [] with
    | some (ρ', acc) => some (.ok (mergeR own 0 ρ ρ') (.sh (.ow k), .lst acc))
    | none => none) else none
section
variable {α β γ δ : Type} {K : PySem.W.Frag} {mg : Str → Option Value} {W : WX} {A : List Nat} {rel : RelT α β} {rel' : RelT γ δ} {pu pa pb pc pd pe pz : Bool} {R R' R1 R2 H H' H1 H2 H3 : Hp} {F F1 G : List Addr} {ρ ρ1 ρ2 ρ' : Rho} {σ σ1 σ' : L2.St} {Q : VK} {d : D} {ds acc : List D} {vs : List V} {p DD : Addr} {k : Sh}
/-- within a comprehension: the state, the new list at DD and its members besides -/
def CI (K : PySem.W.Frag) (k : Sh) (R1 H1 : Hp) (F1 : List Addr) (DD : Addr) (pz : Bool) (ρ' : Rho) (σ' : L2.St) (acc : List D) (R' H2 : Hp) : Prop := ∃ F' vs' Fk, Sta K R' H2 ρ' σ' F' ∧ H2 DD = some (.lst vs') ∧ R' DD = none ∧
  OwnL (Own K R' H2 k) acc vs' Fk ∧ (F' ++ DD :: Fk).Nodup ∧ Step R1 H1 F1 R' H2 (F' ++ DD :: Fk) ∧ (pz = true → Sub H1 H2)
theorem CI.sub (c : CI K k R1 H1 F1 DD pz ρ' σ' acc R' H2) : Sub R' H2 := by obtain ⟨_, _, _, st, _⟩ := c; exact st.sub
/-- a step of the names' own -/
theorem CI.step {F3 : List Addr} (hS : ∀ F', Sta K R' H2 ρ' σ' F' → ∃ F3, Sta K R2 H3 ρ2 σ1 F3 ∧ Step R' H2 F' R2 H3 F3 ∧ (pz = true → Sub H2 H3)) (c : CI K k R1 H1 F1 DD pz ρ' σ' acc R' H2) : CI K k R1 H1 F1 DD pz ρ2 σ1 acc R2 H3 := by
  obtain ⟨F', vs', Fk, st, hD, hR, hO, nd, s, pp⟩ := c
  obtain ⟨F3, st3, s3, p3⟩ := hS F' st
  have ndF := List.nodup_append.mp nd
  have ft : ∀ x ∈ DD :: Fk, (∃ o, H2 x = some o) ∧ R' x = none := fun x hx => by
    rcases List.mem_cons.mp hx with rfl | z
    · exact ⟨⟨_, hD⟩, hR⟩
    · exact hO.foot x z
  obtain ⟨k1, k2, k3⟩ := s3.away ft fun x hx z => ndF.2.2 x z x hx rfl
  exact ⟨F3, vs', Fk, st3, (k1 DD List.mem_cons_self).trans hD, k2 DD List.mem_cons_self, hO.frame s3.grow (fun x hx => k1 x (List.mem_cons_of_mem _ hx)) (fun x hx => k2 x (List.mem_cons_of_mem _ hx)),
    List.nodup_append.mpr ⟨st3.nd, ndF.2.1, fun a ha b hb => by rintro rfl; exact k3 a hb ha⟩, s.side s3, fun z => (pp z).trans (p3 z)⟩
theorem CI.wipe {vs : List Nat} (c : CI K k R1 H1 F1 DD pz ρ' σ' acc R' H2) : CI K k R1 H1 F1 DD pz (wipeR ρ' vs) (L2.wipe σ' vs) acc R' H2 :=
  c.step (F3 := []) fun F' st => by
    obtain ⟨F3, h1, h2⟩ := st.wipe (vs := vs)
    exact ⟨F3, h1, Step.refl.less h2, fun _ => .refl⟩
/-- a piece without what is owned -/
theorem CI.piece {den : Den α} {a : α} {Q : β → Hp → Prop} (c : CI K k R1 H1 F1 DD pz ρ' σ' acc R' H2) (e : den ρ' = some (.ok ρ2 a)) (hF : ∀ {R H a v F}, rel R H a v F → F = []) (hp : pz = true → pa = true)
    (go : ∀ v R3 H3, rel R3 H3 a v [] → CI K k R1 H1 F1 DD pz ρ2 σ' acc R3 H3 → Sub R' R3 → Q v H3) : tG K mg W0 rel pa den σ' H2 Q := by
  have c0 := c
  obtain ⟨F', vs', Fk, st, hD, hR, hO, nd, s, pp⟩ := c
  refine ⟨ρ', R', F', _, st, e, fun v H3 R3 F3 G3 st3 w n3 s3 p3 => ?_⟩
  have hg := hF w
  subst hg
  rw [List.append_nil] at s3
  have ndF := List.nodup_append.mp nd
  have ft : ∀ x ∈ DD :: Fk, (∃ o, H2 x = some o) ∧ R' x = none := fun x hx => by
    rcases List.mem_cons.mp hx with rfl | z
    · exact ⟨⟨_, hD⟩, hR⟩
    · exact hO.foot x z
  obtain ⟨k1, k2, k3⟩ := s3.away ft fun x hx z => ndF.2.2 x z x hx rfl
  exact go v R3 H3 w ⟨F3, vs', Fk, st3, (k1 DD List.mem_cons_self).trans hD, k2 DD List.mem_cons_self, hO.frame s3.grow (fun x hx => k1 x (List.mem_cons_of_mem _ hx)) (fun x hx => k2 x (List.mem_cons_of_mem _ hx)),
    List.nodup_append.mpr ⟨st3.nd, ndF.2.1, fun a ha b hb => by rintro rfl; exact k3 a hb ha⟩, s.side s3, fun z => (pp z).trans (p3 (hp z))⟩ s3.grow
theorem CI.item {J : It} {i : Nat} {x : V} (c : CI K k R1 H1 F1 DD pz ρ' σ' acc R' H2) (f : Feeds K J R' ds) (hi : i < ds.length) (y : J.yld i H2 x H3) : ∃ d R2, ds[i]? = some d ∧ CI K k R1 H1 F1 DD pz ρ' σ' acc R2 H3 ∧ At K R2 x d ∧ Sub R' R2 := by
  obtain ⟨d, hd, hx⟩ := f.yld H2 i x H3 c.sub hi y
  rcases hx with ⟨e1, h1⟩ | ⟨T, vs, es, rfl, hT, rfl, rfl, h1⟩
  · subst e1; exact ⟨d, R', hd, c, h1, .refl⟩
  · have hr : R' T = none := by
      obtain ⟨_, _, _, st, _⟩ := c
      exact st.none_of hT
    refine ⟨_, _, hd, c.step (F3 := []) fun F' st => ⟨F', st.grow hT, .grown hT hr, fun _ => .upd hT⟩, .tup (.inl (.inl upd_same)) (h1.mono (.upd hr)), .upd hr⟩
theorem CI.tgt {tg : DenG} {x : V} {Q : L2.St → Hp → Prop} (c : CI K k R1 H1 F1 DD pz ρ' σ' acc R' H2) (q : At K R' x d) (e : tg d ρ' = some ρ2) (go : ∀ σ3, CI K k R1 H1 F1 DD pz ρ2 σ3 acc R' H2 → Kept A σ' σ3 → Q σ3 H2) : gOf K A tg x σ' H2 Q := by
  have c0 := c
  obtain ⟨F', vs', Fk, st, hD, hR, hO, nd, s, pp⟩ := c
  have ndF := List.nodup_append.mp nd
  refine ⟨ρ', R', F', d, ρ2, st, q, e, fun σ3 F3 st3 kp sub => go σ3 ⟨F3, vs', Fk, st3, hD, hR, hO, List.nodup_append.mpr ⟨st3.nd, ndF.2.1, fun a ha b hb => ndF.2.2 a (sub a ha) b hb⟩, s.less fun x hx => ?_, pp⟩ kp⟩
  rcases List.mem_append.mp hx with z | z
  · exact List.mem_append_left _ (sub x z)
  · exact List.mem_append_right _ z
theorem CI.elem {te : Den DV} {a : DV} {N : Hp → Prop} (hDD : H1 DD = none) (c : CI K k R1 H1 F1 DD pz ρ' σ' acc R' H2) (ea : te ρ' = some (.ok ρ2 a)) (hk : kidOk k a.1 = true) (hl : acc.length < sizeLine) (hp : pz = true → pc = true)
    (go : ∀ R6 H6, CI K k R1 H1 F1 DD pz ρ2 σ' (acc ++ [a.2]) R6 H6 → Sub R' R6 → N H6) : tE K mg W0 pc te σ' H2 fun y H4 => ∃ acc, H4 DD = some (.lst acc) ∧ acc.length < sizeLine ∧ N (upd H4 DD (.lst (acc ++ [y]))) := by
  obtain ⟨F', vs', Fk, st', hD2, hRD, hO, nd, s', pu'⟩ := c
  have ndF := List.nodup_append.mp nd
  have hDF : DD ∉ F' := fun z => ndF.2.2 DD z DD List.mem_cons_self rfl
  have hDk : DD ∉ Fk := fun z => (List.nodup_cons.mp ndF.2.1).1 z
  have ft : ∀ x ∈ DD :: Fk, (∃ o, H2 x = some o) ∧ R' x = none := fun x hx => by
    rcases List.mem_cons.mp hx with rfl | z
    · exact ⟨⟨_, hD2⟩, hRD⟩
    · exact hO.foot x z
  refine ⟨ρ', R', F', _, st', ea, fun y H5 R5 F5 G5 st5 hv n5 s25 p5 => ?_⟩
  obtain ⟨k1, k2, k3⟩ := s25.away ft fun x hx z => ndF.2.2 x z x hx rfl
  obtain ⟨R6, G6, o6, g1, g2, g3, g4, g5, g6⟩ := hv.kid st5.sub hk
  have hD5 : H5 DD = some (.lst vs') := (k1 DD List.mem_cons_self).trans hD2
  have nDG : DD ∉ G5 := fun z => k3 DD List.mem_cons_self (List.mem_append_right _ z)
  have nDF : DD ∉ F5 := fun z => k3 DD List.mem_cons_self (List.mem_append_left _ z)
  have hR6 : R6 DD = none := by rw [g4 DD nDG]; exact k2 DD List.mem_cons_self
  refine ⟨vs', hD5, by rw [OwnL.length hO]; exact hl, go R6 _ ?_ (s25.grow.trans g1)⟩
  have nd5 := List.nodup_append.mp n5
  have out5 : ∀ x ∈ F5, x ∉ G5 := fun x hx z => nd5.2.2 x hx x z rfl
  have ne7 : ∀ x ∈ F5, x ≠ DD := fun x hx e => nDF (e ▸ hx)
  have ne6 : ∀ x ∈ G6, x ≠ DD := fun x hx e => nDG (e ▸ g3 x hx)
  have nek : ∀ x ∈ Fk, x ≠ DD := fun x hx e => hDk (e ▸ hx)
  have kg : ∀ x ∈ Fk, x ∉ G5 := fun x hx z => k3 x (List.mem_cons_of_mem _ hx) (List.mem_append_right _ z)
  have sub6 : Sub R6 (upd H5 DD (.lst (vs' ++ [y]))) := fun x o q => by
    have hx : x ≠ DD := fun e => by subst e; rw [hR6] at q; cases q
    rw [upd_ne hx]; exact g2 x o q
  refine ⟨F5, vs' ++ [y], Fk ++ G6, st5.frame g1 sub6 (fun x hx => upd_ne (ne7 x hx)) (fun x hx => by rw [g4 x (out5 x hx)]; exact (st5.slots.foot x hx).2), upd_same, hR6, ?_, ?_, ?_, ?_⟩
  · refine OwnL.append (hO.frame (s25.grow.trans g1) (fun x hx => by rw [upd_ne (nek x hx)]; exact k1 x (List.mem_cons_of_mem _ hx)) fun x hx => by rw [g4 x (kg x hx)]; exact k2 x (List.mem_cons_of_mem _ hx)) ?_
    exact ⟨y, [], G6, [], rfl, by rw [List.append_nil], o6.frame .refl (fun x hx => upd_ne (ne6 x hx)) g6, rfl, rfl⟩
  · refine List.nodup_append.mpr ⟨st5.nd, List.nodup_cons.mpr ⟨fun z => ?_, List.nodup_append.mpr ⟨(List.nodup_cons.mp ndF.2.1).2, g5 nd5.2.1, fun a ha b hb => by rintro rfl; exact kg a ha (g3 a hb)⟩⟩, fun a ha b hb => ?_⟩
    · rcases List.mem_append.mp z with z | z
      · exact hDk z
      · exact nDG (g3 DD z)
    · rintro rfl
      rcases List.mem_cons.mp hb with z | z
      · exact ne7 a ha z
      · rcases List.mem_append.mp z with z | z
        · exact k3 a (List.mem_cons_of_mem _ z) (List.mem_append_left _ ha)
        · exact out5 a ha (g3 a z)
  · have s15 := s'.side s25
    refine ⟨fun x o e n => ?_, s15.grow.trans g1, fun x o q => ?_, fun x hx => ?_, fun x o e => ?_⟩
    · have hx : x ≠ DD := ne_of_none e hDD
      rw [upd_ne hx]; exact s15.keep x o e n
    · by_cases hx : x ∈ G5
      · rcases s15.fnew x (List.mem_append_left _ (List.mem_append_right _ hx)) with z | z
        · exact .inr (.inl z)
        · exact .inr (.inr z)
      · rw [g4 x hx] at q; exact s15.rnew x o q
    · rcases List.mem_append.mp hx with z | z
      · exact s15.fnew x (List.mem_append_left _ (List.mem_append_left _ z))
      · rcases List.mem_cons.mp z with z | z
        · exact s15.fnew x (List.mem_append_right _ (by rw [z]; exact List.mem_cons_self))
        · rcases List.mem_append.mp z with z | z
          · exact s15.fnew x (List.mem_append_right _ (List.mem_cons_of_mem _ z))
          · exact s15.fnew x (List.mem_append_left _ (List.mem_append_right _ (g3 x z)))
    · by_cases hx : x = DD
      · subst hx; exact ⟨_, upd_same⟩
      · rw [upd_ne hx]; exact s15.there x o e
  · intro z
    have h15 := (pu' z).trans (p5 (hp z))
    intro x o e
    rw [upd_ne (ne_of_none e hDD)]
    exact h15 x o e
theorem drop_at {i : Nat} (hd : ds[i]? = some d) : ds.drop i = d :: ds.drop (i + 1) := by
  obtain ⟨h1, h2⟩ := List.getElem?_eq_some_iff.mp hd
  rw [List.drop_eq_getElem_cons h1, h2]
theorem comp2_ok {own vs1 : List Nat} {k : Sh} {di di1 : Den (List D)} {tg tg1 : DenG} {tt tt1 : Den Bool} {te : Den DV} (hv : ∀ i ∈ vs1, i ∈ own) (h : tE K mg W (pa && (pb && (pc && (pd && pe)))) (dComp2 own vs1 k di tg tt di1 tg1 tt1 te) σ H Q) :
    tLc2 (tI K mg W pa di) (gOf K own tg) (tT K mg W0 pb tt) (tI K mg W0 pc di1) (gOf K vs1 tg1) (tT K mg W0 pd tt1) (tE K mg W0 pe te) own vs1 σ H Q := by
  obtain ⟨ρ, R, F, res, hS, hden, hQ⟩ := h
  refine tG_bind hS hden hQ fun ρ1 ds J H1 R1 F1 G1 e st q n s pp => ?_
  obtain ⟨f, rfl⟩ := q
  rw [List.append_nil] at s
  have hQ1 := hQ.step s fun z => pp (Bool.and_eq_true_iff.mp z).1
  split at e
  rotate_left
  · cases e
  rename_i ho
  split at e
  rotate_left
  · cases e
  rename_i ρe acc ec
  cases e
  intro DD hDD
  obtain ⟨Fw, stw, subw⟩ := st.wipe (vs := own)
  have dF1 : DD ∉ F1 := fun hm => by
    obtain ⟨⟨u, e⟩, _⟩ := st.slots.foot DD hm
    rw [hDD] at e; cases e
  have c0 : CI K k R1 H1 F1 DD (pb && (pc && (pd && pe))) (wipeR ρ1 own) (L2.wipe σ own) [] R1 (upd H1 DD (.lst [])) := by
    refine ⟨Fw, [], [], stw.fresh hDD, upd_same, st.none_of hDD, ⟨rfl, rfl⟩, ?_, ?_, fun _ => .upd hDD⟩
    · exact List.nodup_append.mpr ⟨stw.nd, by simp, fun a ha b hb => by
        rw [List.mem_singleton.mp hb]; rintro rfl; exact dF1 (subw _ ha)⟩
    · exact .fresh hDD fun a ha => by
        rcases List.mem_append.mp ha with z | z
        · exact .inl (subw a z)
        · exact .inr (List.mem_singleton.mp z)
  have pB : (pb && (pc && (pd && pe))) = true → pb = true ∧ pc = true ∧ pd = true ∧ pe = true := fun z => by
    simpa [Bool.and_eq_true] using z
  refine ⟨fun i m H2 => m = ds.length - i ∧ i ≤ ds.length ∧ ∃ ρ' R' acc', CI K k R1 H1 F1 DD (pb && (pc && (pd && pe))) ρ' (L2.wipe σ own) acc' R' H2 ∧ Sub R1 R' ∧ comp2F own vs1 k tg tt di1 tg1 tt1 te (ds.drop i) ρ' acc' = some (ρe, acc),
    ⟨ds.length, by simp, Nat.zero_le _, _, R1, [], c0, .refl, ec⟩, ?_⟩
  rintro i m H2 ⟨rfl, hi, ρ', R', acc', c, g, e'⟩
  have f' := f.mono g
  by_cases hlt : i < ds.length
  · refine .inr ⟨f'.go H2 i c.sub hlt, fun H3 => i + 1 ≤ ds.length ∧ ∃ ρ' R' acc', CI K k R1 H1 F1 DD (pb && (pc && (pd && pe))) ρ' (L2.wipe σ own) acc' R' H3 ∧ Sub R1 R' ∧ comp2F own vs1 k tg tt di1 tg1 tt1 te (ds.drop (i + 1)) ρ' acc' = some (ρe, acc), fun H3 h3 => ⟨ds.length - (i + 1), by omega, rfl, h3⟩, fun x H3 y => ?_⟩
    obtain ⟨d, R2, hd, c2, qx, g2⟩ := c.item f' hlt y
    rw [drop_at hd] at e'
    unfold comp2F at e'
    split at e'
    · cases e'
    rename_i ρ2 etg
    refine c2.tgt qx etg fun σ3 c3 kp => ⟨by rw [wipe_same kp.1 fun j hj => kp.2 j hj, wipe_wipe], ?_⟩
    have hw3 : L2.wipe σ3 own = L2.wipe σ own := by rw [wipe_same kp.1 fun j hj => kp.2 j hj, wipe_wipe]
    split at e'
    · rename_i ρ4 eb
      refine c3.piece eb (fun h => h.2) (fun z => (pB z).1) fun b R4 H4 w c4 g4 => ?_
      obtain ⟨rfl, _⟩ := w
      rw [if_neg Bool.false_ne_true]
      exact ⟨hlt, _, R4, acc', by rw [← hw3]; exact c4.wipe, (g.trans g2).trans g4, e'⟩
    · rename_i ρ4 eb
      refine c3.piece eb (fun h => h.2) (fun z => (pB z).1) fun b R4 H4 w c4 g4 => ?_
      obtain ⟨rfl, _⟩ := w
      rw [if_pos rfl]
      split at e'
      rotate_left
      · cases e'
      rename_i ρ5 ds1 e5
      split at e'
      rotate_left
      · cases e'
      rename_i ρ6 acc6 e6
      refine c4.piece e5 (fun h => h.2) (fun z => (pB z).2.1) fun J1 R5 H5 f5 c5 g5 => ?_
      have f5' := f5.1
      -- the inner walk
      refine ⟨fun i1 m1 H6 => m1 = ds1.length - i1 ∧ i1 ≤ ds1.length ∧ ∃ ρ7 R7 acc7, CI K k R1 H1 F1 DD (pb && (pc && (pd && pe))) ρ7 (L2.wipe σ3 vs1) acc7 R7 H6 ∧ Sub R5 R7 ∧ compF vs1 k tg1 tt1 te (ds1.drop i1) ρ7 acc7 = some (ρ6, acc6),
        ⟨ds1.length, by simp, Nat.zero_le _, _, R5, acc', c5.wipe, .refl, e6⟩, ?_⟩
      rintro i1 m1 H6 ⟨rfl, hi1, ρ7, R7, acc7, c7, g7, e7⟩
      have f7 := f5'.mono g7
      have gR : Sub R1 R7 := (((g.trans g2).trans g4).trans g5).trans g7
      by_cases hlt1 : i1 < ds1.length
      · refine .inr ⟨f7.go H6 i1 c7.sub hlt1, fun H8 => i1 + 1 ≤ ds1.length ∧ ∃ ρ7 R7 acc7, CI K k R1 H1 F1 DD (pb && (pc && (pd && pe))) ρ7 (L2.wipe σ3 vs1) acc7 R7 H8 ∧ Sub R5 R7 ∧ compF vs1 k tg1 tt1 te (ds1.drop (i1 + 1)) ρ7 acc7 = some (ρ6, acc6), fun H8 h8 => ⟨ds1.length - (i1 + 1), by omega, rfl, h8⟩, fun x1 H8 y1 => ?_⟩
        obtain ⟨d1, R8, hd1, c8, qx1, g8⟩ := c7.item f7 hlt1 y1
        rw [drop_at hd1] at e7
        unfold compF at e7
        split at e7
        · cases e7
        rename_i ρ9 etg1
        refine c8.tgt qx1 etg1 fun σ9 c9 kp9 => ⟨by rw [wipe_same kp9.1 fun j hj => kp9.2 j hj, wipe_wipe], ?_⟩
        have hw9 : L2.wipe σ9 vs1 = L2.wipe σ3 vs1 := by rw [wipe_same kp9.1 fun j hj => kp9.2 j hj, wipe_wipe]
        split at e7
        · rename_i ρ10 eb1
          refine c9.piece eb1 (fun h => h.2) (fun z => (pB z).2.2.1) fun b R10 H10 w c10 g10 => ?_
          obtain ⟨rfl, _⟩ := w
          rw [if_neg Bool.false_ne_true]
          exact ⟨hlt1, _, R10, acc7, by rw [← hw9]; exact c10.wipe, (g7.trans g8).trans g10, e7⟩
        · rename_i ρ10 eb1
          refine c9.piece eb1 (fun h => h.2) (fun z => (pB z).2.2.1) fun b R10 H10 w c10 g10 => ?_
          obtain ⟨rfl, _⟩ := w
          rw [if_pos rfl]
          split at e7
          rotate_left
          · cases e7
          rename_i ρ11 a ea
          split at e7
          rotate_left
          · cases e7
          rename_i hk
          exact CI.elem (N := fun H8 => i1 + 1 ≤ ds1.length ∧ ∃ ρ7 R7 acc7, CI K k R1 H1 F1 DD (pb && (pc && (pd && pe))) ρ7 (L2.wipe σ3 vs1) acc7 R7 H8 ∧ Sub R5 R7 ∧ compF vs1 k tg1 tt1 te (ds1.drop (i1 + 1)) ρ7 acc7 = some (ρ6, acc6)) hDD c10 ea hk.1 hk.2 (fun z => (pB z).2.2.2) fun R12 H12 c12 g12 => ⟨hlt1, _, R12, _, by rw [← hw9]; exact c12.wipe, ((g7.trans g8).trans g10).trans g12, e7⟩
        · cases e7
      · have ei : i1 = ds1.length := by omega
        subst ei
        rw [List.drop_length] at e7
        cases e7
        refine .inl ⟨f7.stop H6 _ c7.sub (Nat.le_refl _), hlt, _, R7, _, ?_, gR, e'⟩
        have cw := c7.wipe (vs := own)
        have hww : L2.wipe (L2.wipe σ3 vs1) own = L2.wipe σ own := by
          rw [← hw3]
          exact wipe_same (wipe_length _ _) fun j hj => by rw [wipe_get, if_neg fun z => hj (hv j z.1)]
        rw [hww] at cw
        exact cw
    · cases e'
  · have ei : i = ds.length := by omega
    subst ei
    rw [List.drop_length] at e'
    cases e'
    refine .inl ⟨f'.stop H2 _ c.sub (Nat.le_refl _), ?_⟩
    obtain ⟨F', vs', Fk, st', hD2, hRD, hO, nd, s', pu'⟩ := c
    have ndF := List.nodup_append.mp nd
    obtain ⟨F2, a1, a2, a3⟩ := Slots.merge (own := own) (i := 0) s'.grow st.slots st'.slots (wipe_length _ _) ho fun j hj => by
      rw [wipe_get, if_neg fun z => hj (by simpa using z.1)]
    refine hQ1 (.ref DD) H2 R' F2 (DD :: Fk) ⟨a1, st'.sub, a3 st'.nd⟩ ⟨DD, vs', Fk, rfl, rfl, hD2, hRD, hO⟩ ?_ (s'.less fun x hx => ?_) fun z => pu' (Bool.and_eq_true_iff.mp z).2
    · exact List.nodup_append.mpr ⟨a3 st'.nd, ndF.2.1, fun a ha b hb => ndF.2.2 a (a2 a ha) b hb⟩
    · rcases List.mem_append.mp hx with z | z
      · exact List.mem_append_left _ (a2 x z)
      · exact List.mem_append_right _ z
end
end Den

/-! Lists that are changed. -/
namespace Den
open PySem PySem.Spec PyProof.Rows L2
section
variable {α β γ δ : Type} {K : PySem.W.Frag} {mg : Str → Option Value} {W : WX} {A : List Nat} {rel : RelT α β} {rel' : RelT γ δ} {pu pa pb pc pd : Bool} {R R' R1 H H' H1 : Hp} {F F1 G : List Addr} {ρ ρ1 : Rho} {σ σ1 : L2.St} {Q : VK} {d : D} {ds : List D} {vs : List V} {p : Addr} {T : Ends}
/-- an owned list of a name, to be changed -/
theorem Sta.relist {i : Nat} {k : Sh} (hS : Sta K R H ρ σ F) (e : ρ[i]? = some (some (.ow k, .lst ds))) :
    ∃ (p : Addr) (vs : List V) (Fk Fr : List Addr), σ[i]? = some (some (.ref p)) ∧ H p = some (.lst vs) ∧ R p = none ∧ p ∈ F ∧ OwnL (Own K R H k) ds vs Fk ∧ (∀ x ∈ Fk, x ∈ F) ∧ (p :: Fk).Nodup ∧ (∀ x ∈ Fr, x ∈ F) ∧ (∀ x ∈ p :: Fk, x ∉ Fr) ∧
      ∀ (R' : Hp) (k' : Sh) (ds' : List D) (vs' : List V) (G : List Addr), Sub R R' → Sub R' H → R' p = none → (∀ x ∈ Fr, R' x = none) → OwnL (Own K R' (upd H p (.lst vs')) k') ds' vs' G → (p :: G).Nodup → (∀ x ∈ G, x ∉ Fr) →
        ∃ F', Sta K R' (upd H p (.lst vs')) (ρ.set i (some (.ow k', .lst ds'))) σ F' ∧ ∀ x ∈ F', x ∈ F ∨ x ∈ G := by
  obtain ⟨v, F1, Fr, h1, h2, h3, h4⟩ := hS.slots.pick e
  obtain ⟨p, vs, Fk, rfl, rfl, hp, hn, hO⟩ := h2
  have nd := h4.nodup_iff.mp hS.nd
  have mem : ∀ x, x ∈ F ↔ x ∈ p :: Fk ++ Fr := fun x => h4.mem_iff
  have dis : ∀ x ∈ p :: Fk, x ∉ Fr := fun x hx hy => (List.nodup_append.mp nd).2.2 x hx x hy rfl
  refine ⟨p, vs, Fk, Fr, h1, hp, hn, (mem p).mpr (by simp), hO, fun x hx => (mem x).mpr (by simp [hx]), (List.nodup_append.mp nd).1, fun x hx => (mem x).mpr (by simp [hx]), dis, ?_⟩
  intro R' k' ds' vs' G g1 g2 hR hr hO' nG dG
  have hpr : p ∉ Fr := dis p List.mem_cons_self
  have st : Sta K R' (upd H p (.lst vs')) (ρ.set i none) σ Fr := by
    refine ⟨h3.frame g1 (fun a ha => upd_ne fun z => hpr (z ▸ ha)) hr, fun a o q => ?_, (List.nodup_append.mp nd).2.1⟩
    have : a ≠ p := fun z => by subst z; rw [hR] at q; cases q
    rw [upd_ne this]; exact g2 a o q
  have hi : i < (ρ.set i none).length := by rw [List.length_set]; exact (List.getElem?_eq_some_iff.mp e).1
  obtain ⟨F', p1, p2, p3⟩ := st.slots.put (s := .ow k') (d := .lst ds') (v := .ref p) (G := p :: G) hi ⟨p, vs', G, rfl, rfl, upd_same, hR, hO'⟩
  rw [set_set, set_self h1] at p1
  refine ⟨F', ⟨p1, st.sub, p3 (List.nodup_append.mpr ⟨nG, st.nd, fun a ha b hb => ?_⟩)⟩, fun x hx => ?_⟩
  · rintro rfl
    rcases List.mem_cons.mp ha with z | z
    · exact hpr (z ▸ hb)
    · exact dG a z hb
  · rcases p2 x hx with z | z
    · rcases List.mem_cons.mp z with z | z
      · exact .inl (z ▸ (mem p).mpr (by simp))
      · exact .inr z
    · exact .inl ((mem x).mpr (by simp [z]))
theorem Step.relist {F' : List Addr} {vs' : List V} (hp : p ∈ F) (g : Sub R R') (hn : ∀ x o, R' x = some o → R x = some o ∨ x ∈ F) (hf : ∀ x ∈ F', x ∈ F) {o : HO} (hH : H p = some o) : Step R H F R' (upd H p (.lst vs')) F' where
  keep := fun a u e n => by
    have z : a ≠ p := fun z => n (z ▸ hp)
    rw [upd_ne z]; exact e
  grow := g
  rnew := fun a u e => (hn a u e).imp id .inl
  fnew := fun a ha => .inl (hf a ha)
  there := fun a u e => by
    by_cases z : a = p
    · subst z; exact ⟨_, upd_same⟩
    · exact ⟨u, by rw [upd_ne z]; exact e⟩

/-! ### append -/
def sAppend (ks : Sh) (i : Nat) (da : Den DV) : DenS := fun ρ => match ρ[i]? with
  | some (some (.ow _, .lst _)) => sBind da (fun a ρ1 => match ρ1[i]? with
    | some (some (.ow k, .lst ds)) => if kidOk ks a.1 = true ∧ ds.length < sizeLine ∧ (k = ks ∨ ds = []) then some (.nx (ρ1.set i (some (.ow ks, .lst (ds ++ [a.2]))))) else none
    | _ => none) ρ
  | _ => none
theorem append_ok {ks : Sh} {i : Nat} {da : Den DV} (h : tS K mg W A (sAppend ks i da) T σ H) : tDrop (tBM K "list" rAppend (tVar i) (tCons (tE K mg W pa da) tNil)) T σ H := by
  obtain ⟨ρ, R, F, o, hS, hden, hQ⟩ := h
  unfold sAppend at hden
  split at hden
  rotate_left
  · cases hden
  rename_i k0 ds0 e0
  obtain ⟨v0, La, Lb, a1, a2, _⟩ := hS.slots.pick e0
  refine ⟨v0, a1, ?_, ?_⟩
  · obtain ⟨p, vs, F2, rfl, _, h, _⟩ := a2
    exact .inl ⟨rfl, vs, SqL.of h⟩
  refine tS_bind hS hden hQ fun ρ1 a v H1 R1 F1 G1 e st q n s pp => ?_
  split at e
  rotate_left
  · cases e
  rename_i k ds e1
  split at e
  rotate_left
  · cases e
  rename_i hc
  cases e
  obtain ⟨hk, hl, hks⟩ := hc
  obtain ⟨p, vs, Fk, Fr, h1, h2, h3, h4, h5, h6, h7, h8, h9, put⟩ := st.relist e1
  rw [a1] at h1; cases h1
  obtain ⟨R6, G6, o6, g1, g2, g3, g4, g5, g6⟩ := q.kid st.sub hk
  have dG : ∀ x ∈ G1, x ∉ F1 := nd_out n
  have nd := List.nodup_append.mp n
  have pG : p ∉ G1 := fun z => dG p z h4
  have hO : OwnL (Own K R6 (upd H1 p (.lst (vs ++ [v]))) ks) (ds ++ [a.2]) (vs ++ [v]) (Fk ++ G6) := by
    have o6' := o6.frame .refl (H' := upd H1 p (.lst (vs ++ [v]))) (fun x hx => upd_ne fun z => pG (z ▸ g3 x hx)) g6
    rcases hks with rfl | rfl
    · refine OwnL.append (h5.frame g1 (fun x hx => upd_ne fun z => (List.nodup_cons.mp h7).1 (z ▸ hx)) fun x hx => ?_) ⟨v, [], G6, [], rfl, by rw [List.append_nil], o6', rfl, rfl⟩
      rw [g4 x fun z => dG x z (h6 x hx)]; exact (h5.foot x hx).2
    · obtain ⟨rfl, rfl⟩ := h5
      exact ⟨v, [], G6, [], rfl, by simp, o6', rfl, rfl⟩
  obtain ⟨F', st', sub'⟩ := put R6 ks (ds ++ [a.2]) (vs ++ [v]) (Fk ++ G6) g1 g2 (by rw [g4 p pG]; exact h3) (fun x hx => by rw [g4 x fun z => dG x z (h8 x hx)]; exact (st.slots.foot x (h8 x hx)).2) hO (by
      obtain ⟨n1, n2⟩ := List.nodup_cons.mp h7
      refine List.nodup_cons.mpr ⟨fun z => ?_, List.nodup_append.mpr ⟨n2, g5 nd.2.1, fun a ha b hb => ?_⟩⟩
      · rcases List.mem_append.mp z with z | z
        · exact n1 z
        · exact pG (g3 p z)
      · rintro rfl; exact dG a (g3 a hb) (h6 a ha)) (fun x hx => by
      rcases List.mem_append.mp hx with z | z
      · exact h9 x (List.mem_cons_of_mem _ z)
      · exact fun w => dG x (g3 x z) (h8 x w))
  refine ⟨p, vs, v, rfl, rfl, h2, by rw [OwnL.length h5]; exact hl, ?_⟩
  refine hQ σ _ R6 F' st' .refl (s.trans (.relist (List.mem_append_left _ h4) g1 (fun x o q => ?_) (fun x hx => ?_) h2))
  · by_cases hx : x ∈ G1
    · exact .inr (List.mem_append_right _ hx)
    · rw [g4 x hx] at q; exact .inl q
  · rcases sub' x hx with z | z
    · exact List.mem_append_left _ z
    · rcases List.mem_append.mp z with z | z
      · exact List.mem_append_left _ (h6 x z)
      · exact List.mem_append_right _ (g3 x z)

/-! ### pop, of plain members -/
theorem kids_im : ∀ {ds : List D} {vs : List V} {F : List Addr}, OwnL (Own K R H .im) ds vs F → F = [] ∧ AtAll K R vs ds
  | [], _, _, ⟨e1, e2⟩ => by rw [e1, e2]; exact ⟨rfl, .nil⟩
  | d :: ds, _, _, ⟨v, vr, F1, F2, rfl, rfl, ⟨e1, h1⟩, t⟩ => by
    obtain ⟨e2, h2⟩ := kids_im t
    rw [e1, e2]; exact ⟨rfl, .cons h1 h2⟩
theorem kids_of : ∀ {ds : List D} {vs : List V}, AtAll K R vs ds → OwnL (Own K R H .im) ds vs []
  | [], _, .nil => ⟨rfl, rfl⟩
  | d :: ds, _, .cons h1 h2 => ⟨_, _, [], [], rfl, rfl, ⟨rfl, h1⟩, kids_of h2⟩
/-- the list of plain members at a name, changed to other plain members -/
theorem Sta.recast {i : Nat} (hS : Sta K R H ρ σ F) (e : ρ[i]? = some (some (.ow .im, .lst ds))) :
    ∃ (p : Addr) (vs : List V), σ[i]? = some (some (.ref p)) ∧ H p = some (.lst vs) ∧ AtAll K R vs ds ∧
      ∀ (ds' : List D) (vs' : List V), AtAll K R vs' ds' → ∃ F', Sta K R (upd H p (.lst vs')) (ρ.set i (some (.ow .im, .lst ds'))) σ F' ∧ Step R H F R (upd H p (.lst vs')) F' := by
  obtain ⟨p, vs, Fk, Fr, h1, h2, h3, h4, h5, h6, h7, h8, h9, put⟩ := hS.relist e
  obtain ⟨rfl, q⟩ := kids_im h5
  refine ⟨p, vs, h1, h2, q, fun ds' vs' q' => ?_⟩
  obtain ⟨F', st', sub'⟩ := put R .im ds' vs' [] .refl hS.sub h3 (fun x hx => (hS.slots.foot x (h8 x hx)).2) (kids_of q') (by simp) (fun x hx => by cases hx)
  exact ⟨F', st', .relist h4 .refl (fun x o q => .inl q) (fun x hx => (sub' x hx).elim id fun z => by cases z) h2⟩
theorem AtAll.dropLast : ∀ {vs : List V} {ds : List D}, AtAll K R vs ds → AtAll K R vs.dropLast ds.dropLast
  | _, _, .nil => .nil
  | _, _, .cons _ .nil => .nil
  | _, _, .cons r (.cons r2 t) => .cons r (AtAll.dropLast (.cons r2 t))
theorem AtAll.eraseIdx : ∀ {vs : List V} {ds : List D} (n : Nat), AtAll K R vs ds → AtAll K R (vs.eraseIdx n) (ds.eraseIdx n)
  | _, _, _, .nil => .nil
  | _, _, 0, .cons _ t => t
  | _, _, n + 1, .cons r t => .cons r (AtAll.eraseIdx n t)
def dPop (i : Nat) : Den DV := fun ρ => match ρ[i]? with
  | some (some (.ow .im, .lst ds)) => (match ds[ds.length - 1]? with
    | some d => some (.ok (ρ.set i (some (.ow .im, .lst ds.dropLast))) (.sh .im, d))
    | none => none)
  | _ => none
theorem tyL {v : V} {F : List Addr} {k : Sh} (h : Own K R H (.ow k) (.lst ds) v F) : tyV K "list" v H := by
  obtain ⟨p, vs, F2, rfl, _, h, _⟩ := h
  exact .inl ⟨rfl, vs, SqL.of h⟩
theorem pop_ok {i : Nat} (h : tE K mg W false (dPop i) σ H Q) : tBM0 K "list" rPop (tVar i) σ H Q := by
  obtain ⟨ρ, R, F, res, hS, hden, hQ⟩ := h
  unfold dPop at hden
  split at hden
  rotate_left
  · cases hden
  rename_i ds e
  split at hden
  rotate_left
  · cases hden
  rename_i d ed
  cases hden
  obtain ⟨v0, La, Lb, a1, a2, _⟩ := hS.slots.pick e
  obtain ⟨p, vs, h1, h2, q, put⟩ := hS.recast e
  rw [a1] at h1; cases h1
  obtain ⟨y, hy, qy⟩ := q.get ed
  obtain ⟨F', st', s'⟩ := put _ _ q.dropLast
  refine ⟨.ref p, a1, tyL a2, p, vs, y, rfl, rfl, h2, by rw [q.length]; exact hy, ?_⟩
  exact (hQ.step (pc := false) s' fun z => by cases z).im st' qy
def dPopAt (i : Nat) (da : Den DV) : Den DV := fun ρ => match ρ[i]? with
  | some (some (.ow _, .lst _)) => dBind da (fun a ρ1 => match ρ1[i]?, a.2 with
    | some (some (.ow .im, .lst ds)), .int j => if -(2 ^ 63) ≤ j ∧ j < 2 ^ 63 then (match seqIndex? j ds.length with
      | some k => (match ds[k]? with
        | some d => some (.ok (ρ1.set i (some (.ow .im, .lst (ds.eraseIdx k)))) (.sh .im, d))
        | none => none)
      | none => none) else none
    | _, _ => none) ρ
  | _ => none
theorem popAt_ok {i : Nat} {da : Den DV} (h : tE K mg W false (dPopAt i da) σ H Q) : tBM K "list" rPopAt (tVar i) (tCons (tE K mg W pa da) tNil) σ H Q := by
  obtain ⟨ρ, R, F, res, hS, hden, hQ⟩ := h
  unfold dPopAt at hden
  split at hden
  rotate_left
  · cases hden
  rename_i k0 ds0 e0
  obtain ⟨v0, La, Lb, a1, a2, _⟩ := hS.slots.pick e0
  refine ⟨v0, a1, tyL a2, ?_⟩
  refine tG_bind hS hden hQ fun ρ1 a v H1 R1 F1 G1 e st q n s pp => ?_
  split at e
  rotate_left
  · cases e
  rename_i ds j e1 ej
  split at e
  rotate_left
  · cases e
  rename_i hj
  split at e
  rotate_left
  · cases e
  rename_i k ek
  split at e
  rotate_left
  · cases e
  rename_i d ed
  cases e
  have hv : v = .int j := by
    have := q.at st.sub
    rw [ej] at this
    exact this.scal rfl
  obtain ⟨p, vs, h1, h2, qq, put⟩ := st.recast e1
  rw [a1] at h1; cases h1
  obtain ⟨y, hy, qy⟩ := qq.get ed
  obtain ⟨F', st', s'⟩ := put _ _ (qq.eraseIdx k)
  refine ⟨p, vs, j, k, y, rfl, by rw [hv], h2, hj.1, hj.2, by rw [qq.length]; exact ek, hy, ?_⟩
  exact ((hQ.step s fun z => by cases z).drop.step s' fun z => by cases z).im st' qy

/-! ### stores to items -/
/-- x[e] = v, x a name with an owned list of plain members -/
def sSetItem (i : Nat) (da dx : Den DV) : DenS := sBind da fun a => if isBo a = true then (fun _ => none) else fun ρ1 => match ρ1[i]? with
  | some (some (.ow _, .lst _)) => sBind dx (fun b ρ2 => match ρ2[i]?, b.2 with
    | some (some (.ow .im, .lst ds)), .int j => (match ixN ds.length j with
      | some k => some (.nx (ρ2.set i (some (.ow .im, .lst (ds.set k a.2)))))
      | none => none)
    | _, _ => none) ρ1
  | _ => none
theorem setItem_ok {i : Nat} {da dx : Den DV} (h : tS K mg W A (sSetItem i da dx) T σ H) : tAsg (tE K mg W pa da) (gSub (tVar i) (tE K mg W pb dx) rSetL) T σ H := by
  obtain ⟨ρ, R, F, o, hS, hden, hQ⟩ := h
  refine tS_bind hS hden hQ fun ρ1 a v H1 R1 F1 G1 e st q n s pp => ?_
  cases hb : isBo a with
  | true => rw [if_pos hb] at e; cases e
  | false =>
  rw [if_neg (by rw [hb]; exact Bool.false_ne_true)] at e
  have st' := st.freeze (nd_out n)
  have q' := q.freeze st.sub (not_bo hb)
  have hQ1 := hQ.step (s.trans (.freeze st.sub)) .refl
  split at e
  rotate_left
  · cases e
  rename_i k0 ds0 e0
  obtain ⟨v0, La, Lb, a1, a2, _⟩ := st'.slots.pick e0
  refine ⟨v0, a1, ?_⟩
  refine tS_bind st' e hQ1 fun ρ2 b u H2 R2 F2 G2 e2 st2 q2 n2 s2 p2 => ?_
  split at e2
  rotate_left
  · cases e2
  rename_i ds j e1 ej
  split at e2
  rotate_left
  · cases e2
  rename_i k ek
  cases e2
  have hu : u = .int j := by
    have := q2.at st2.sub
    rw [ej] at this
    exact this.scal rfl
  obtain ⟨p, vs, h1, h2, qq, put⟩ := st2.recast e1
  rw [a1] at h1; cases h1
  obtain ⟨F', st3, s3⟩ := put _ _ (qq.set k (q'.mono s2.grow))
  refine ⟨p, vs, j, k, rfl, hu, h2, by rw [qq.length]; exact ek, ?_⟩
  exact (hQ1.step s2 .refl).drop σ _ _ F' st3 .refl s3

/-- x[e][e'] = v: an owned list of owned lists of plain members -/
theorem kids_set : ∀ {ds : List D} {vs : List V} {Fk : List Addr} {j : Nat} {es : List D}, OwnL (Own K R H (.ow .im)) ds vs Fk → ds[j]? = some (.lst es) → Fk.Nodup →
    ∃ (q : Addr) (ws : List V), vs[j]? = some (.ref q) ∧ H q = some (.lst ws) ∧ q ∈ Fk ∧ AtAll K R ws es ∧ ∀ (ws' : List V) (es' : List D), AtAll K R ws' es' → OwnL (Own K R (upd H q (.lst ws')) (.ow .im)) (ds.set j (.lst es')) vs Fk
  | [], _, _, _, _, _, e, _ => by simp at e
  | d :: ds, _, _, 0, es, ⟨v, vr, F1, F2, rfl, rfl, h1, t⟩, e, nd => by
    simp at e
    subst e
    obtain ⟨q, ws, F3, rfl, rfl, hq, hn, ho⟩ := h1
    obtain ⟨rfl, qa⟩ := kids_im ho
    obtain ⟨n1, n2, n3⟩ := List.nodup_append.mp nd
    have hq2 : ∀ x ∈ F2, x ≠ q := fun x hx z => n3 q List.mem_cons_self x hx z.symm
    refine ⟨q, ws, rfl, hq, by simp, qa, fun ws' es' qa' => ?_⟩
    exact ⟨.ref q, vr, [q], F2, rfl, rfl, ⟨q, ws', [], rfl, rfl, upd_same, hn, kids_of qa'⟩, OwnL.frame .refl t (fun x hx => upd_ne (hq2 x hx)) fun x hx => (OwnL.foot t x hx).2⟩
  | d :: ds, _, _, j + 1, es, ⟨v, vr, F1, F2, rfl, rfl, h1, t⟩, e, nd => by
    obtain ⟨n1, n2, n3⟩ := List.nodup_append.mp nd
    obtain ⟨q, ws, h2, h3, h4, h5, h6⟩ := kids_set (j := j) t (by simpa using e) n2
    have hq1 : ∀ x ∈ F1, x ≠ q := fun x hx z => n3 x hx q h4 z
    refine ⟨q, ws, by simpa using h2, h3, List.mem_append_right _ h4, h5, fun ws' es' qa' => ?_⟩
    exact ⟨v, vr, F1, F2, rfl, rfl, h1.frame .refl (fun x hx => upd_ne (hq1 x hx)) fun x hx => (h1.foot x hx).2, h6 ws' es' qa'⟩
def sSetItem2 (i : Nat) (da dx dy : Den DV) : DenS := sBind da fun a => if isBo a = true then (fun _ => none) else fun ρ1 => match ρ1[i]? with
  | some (some (.ow (.ow .im), .lst _)) => sBind dx (fun b ρ2 => match ρ2[i]?, b.2 with
    | some (some (.ow (.ow .im), .lst ds)), .int j => (match ixN ds.length j with
      | some k => (match ds[k]? with
        | some (.lst _) => sBind dy (fun c ρ3 => match ρ3[i]?, c.2 with
          | some (some (.ow (.ow .im), .lst ds3)), .int j' => (match ds3[k]? with
            | some (.lst es) => (match ixN es.length j' with
              | some k' => some (.nx (ρ3.set i (some (.ow (.ow .im), .lst (ds3.set k (.lst (es.set k' a.2)))))))
              | none => none)
            | _ => none)
          | _, _ => none) ρ2
        | _ => none)
      | none => none)
    | _, _ => none) ρ1
  | _ => none
theorem setItem2_ok {i : Nat} {da dx dy : Den DV} (h : tS K mg W A (sSetItem2 i da dx dy) T σ H) : tAsg (tE K mg W pa da) (gSub (tOp (rIx2 K) (tVar i) (tE K mg W pb dx)) (tE K mg W true dy) rSetL) T σ H := by
  obtain ⟨ρ, R, F, o, hS, hden, hQ⟩ := h
  refine tS_bind hS hden hQ fun ρ1 a v H1 R1 F1 G1 e st q n s pp => ?_
  cases hb : isBo a with
  | true => rw [if_pos hb] at e; cases e
  | false =>
  rw [if_neg (by rw [hb]; exact Bool.false_ne_true)] at e
  have st' := st.freeze (nd_out n)
  have q' := q.freeze st.sub (not_bo hb)
  have hQ1 := hQ.step (s.trans (.freeze st.sub)) .refl
  split at e
  rotate_left
  · cases e
  rename_i ds0 e0
  obtain ⟨v0, La, Lb, a1, a2, _⟩ := st'.slots.pick e0
  obtain ⟨p0, vs0, Lk, rfl, _, hp0, _, _⟩ := a2
  refine ⟨_, a1, ?_⟩
  refine tS_bind st' e hQ1 fun ρ2 b u H2 R2 F2 G2 e2 st2 q2 n2 s2 p2 => ?_
  have hQ2 := (hQ1.step s2 .refl).drop
  split at e2
  rotate_left
  · cases e2
  rename_i ds j e1 ej
  split at e2
  rotate_left
  · cases e2
  rename_i k ek
  split at e2
  rotate_left
  · cases e2
  rename_i es0 ee0
  have hu : u = .int j := by
    have := q2.at st2.sub
    rw [ej] at this
    exact this.scal rfl
  obtain ⟨p, vs2, Fk2, Fr2, h1, h2, h3, h4, h5, h6, h7, h8, h9, put2⟩ := st2.relist e1
  rw [a1] at h1; cases h1
  obtain ⟨q0, ws0, k1, k2, k3, k4, k5⟩ := kids_set h5 ee0 (List.nodup_cons.mp h7).2
  refine .inl (.inl ⟨p0, vs2, j, .ref q0, rfl, hu, SqL.of h2, ?_, ?_⟩)
  · unfold L2.atI
    rw [OwnL.length h5, ek]
    exact k1
  refine tS_bind st2 e2 hQ2 fun ρ3 c w H3 R3 F3 G3 e3 st3 q3 n3 s3 p3 => ?_
  have sub3 := p3 rfl
  have hQ3 := (hQ2.step s3 .refl).drop
  split at e3
  rotate_left
  · cases e3
  rename_i ds3 j' e4 ej'
  split at e3
  rotate_left
  · cases e3
  rename_i es ees
  split at e3
  rotate_left
  · cases e3
  rename_i k' ek'
  cases e3
  have hw : w = .int j' := by
    have := q3.at st3.sub
    rw [ej'] at this
    exact this.scal rfl
  obtain ⟨p', vs3, Fk3, Fr3, g1, g2, g3, g4, g5, g6, g7, g8, g9, put3⟩ := st3.relist e4
  rw [a1] at g1; cases g1
  have hvs : vs3 = vs2 := by
    have := sub3 _ _ h2
    rw [g2] at this
    cases this; rfl
  subst hvs
  obtain ⟨q1, ws, m1, m2, m3, m4, m5⟩ := kids_set g5 ees (List.nodup_cons.mp g7).2
  rw [k1] at m1; cases m1
  refine ⟨q0, ws, j', k', rfl, hw, m2, by rw [m4.length]; exact ek', ?_⟩
  have hqp : q0 ≠ p0 := fun z => (List.nodup_cons.mp g7).1 (z ▸ m3)
  have O' := m5 (ws.set k' v) (es.set k' a.2) (m4.set k' ((q'.mono s2.grow).mono s3.grow))
  -- the outer list stands as it is
  have hH : upd (upd H3 q0 (.lst (ws.set k' v))) p0 (.lst vs3) = upd H3 q0 (.lst (ws.set k' v)) := by
    funext x
    by_cases hx : x = p0
    · subst hx; rw [upd_same, upd_ne hqp.symm, g2]
    · rw [upd_ne hx]
  have q0F : q0 ∈ F3 := g6 q0 m3
  have hq0r : R3 q0 = none := (st3.slots.foot q0 q0F).2
  -- the state with the item changed
  have fin : ∃ F', Sta K R3 (upd H3 q0 (.lst (ws.set k' v))) (ρ3.set i (some (.ow (.ow .im), .lst (ds3.set k (.lst (es.set k' a.2)))))) σ F' ∧ ∀ x ∈ F', x ∈ F3 := by
    obtain ⟨v9, L8, L9, b1, b2, b3, b4⟩ := st3.slots.pick e4
    rw [a1] at b1; cases b1
    obtain ⟨p8, vs8, F8, e8, rfl, b5, b6, b7⟩ := b2
    cases e8
    rw [g2] at b5; cases b5
    have nd := b4.nodup_iff.mp st3.nd
    obtain ⟨nd1, nd2, nd3⟩ := List.nodup_append.mp nd
    have q0F8 : q0 ∈ F8 := by
      obtain ⟨r0, rws, r1, r2, r3, _, _⟩ := kids_set b7 ees (List.nodup_cons.mp nd1).2
      rw [k1] at r1; cases r1; exact r3
    obtain ⟨r0, rws, r1, r2, r3, r4, r5⟩ := kids_set b7 ees (List.nodup_cons.mp nd1).2
    rw [k1] at r1; cases r1
    rw [m2] at r2; cases r2
    have O8 := r5 (ws.set k' v) (es.set k' a.2) (m4.set k' ((q'.mono s2.grow).mono s3.grow))
    have stn : Sta K R3 (upd H3 q0 (.lst (ws.set k' v))) (ρ3.set i none) σ L9 := by
      refine ⟨b3.frame .refl (fun x hx => upd_ne fun z => nd3 q0 (List.mem_cons_of_mem _ q0F8) x hx z.symm) fun x hx => (b3.foot x hx).2, fun x o q => ?_, nd2⟩
      have hx : x ≠ q0 := fun z => by subst z; rw [hq0r] at q; cases q
      rw [upd_ne hx]; exact st3.sub x o q
    have hi : i < (ρ3.set i none).length := by rw [List.length_set]; exact (List.getElem?_eq_some_iff.mp e4).1
    obtain ⟨F', c1, c2, c3⟩ := stn.slots.put (s := .ow (.ow .im)) (d := .lst (ds3.set k (.lst (es.set k' a.2)))) (v := .ref p0) (G := p0 :: F8) hi ⟨p0, vs3, F8, rfl, rfl, by rw [upd_ne hqp.symm]; exact g2, b6, O8⟩
    rw [set_set, set_self a1] at c1
    exact ⟨F', ⟨c1, stn.sub, c3 nd⟩, fun x hx => b4.mem_iff.mpr (List.mem_append.mpr (c2 x hx))⟩
  obtain ⟨F', st4, sub4⟩ := fin
  exact hQ3 σ _ R3 F' st4 .refl (.relist q0F .refl (fun x o q => .inl q) sub4 m2)
end
end Den

/-! What is built in; what is walked. -/
namespace Den
open PySem PySem.Spec PyProof.Rows L2
section
variable {α β γ δ : Type} {K : PySem.W.Frag} {mg : Str → Option Value} {W : WX} {A : List Nat} {rel : RelT α β} {rel' : RelT γ δ} {pu pa pb pc pd : Bool} {R R' R1 H H' H1 : Hp} {F F1 G : List Addr} {ρ ρ1 : Rho} {σ σ1 : L2.St} {Q : VK} {d : D} {ds : List D} {vs : List V} {p : Addr} {T : Ends} {X : Cx}

/-! ### calls -/
def lenOp : List D → Option OR
  | [.lst ds] => some (.s (.int ds.length))
  | [.tup ds] => some (.s (.int ds.length))
  | [.set ds] => some (.s (.int ds.length))
  | [.str z] => if z.length ≤ sizeLine then some (.s (.int z.length)) else none
  | [.dic kds] => some (.s (.int kds.length))
  | _ => none
def rLenDc : List V → Hp → VK → Prop := fun xs H Q => ∃ a kvs, xs = [.ref a] ∧ Rd H a (.dK kvs) ∧ Q (.int kvs.length) H
theorem cr_lenDc {X : Cx} : CallR X (.builtin "len") rLenDc := by
  intro pins s σ H vs us Q I r h
  obtain ⟨a, kvs, rfl, e, q⟩ := h
  rw [Vals.ref1 r]
  exact d_len I e fun t s' I' => ⟨.int _, H, I', ⟨_, rfl⟩, q⟩
def rLenA (K : PySem.W.Frag) : List V → Hp → VK → Prop := fun xs H Q => (∃ p ys, xs = [.ref p] ∧ (SqL K H p ys ∨ SqT K H p ys) ∧ Q (.int ys.length) H) ∨ (∃ z, xs = [.str z] ∧ z.length ≤ sizeLine ∧ Q (.int z.length) H) ∨ rLenDc xs H Q
theorem cr_len : CallR X (.builtin "len") (rLenA X.K) := call_len_seq.or (call_len_str.or cr_lenDc)
theorem cx_len : CallX K lenOp (rLenA K) := by
  intro ds o vs R H Q ho hs hv
  unfold lenOp at ho
  split at ho
  · cases ho
    cases hv with | cons h1 h2 => cases h2; cases h1 with | lst a b =>
    exact ⟨rfl, fun w => .inl ⟨_, _, rfl, .inl a, by rw [b.length]; exact w.2⟩⟩
  · cases ho
    cases hv with | cons h1 h2 => cases h2; cases h1 with | tup a b =>
    exact ⟨rfl, fun w => .inl ⟨_, _, rfl, .inr a, by rw [b.length]; exact w.2⟩⟩
  · cases ho
    cases hv with | cons h1 h2 => cases h2; cases h1 with | tux a c e b =>
    exact ⟨rfl, fun w => .inl ⟨_, _, rfl, .inr (.inl (.inr ⟨_, a⟩)), by rw [b.length]; exact w.2⟩⟩
  · split at ho
    · cases ho
      cases hv with | cons h1 h2 => cases h2; cases h1; exact ⟨rfl, fun w => .inr (.inl ⟨_, rfl, by assumption, w.2⟩)⟩
    · cases ho
  · cases ho
    cases hv with | cons h1 h2 => cases h2; cases h1 with | dic a b c =>
    exact ⟨rfl, fun w => .inr (.inr ⟨_, _, rfl, a, by rw [(dk_len b c).2.2]; exact w.2⟩)⟩
  · cases ho
/-- dict(d): a copy -/
def dictOp : List D → Option OR
  | [.dic kds] => some (.k kds)
  | _ => none
def rDictC : List V → Hp → VK → Prop := fun xs H Q => ∃ (a : Addr) (kvs : List (Key × V)), xs = [.ref a] ∧ Rd H a (.dK kvs) ∧ ∀ p, H p = none → Q (.ref p) (upd H p (.dK kvs))
theorem cx_dict : CallX K dictOp rDictC := by
  intro ds o vs R H Q ho hs hv
  unfold dictOp at ho
  split at ho
  · cases ho
    cases hv with | cons h1 h2 => cases h2; cases h1 with | dic a b c =>
    exact ⟨rfl, fun w => ⟨_, _, rfl, hs.rd a, fun p hp => w _ _ p b c hp⟩⟩
  · cases ho
def int1Op : List D → Option OR
  | [.int i] => some (.s (.int i))
  | [.bl k] => some (.s (.int (if k then 1 else 0)))
  | _ => none
def rInt1 : List V → Hp → VK → Prop := fun xs H Q => (∃ i, xs = [.int i] ∧ Q (.int i) H) ∨ ∃ k, xs = [.bl k] ∧ Q (.int (if k then 1 else 0)) H
theorem cx_int1 : CallX K int1Op rInt1 := by
  intro ds o vs R H Q ho hs hv
  unfold int1Op at ho
  split at ho
  · cases ho
    cases hv with | cons h1 h2 => cases h2; cases h1; exact ⟨rfl, fun w => .inl ⟨_, rfl, w.2⟩⟩
  · cases ho
    cases hv with | cons h1 h2 => cases h2; cases h1; exact ⟨rfl, fun w => .inr ⟨_, rfl, w.2⟩⟩
  · cases ho
def tyName : D → Option String
  | .non => some "NoneType"
  | .bl _ => some "bool"
  | .int _ => some "int"
  | .str _ => some "str"
  | .lst _ => some "list"
  | .tup _ => some "tuple"
  | .set _ => some "tuple"
  | .dic _ => some "dict"
  | _ => none
/-- isinstance of the types that data has -/
def isiB (a b : String) : Option Bool := if a ∈ ["NoneType", "bool", "int", "str", "list", "tuple", "dict"] ∧ b ∈ ["bool", "int", "str", "list", "tuple", "dict"] then some (decide (a = b) || (decide (a = "bool") && decide (b = "int"))) else none
def isiOp : List D → Option OR
  | [d, .ty n] => (match tyName d with
    | some a => (isiB a n).map fun b => .s (.bl b)
    | none => none)
  | _ => none
theorem kitB_ok : ∀ a ∈ ["NoneType", "bool", "int", "str", "list", "tuple", "dict"], ∀ b ∈ ["bool", "int", "str", "list", "tuple", "dict"], kitB a b = some (decide (a = b) || (decide (a = "bool") && decide (b = "int"))) := by decide +kernel
theorem isiB_ok {a b : String} {r : Bool} (h : isiB a b = some r) : PySem.W.kitOne K (.type a) (.type b) = some r := by
  unfold isiB at h
  split at h
  · rename_i c
    cases h
    exact kit_ty (kitB_ok a c.1 b c.2)
  · cases h
theorem rd_lst {R : Hp} {a : Addr} {xs : List V} (h : SqL K R a xs) : TyX K R (.ref a) (.type "list") := by
  rcases h with (h | ⟨o, h⟩) | ⟨o, its, n, h1, h2, _⟩
  · exact .base (.lst h)
  · exact .base (.frz h)
  · exact .kList h1 h2
theorem rd_tup {R : Hp} {a : Addr} {xs : List V} (h : SqT K R a xs) : TyX K R (.ref a) (.type "tuple") := by
  rcases h with (h | ⟨o, h⟩) | ⟨o, its, n, h1, h2, _⟩
  · exact .base (.tup h)
  · exact .fTuple h
  · exact .kTuple h1 h2
theorem ty_at {d : D} {v : V} {a : String} (h : tyName d = some a) (q : At K H v d) : TyX K H v (.type a) := by
  cases q with
  | non => cases h; exact .base .non
  | bl b => cases h; exact .base (.bl b)
  | int i => cases h; exact .base (.int i)
  | str x => cases h; exact .base (.str x)
  | ty n => cases h
  | ins => cases h
  | lst h1 h2 => cases h; exact rd_lst h1
  | tup h1 h2 => cases h; exact rd_tup h1
  | tux h1 _ _ h2 => cases h; exact rd_tup (.inl (.inr ⟨_, h1⟩))
  | dic h1 h2 h3 => cases h; rcases h1 with h1 | ⟨_, h1⟩; exact .base (.dK h1); exact .fDict h1
theorem cx_isi : CallX K isiOp (rIsi K) := by
  intro ds o vs R H Q ho hs hv
  unfold isiOp at ho
  split at ho
  · rename_i d n
    split at ho
    · rename_i a ea
      obtain ⟨b, e1, rfl⟩ := Option.map_eq_some_iff.mp ho
      cases hv with | cons h1 h2 => cases h2 with | cons h3 h4 => cases h4; cases h3; exact ⟨rfl, fun w => ⟨_, _, _, _, b, rfl, .ty n, ty_at ea h1, isiB_ok e1, w.2⟩⟩
    · cases ho
  · cases ho
def intsOf : List D → Option (List Int)
  | [] => some []
  | .int i :: ds => (intsOf ds).map (i :: ·)
  | _ => none
def blsOf : List D → Option (List Bool)
  | [] => some []
  | .bl i :: ds => (blsOf ds).map (i :: ·)
  | _ => none
theorem ints_at : ∀ {ds : List D} {ns : List Int} {vs : List V}, intsOf ds = some ns → AtAll K R vs ds → vs = ns.map V.int
  | [], _, _, e, h => by cases e; cases h; rfl
  | d :: ds, ns, _, e, h => by
    cases h with | cons h1 h2 =>
    cases d with
    | int i =>
      obtain ⟨ms, e1, rfl⟩ := Option.map_eq_some_iff.mp (show (intsOf ds).map (i :: ·) = some ns from e)
      cases h1
      rw [ints_at e1 h2]; rfl
    | _ => cases e
theorem bls_at : ∀ {ds : List D} {ns : List Bool} {vs : List V}, blsOf ds = some ns → AtAll K R vs ds → vs = ns.map V.bl
  | [], _, _, e, h => by cases e; cases h; rfl
  | d :: ds, ns, _, e, h => by
    cases h with | cons h1 h2 =>
    cases d with
    | bl i =>
      obtain ⟨ms, e1, rfl⟩ := Option.map_eq_some_iff.mp (show (blsOf ds).map (i :: ·) = some ns from e)
      cases h1
      rw [bls_at e1 h2]; rfl
    | _ => cases e
def sumOp : List D → Option OR
  | [.lst ds] => (intsOf ds).map fun ns => .s (.int ns.sum)
  | _ => none
theorem cx_sum : CallX K sumOp (rSum K) := by
  intro ds o vs R H Q ho hs hv
  unfold sumOp at ho
  split at ho
  · obtain ⟨ns, e1, rfl⟩ := Option.map_eq_some_iff.mp ho
    cases hv with | cons h1 h2 => cases h2; cases h1 with | lst a b =>
    exact ⟨rfl, fun w => ⟨_, ns, rfl, by rw [← ints_at e1 b]; exact a, w.2⟩⟩
  · cases ho
def allOp : List D → Option OR
  | [.lst ds] => (blsOf ds).map fun ns => .s (.bl (ns.all id))
  | _ => none
def anyOp : List D → Option OR
  | [.lst ds] => (blsOf ds).map fun ns => .s (.bl (ns.any id))
  | _ => none
theorem cx_all : CallX K allOp (rAll K) := by
  intro ds o vs R H Q ho hs hv
  unfold allOp at ho
  split at ho
  · obtain ⟨ns, e1, rfl⟩ := Option.map_eq_some_iff.mp ho
    cases hv with | cons h1 h2 => cases h2; cases h1 with | lst a b =>
    exact ⟨rfl, fun w => ⟨_, ns, rfl, by rw [← bls_at e1 b]; exact a, w.2⟩⟩
  · cases ho
theorem cx_any : CallX K anyOp (rAny K) := by
  intro ds o vs R H Q ho hs hv
  unfold anyOp at ho
  split at ho
  · obtain ⟨ns, e1, rfl⟩ := Option.map_eq_some_iff.mp ho
    cases hv with | cons h1 h2 => cases h2; cases h1 with | lst a b =>
    exact ⟨rfl, fun w => ⟨_, ns, rfl, by rw [← bls_at e1 b]; exact a, w.2⟩⟩
  · cases ho
def listOp : List D → Option OR
  | [.lst ds] => some (.l ds)
  | [.tup ds] => some (.l ds)
  | [.set ds] => some (.l ds)
  | _ => none
def rListA (K : PySem.W.Frag) : List V → Hp → VK → Prop := fun xs H Q => ∃ p ys, xs = [.ref p] ∧ (SqL K H p ys ∨ SqT K H p ys) ∧ ∀ l, H l = none → Q (.ref l) (upd H l (.lst ys))
theorem cx_list : CallX K listOp (rListA K) := by
  intro ds o vs R H Q ho hs hv
  unfold listOp at ho
  split at ho
  · cases ho
    cases hv with | cons h1 h2 => cases h2; cases h1 with | lst a b =>
    exact ⟨rfl, fun w => ⟨_, _, rfl, .inl (hs.sqL a), fun l hl => w _ l b hl⟩⟩
  · cases ho
    cases hv with | cons h1 h2 => cases h2; cases h1 with | tup a b =>
    exact ⟨rfl, fun w => ⟨_, _, rfl, .inr (hs.sqT a), fun l hl => w _ l b hl⟩⟩
  · cases ho
    cases hv with | cons h1 h2 => cases h2; cases h1 with | tux a c e b =>
    exact ⟨rfl, fun w => ⟨_, _, rfl, .inr (hs.sqT (.inl (.inr ⟨_, a⟩))), fun l hl => w _ l b hl⟩⟩
  · cases ho
def tupleOp : List D → Option OR
  | [.lst ds] => some (.a (.tup ds))
  | [.tup ds] => some (.a (.tup ds))
  | _ => none
def rTupleA (K : PySem.W.Frag) : List V → Hp → VK → Prop := fun xs H Q => ∃ p ys, xs = [.ref p] ∧ ((SqL K H p ys ∧ ∀ l, H l = none → Q (.ref l) (upd H l (.tup ys))) ∨ (SqT K H p ys ∧ Q (.ref p) H))
theorem cx_tuple : CallX K tupleOp (rTupleA K) := by
  intro ds o vs R H Q ho hs hv
  unfold tupleOp at ho
  split at ho
  · cases ho
    cases hv with | cons h1 h2 => cases h2; cases h1 with | lst a b =>
    exact ⟨rfl, fun w => ⟨_, _, rfl, .inl ⟨hs.sqL a, fun l hl => w.2 _ _ l rfl b hl⟩⟩⟩
  · cases ho
    cases hv with | cons h1 h2 => cases h2; cases h1 with | tup a b =>
    exact ⟨rfl, fun w => ⟨_, _, rfl, .inr ⟨hs.sqT a, w.1 _ (.tup a b)⟩⟩⟩
  · cases ho
def strOp : List D → Option OR
  | [.int i] => if i.natAbs.log2 < 1920 then some (.s (.str (toString i))) else none
  | [.str x] => some (.s (.str x))
  | _ => none
def rStrA : List V → Hp → VK → Prop := fun xs H Q => (∃ i, xs = [.int i] ∧ i.natAbs.log2 < 1920 ∧ Q (.str (toString i)) H) ∨ ∃ a, xs = [.str a] ∧ Q (.str a) H
theorem cr_str : CallR X (.type "str") rStrA := call_str_int.or SkE.call_str_str
theorem cx_str : CallX K strOp rStrA := by
  intro ds o vs R H Q ho hs hv
  unfold strOp at ho
  split at ho
  · split at ho
    · cases ho
      cases hv with | cons h1 h2 => cases h2; cases h1; exact ⟨rfl, fun w => .inl ⟨_, rfl, by assumption, w.2⟩⟩
    · cases ho
  · cases ho
    cases hv with | cons h1 h2 => cases h2; cases h1; exact ⟨rfl, fun w => .inr ⟨_, rfl, w.2⟩⟩
  · cases ho
def absOp : List D → Option OR
  | [.int i] => some (.s (.int (if i < 0 then -i else i)))
  | _ => none
theorem cx_abs : CallX K absOp (fun xs H Q => ∃ i, xs = [.int i] ∧ Q (.int (if i < 0 then -i else i)) H) := by
  intro ds o vs R H Q ho hs hv
  unfold absOp at ho
  split at ho
  · cases ho
    cases hv with | cons h1 h2 => cases h2; cases h1; exact ⟨rfl, fun w => ⟨_, rfl, w.2⟩⟩
  · cases ho
def maxL : List Int → Int
  | [] => 0
  | [x] => x
  | x :: y :: r => max x (maxL (y :: r))
def minL : List Int → Int
  | [] => 0
  | [x] => x
  | x :: y :: r => min x (minL (y :: r))
theorem maxL_ok : ∀ {ns : List Int}, ns ≠ [] → maxL ns ∈ ns ∧ ∀ y ∈ ns, y ≤ maxL ns
  | [], h => absurd rfl h
  | [x], _ => by simp [maxL]
  | x :: y :: r, _ => by
    obtain ⟨h1, h2⟩ := maxL_ok (ns := y :: r) (by simp)
    simp only [maxL]
    refine ⟨?_, fun z hz => ?_⟩
    · rcases Int.le_total x (maxL (y :: r)) with h | h
      · rw [Int.max_eq_right h]; exact List.mem_cons_of_mem _ h1
      · rw [Int.max_eq_left h]; exact List.mem_cons_self
    · rcases List.mem_cons.mp hz with rfl | hz
      · omega
      · have := h2 z hz; omega
theorem minL_ok : ∀ {ns : List Int}, ns ≠ [] → minL ns ∈ ns ∧ ∀ y ∈ ns, minL ns ≤ y
  | [], h => absurd rfl h
  | [x], _ => by simp [minL]
  | x :: y :: r, _ => by
    obtain ⟨h1, h2⟩ := minL_ok (ns := y :: r) (by simp)
    simp only [minL]
    refine ⟨?_, fun z hz => ?_⟩
    · rcases Int.le_total x (minL (y :: r)) with h | h
      · rw [Int.min_eq_left h]; exact List.mem_cons_self
      · rw [Int.min_eq_right h]; exact List.mem_cons_of_mem _ h1
    · rcases List.mem_cons.mp hz with rfl | hz
      · omega
      · have := h2 z hz; omega
def maxOp : List D → Option OR
  | [.int i, .int j] => some (.s (.int (max i j)))
  | [.lst ds] => (match intsOf ds with
    | some (n :: ns) => some (.s (.int (maxL (n :: ns))))
    | _ => none)
  | _ => none
def minOp : List D → Option OR
  | [.int i, .int j] => some (.s (.int (min i j)))
  | [.lst ds] => (match intsOf ds with
    | some (n :: ns) => some (.s (.int (minL (n :: ns))))
    | _ => none)
  | _ => none
def rMaxA (K : PySem.W.Frag) : List V → Hp → VK → Prop := fun xs H Q => (∃ i j, xs = [.int i, .int j] ∧ Q (.int (if j > i then j else i)) H) ∨ rMax K xs H Q
def rMinA (K : PySem.W.Frag) : List V → Hp → VK → Prop := fun xs H Q => (∃ i j, xs = [.int i, .int j] ∧ Q (.int (if j < i then j else i)) H) ∨ rMin K xs H Q
theorem cr_maxA (hc : X.calm = true) : CallR X (.builtin "max") (rMaxA X.K) := (call_max2 hc).or (cr_max hc)
theorem cr_minA (hc : X.calm = true) : CallR X (.builtin "min") (rMinA X.K) := (call_min2 hc).or (cr_min hc)
theorem cx_max : CallX K maxOp (rMaxA K) := by
  intro ds o vs R H Q ho hs hv
  unfold maxOp at ho
  split at ho
  · rename_i i j
    cases ho
    have e : (if j > i then j else i) = max i j := by split <;> omega
    cases hv with | cons h1 h2 => cases h2 with | cons h3 h4 => cases h4; cases h3; cases h1; exact ⟨rfl, fun w => .inl ⟨_, _, rfl, by rw [e]; exact w.2⟩⟩
  · split at ho
    · rename_i n ns e1
      cases ho
      cases hv with | cons h1 h2 => cases h2; cases h1 with | lst a b =>
      refine ⟨rfl, fun w => .inr ⟨_, n :: ns, rfl, by rw [← ints_at e1 b]; exact a, by simp, fun m h1 h2 => ?_⟩⟩
      obtain ⟨g1, g2⟩ := maxL_ok (ns := n :: ns) (by simp)
      have : m = maxL (n :: ns) := Int.le_antisymm (g2 m h1) (h2 _ g1)
      rw [this]; exact w.2
    · cases ho
  · cases ho
theorem cx_min : CallX K minOp (rMinA K) := by
  intro ds o vs R H Q ho hs hv
  unfold minOp at ho
  split at ho
  · rename_i i j
    cases ho
    have e : (if j < i then j else i) = min i j := by split <;> omega
    cases hv with | cons h1 h2 => cases h2 with | cons h3 h4 => cases h4; cases h3; cases h1; exact ⟨rfl, fun w => .inl ⟨_, _, rfl, by rw [e]; exact w.2⟩⟩
  · split at ho
    · rename_i n ns e1
      cases ho
      cases hv with | cons h1 h2 => cases h2; cases h1 with | lst a b =>
      refine ⟨rfl, fun w => .inr ⟨_, n :: ns, rfl, by rw [← ints_at e1 b]; exact a, by simp, fun m h1 h2 => ?_⟩⟩
      obtain ⟨g1, g2⟩ := minL_ok (ns := n :: ns) (by simp)
      have : m = minL (n :: ns) := Int.le_antisymm (h2 _ g1) (g2 m h1)
      rw [this]; exact w.2
    · cases ho
  · cases ho

/-! ### what is walked -/
theorem PI.or {tg e : Expr} {wi wi' : TI} (h : PI X tg e wi) (h' : PI X tg e wi') : PI X tg e (fun σ H R => wi σ H R ∨ wi' σ H R) :=
  ⟨fun pins s σ H R I q => q.elim (h.run pins s σ H R I) (h'.run pins s σ H R I)⟩
theorem PI.imp {tg e : Expr} {t t' : TI} (h : PI X tg e t) (i : ∀ σ H Q, t' σ H Q → t σ H Q) : PI X tg e t' := ⟨fun pins s σ H Q I q => h.run pins s σ H Q I (i σ H Q q)⟩
theorem PG.orX {e : Expr} {t t' : TG} (h : PG X e t) (h' : PG X e t') : PG X e (fun v σ H Q => t v σ H Q ∨ t' v σ H Q) := ⟨fun pins s σ H v u Q I r q => q.elim (h.run pins s σ H v u Q I r) (h'.run pins s σ H v u Q I r)⟩
theorem PG.imp {e : Expr} {t t' : TG} (h : PG X e t) (i : ∀ v σ H Q, t' v σ H Q → t v σ H Q) : PG X e t' := ⟨fun pins s σ H v u Q I r q => h.run pins s σ H v u Q I r (i v σ H Q q)⟩
theorem PGs.imp {e : List Expr} {t t' : TGs} (h : PGs X e t) (i : ∀ v σ H Q, t' v σ H Q → t v σ H Q) : PGs X e t' := ⟨fun pins s σ H v u Q I r q => h.run pins s σ H v u Q I r (i v σ H Q q)⟩
theorem _root_.L2.PO.impD {e : Option Expr} {t t' : TO} (h : PO X e t) (i : ∀ σ H Q, t' σ H Q → t σ H Q) : PO X e t' := ⟨fun pins s σ H Q I q => h.run pins s σ H Q I (i σ H Q q)⟩
theorem _root_.L2.PTs.impD {e : List Expr} {t t' : TT} (h : PTs X e t) (i : ∀ σ H Q, t' σ H Q → t σ H Q) : PTs X e t' := ⟨fun pins s σ H Q I q => h.run pins s σ H Q I (i σ H Q q)⟩
def strItems (z : Str) : List D := z.cps.toList.map fun c => .str ⟨#[c]⟩
theorem feeds_str {z : Str} : Feeds K (Its z) R (strItems z) where
  stop := fun H i s hi => by
    have : z.cps.size ≤ i := by simpa [strItems] using hi
    exact this
  go := fun H i s hi => by
    have : i < z.cps.size := by simpa [strItems] using hi
    exact this
  yld := fun H i x H' s hi y => by
    obtain ⟨e, c, h1, rfl⟩ := y
    refine ⟨.str ⟨#[c]⟩, ?_, .inl ⟨e, .str _⟩⟩
    unfold strItems
    rw [List.getElem?_map, Array.getElem?_toList, h1]
    rfl
/-- the items of a list, a tuple, a text -/
def itemsOf : D → Option (List D)
  | .lst ds => some ds
  | .tup ds => some ds
  | .set ds => some ds
  | .str z => some (strItems z)
  | _ => none
def dItems (da : Den DV) : Den (List D) := dBind da fun a => if isBo a = true then dFail else dLift (itemsOf a.2) dRet
def iAny (K : PySem.W.Frag) (te : TE) : TI := fun σ H R => iList K te σ H R ∨ iTup K te σ H R ∨ iStr te σ H R
theorem pi_any {tg e : Expr} {te : TE} (h : PE X e te) : PI X tg e (iAny X.K te) := PI.or (pi_list h) (PI.or (pi_tup h) (pi_str h))
theorem items_ok {da : Den DV} {Q : It → Hp → Prop} (h : tI K mg W pa (dItems da) σ H Q) : iAny K (tE K mg W pa da) σ H Q := by
  obtain ⟨ρ, R, F, res, hS, hden, hQ⟩ := h
  have hd := hden
  unfold dItems dBind at hd
  split at hd
  · cases hd
  · -- an exception
    rename_i ρ' x e0
    cases hd
    exact .inl ⟨ρ, R, F, _, hS, e0, fun c dx H' R' F' st q s => hQ c dx H' R' F' st q s⟩
  · rename_i ρ1 a e0
    dsimp only at hd
    split at hd
    · cases hd
    · rename_i hb
      obtain ⟨m, d⟩ := a
      unfold dLift at hd
      split at hd
      · cases hd
      · rename_i ds ei
        cases hd
        have key : ∀ {T : V → Hp → Prop}, (∀ v H2 R2 F2, Sta K R2 H2 ρ1 σ F2 → At K R2 v d → PostR K mg W (RI K) pa R2 H2 F2 σ Q (.ok ρ1 ds) → T v H2) → tE K mg W pa da σ H T := fun {T} k =>
          ⟨ρ, R, F, _, hS, e0, fun v H1 R1 F1 Fv st q n s p => k v H1 (ext R1 H1 Fv) F1 (st.freeze (nd_out n)) (q.freeze st.sub (not_bo (ff_of hb))) ((hQ.step s p).step (.freeze st.sub) fun _ => .refl)⟩
        cases d with
        | lst es => cases ei; exact .inl (key fun v H2 R2 F2 st q hQ2 => by cases q with | lst h1 h2 => exact ⟨_, rfl, ⟨_, st.sub.sqL h1⟩, hQ2.ri st (feeds_list h1 h2)⟩)
        | tup es => cases ei; exact .inr (.inl (key fun v H2 R2 F2 st q hQ2 => by cases q with | tup h1 h2 => exact ⟨_, rfl, ⟨_, st.sub.sqT h1⟩, hQ2.ri st (feeds_tup h1 h2)⟩))
        | set es => cases ei; exact .inr (.inl (key fun v H2 R2 F2 st q hQ2 => by cases q with | tux h1 _ _ h2 => exact ⟨_, rfl, ⟨_, st.sub.sqT (.inl (.inr ⟨_, h1⟩))⟩, hQ2.ri st (feeds_tup (.inl (.inr ⟨_, h1⟩)) h2)⟩))
        | str z => cases ei; exact .inr (.inr (key fun v H2 R2 F2 st q hQ2 => by cases q; exact ⟨z, rfl, hQ2.ri st feeds_str⟩))
        | _ => cases ei
/-- range(n), range(a, b) -/
def rngOf : List D → Option (List D)
  | [.int j] => if -(2 ^ 62) ≤ j ∧ j < 2 ^ 62 then some (rangeD 0 j.toNat) else none
  | _ => none
def rng2Of : List D → Option (List D)
  | [.int i, .int j] => if -(2 ^ 62) ≤ i ∧ i < 2 ^ 62 ∧ -(2 ^ 62) ≤ j ∧ j < 2 ^ 62 then some (rangeD i (j - i).toNat) else none
  | _ => none
def dRange (da : Den (List DV)) : Den (List D) := dBind da fun as => dLift (rngOf (as.map (·.2))) dRet
def dRange2 (da : Den (List DV)) : Den (List D) := dBind da fun as => dLift (rng2Of (as.map (·.2))) dRet
theorem range_ok {da : Den (List DV)} {Q : It → Hp → Prop} (h : tI K mg W pa (dRange da) σ H Q) : iRng1 (tA K mg W pa da) σ H Q := by
  obtain ⟨ρ, R, F, res, hS, hden, hQ⟩ := h
  refine tG_bind hS hden hQ fun ρ1 a v H1 R1 F1 G1 e st q n s p => ?_
  obtain ⟨ds, e1, e2⟩ := lift_some e
  have qa := q.at st.sub
  unfold rngOf at e1
  split at e1
  · rename_i j ej
    split at e1
    · rename_i hj
      cases e1; cases e2
      rw [ej] at qa
      cases qa with | cons h1 h2 => cases h2; cases h1; exact ⟨j, rfl, hj.1, hj.2, (hQ.step s p).drop.ri st feeds_range⟩
    · cases e1
  · cases e1
theorem range2_ok {da : Den (List DV)} {Q : It → Hp → Prop} (h : tI K mg W pa (dRange2 da) σ H Q) : iRng2 (tA K mg W pa da) σ H Q := by
  obtain ⟨ρ, R, F, res, hS, hden, hQ⟩ := h
  refine tG_bind hS hden hQ fun ρ1 a v H1 R1 F1 G1 e st q n s p => ?_
  obtain ⟨ds, e1, e2⟩ := lift_some e
  have qa := q.at st.sub
  unfold rng2Of at e1
  split at e1
  · rename_i i j ej
    split at e1
    · rename_i hj
      cases e1; cases e2
      rw [ej] at qa
      cases qa with | cons h1 h2 => cases h2 with | cons h3 h4 => cases h4; cases h3; cases h1; exact ⟨i, j, rfl, hj, (hQ.step s p).drop.ri st feeds_range⟩
    · cases e1
  · cases e1
/-- enumerate(xs), zip(xs, ys), of lists -/
def enumD : Nat → List D → List D
  | _, [] => []
  | i, d :: ds => .tup [.int i, d] :: enumD (i + 1) ds
theorem enumD_get : ∀ {k : Nat} {ds : List D} {i : Nat} {d : D}, ds[i]? = some d → (enumD k ds)[i]? = some (.tup [.int ((k + i : Nat) : Int), d])
  | k, [], i, d, e => by simp at e
  | k, x :: ds, 0, d, e => by simp at e; subst e; simp [enumD]
  | k, x :: ds, i + 1, d, e => by
    have := enumD_get (k := k + 1) (ds := ds) (i := i) (d := d) (by simpa using e)
    simp only [enumD, List.getElem?_cons_succ, this]
    congr 5
    omega
theorem enumD_len : ∀ {k : Nat} {ds : List D}, (enumD k ds).length = ds.length
  | _, [] => rfl
  | k, x :: ds => by simp [enumD, enumD_len (k := k + 1) (ds := ds)]
theorem feeds_enum {a : Addr} (h : SqL K R a vs) (q : AtAll K R vs ds) : Feeds K (Ite K a) R (enumD 0 ds) where
  stop := fun H i s hi => ⟨vs, s.sqL h, by rw [q.length]; rw [enumD_len] at hi; exact hi⟩
  go := fun H i s hi => by
    rw [enumD_len] at hi
    have hv : i < vs.length := by rw [q.length]; exact hi
    exact ⟨vs, vs[i], s.sqL h, List.getElem?_eq_getElem hv⟩
  yld := fun H i x H' s hi y => by
    obtain ⟨T, x', rfl, hT, rfl, f⟩ := y
    obtain ⟨d, h1, h2⟩ := q.get' (f vs (s.sqL h))
    refine ⟨_, enumD_get h1, .inr ⟨T, _, _, rfl, hT, rfl, rfl, .cons ?_ (.cons h2 .nil)⟩⟩
    rw [Nat.zero_add]; exact .int _
def enumOf : List D → Option (List D)
  | [.lst ds] => some (enumD 0 ds)
  | _ => none
def dEnum (da : Den (List DV)) : Den (List D) := dBind da fun as => if as.any isBo = true then dFail else dLift (enumOf (as.map (·.2))) dRet
theorem enum_ok {da : Den (List DV)} {Q : It → Hp → Prop} (h : tI K mg W pa (dEnum da) σ H Q) : iEnum K (tA K mg W pa da) σ H Q := by
  obtain ⟨ρ, R, F, res, hS, hden, hQ⟩ := h
  refine argsIm hS hden hQ fun ρ2 as vs H2 R2 F2 e st q hQ2 => ?_
  obtain ⟨ds, e1, e2⟩ := lift_some e
  unfold enumOf at e1
  split at e1
  · rename_i es ej
    cases e1; cases e2
    rw [ej] at q
    cases q with | cons h1 h2 => cases h2; cases h1 with | lst a b =>
    exact ⟨_, _, rfl, st.sub.sqL a, hQ2.ri st (feeds_enum a b)⟩
  · cases e1
def zipD : List D → List D → List D
  | x :: xs, y :: ys => .tup [x, y] :: zipD xs ys
  | _, _ => []
theorem zipD_get : ∀ {xs ys : List D} {i : Nat} {x y : D}, xs[i]? = some x → ys[i]? = some y → (zipD xs ys)[i]? = some (.tup [x, y])
  | [], _, _, _, _, e, _ => by simp at e
  | _ :: _, [], _, _, _, _, e => by simp at e
  | a :: xs, b :: ys, 0, x, y, e, e2 => by simp at e e2; subst e e2; rfl
  | a :: xs, b :: ys, i + 1, x, y, e, e2 => by simpa [zipD] using zipD_get (xs := xs) (ys := ys) (i := i) (by simpa using e) (by simpa using e2)
theorem zipD_len : ∀ {xs ys : List D}, (zipD xs ys).length = min xs.length ys.length
  | [], _ => by simp [zipD]
  | _ :: _, [] => by simp [zipD]
  | a :: xs, b :: ys => by simp only [zipD, List.length_cons, zipD_len (xs := xs) (ys := ys)]; omega
theorem feeds_zip {a b : Addr} {ws : List V} {es : List D} (h : SqL K R a vs) (q : AtAll K R vs ds) (h' : SqL K R b ws) (q' : AtAll K R ws es) : Feeds K (Itz K a b) R (zipD ds es) where
  stop := fun H i s hi => ⟨vs, ws, s.sqL h, s.sqL h', by rw [zipD_len] at hi; rw [q.length, q'.length]; omega⟩
  go := fun H i s hi => by
    rw [zipD_len] at hi
    have hv : i < vs.length := by rw [q.length]; omega
    have hw : i < ws.length := by rw [q'.length]; omega
    exact ⟨vs, ws, vs[i], ws[i], s.sqL h, s.sqL h', List.getElem?_eq_getElem hv, List.getElem?_eq_getElem hw⟩
  yld := fun H i x H' s hi y => by
    obtain ⟨T, x', y', rfl, hT, rfl, f, g⟩ := y
    obtain ⟨d, h1, h2⟩ := q.get' (f vs (s.sqL h))
    obtain ⟨e, h3, h4⟩ := q'.get' (g ws (s.sqL h'))
    exact ⟨_, zipD_get h1 h3, .inr ⟨T, _, _, rfl, hT, rfl, rfl, .cons h2 (.cons h4 .nil)⟩⟩
def zipOf : List D → Option (List D)
  | [.lst ds, .lst es] => some (zipD ds es)
  | _ => none
def dZip (da : Den (List DV)) : Den (List D) := dBind da fun as => if as.any isBo = true then dFail else dLift (zipOf (as.map (·.2))) dRet
theorem zip_ok {da : Den (List DV)} {Q : It → Hp → Prop} (h : tI K mg W pa (dZip da) σ H Q) : iZip K (tA K mg W pa da) σ H Q := by
  obtain ⟨ρ, R, F, res, hS, hden, hQ⟩ := h
  refine argsIm hS hden hQ fun ρ2 as vs H2 R2 F2 e st q hQ2 => ?_
  obtain ⟨ds, e1, e2⟩ := lift_some e
  unfold zipOf at e1
  split at e1
  · rename_i es fs ej
    cases e1; cases e2
    rw [ej] at q
    cases q with | cons h1 h2 => cases h2 with | cons h3 h4 => cases h4; cases h1 with | lst a b => cases h3 with | lst c d =>
    exact ⟨_, _, _, _, rfl, st.sub.sqL a, st.sub.sqL c, hQ2.ri st (feeds_zip a b c d)⟩
  · cases e1
end
end Den

/-! One rule a construct: its syntax has its meaning. -/
namespace Den
open PySem PySem.Spec PyProof.Rows L2
section
variable {X : Cx} {W : WX} {pa pb pc : Bool} {a b c : Expr} {pos : Pos} {da db dc : Den DV} {ta tb tc : Den Bool} {es : List Expr} {das : Den (List DV)} {e : Expr}
abbrev RE (X : Cx) (W : WX) (pu : Bool) (e : Expr) (d : Den DV) : Prop := PE X e (tE X.K X.mg W pu d)
abbrev RT (X : Cx) (W : WX) (pu : Bool) (e : Expr) (d : Den Bool) : Prop := PT X e (tT X.K X.mg W pu d)
abbrev RW (X : Cx) (W : WX) (pu : Bool) (e : Expr) (d : Den Bool) : Prop := PW X e (tT X.K X.mg W pu d)
abbrev RA (X : Cx) (W : WX) (pu : Bool) (e : List Expr) (d : Den (List DV)) : Prop := PA X e (tA X.K X.mg W pu d)
abbrev RAs (X : Cx) (W : WX) (pu : Bool) (e : List Expr) (d : Den (List Arg)) : Prop := PA X e (tAs X.K X.mg W pu d)
abbrev RIt (X : Cx) (W : WX) (pu : Bool) (tg e : Expr) (d : Den (List D)) : Prop := PI X tg e (tI X.K X.mg W pu d)
abbrev RG (X : Cx) (A : List Nat) (e : Expr) (d : DenG) : Prop := PG X e (gOf X.K A d)
abbrev RGs (X : Cx) (A : List Nat) (e : List Expr) (d : List D → Rho → Option Rho) : Prop := PGs X e (gsOf X.K A d)
abbrev RS (X : Cx) (W : WX) (A : List Nat) (s : Stmt) (d : DenS) : Prop := PS X s (tS X.K X.mg W A d)
abbrev RSs (X : Cx) (W : WX) (A : List Nat) (s : List Stmt) (d : DenS) : Prop := PSs X s (tS X.K X.mg W A d)
abbrev ROp (X : Cx) (W : WX) (pu : Bool) (e : Option Expr) (d : Den (Option Int)) : Prop := PO X e (tO X.K X.mg W pu d)

/-! expressions -/
theorem e_var {i : Nat} {x : Str} (h : PE X (.Name x pos) (tVar i)) : RE X W true (.Name x pos) (dVar i) := h.impD fun _ _ _ => var_ok
theorem e_varF {i : Nat} {x : Str} (h : PE X (.Name x pos) (tVar i)) : RE X W true (.Name x pos) (dVarF i) := h.impD fun _ _ _ => varF_ok
theorem e_varM {i : Nat} {x : Str} (h : PE X (.Name x pos) (tVar i)) : RE X W true (.Name x pos) (dVarM i) := h.impD fun _ _ _ => varM_ok
theorem e_int {i : Int} {j} : RE X W true (.Constant (.int i) j pos) (dC (.int i)) := pe_int.impD fun _ _ _ h => const_ok (d := .int i) rfl h
theorem e_bl {i : Bool} {j} : RE X W true (.Constant (.bool i) j pos) (dC (.bl i)) := pe_bl.impD fun _ _ _ h => const_ok (d := .bl i) rfl h
theorem e_non {j} : RE X W true (.Constant .none j pos) (dC .non) := pe_non.impD fun _ _ _ h => const_ok (d := .non) rfl h
theorem e_str {i : Str} {j} : RE X W true (.Constant (.str i) j pos) (dC (.str i)) := pe_str.impD fun _ _ _ h => const_ok (d := .str i) rfl h
/-- a built-in type as a value -/
theorem e_ty {x : Str} {n : String} (hg : Gl X x) (hm : X.mg x = none) (hv : bootBuiltins x = some (.type n)) (hn : x ≠ "__name__" := by decide) (hd : (x == ("__debug__" : Str)) = false := by decide) : RE X W true (.Name x pos) (dC (.ty n)) :=
  (pe_bltn (v := .ty n) hg hm hv rfl hn hd).impD fun _ _ _ h => const_ok (d := .ty n) rfl h
/-- what is not served: it is never come to -/
def dStuck {α : Type} : Den α := fun _ => none
theorem e_stuck {e : Expr} : RE X W pa e dStuck := ⟨fun _ _ _ _ _ _ h => by obtain ⟨_, _, _, _, _, e, _⟩ := h; cases e⟩
theorem t_stuck {e : Expr} : RT X W pa e dStuck := ⟨fun _ _ _ _ _ _ h => by obtain ⟨_, _, _, _, _, e, _⟩ := h; cases e⟩
def sStuck : DenS := fun _ => none
theorem s_stuck {A : List Nat} {s : Stmt} : RS X W A s sStuck := ⟨fun _ _ _ _ _ _ h => by obtain ⟨_, _, _, _, _, e, _⟩ := h; cases e⟩
theorem b_stuck {A : List Nat} {s : List Stmt} : RSs X W A s sStuck := ⟨fun _ _ _ _ _ _ h => by obtain ⟨_, _, _, _, _, e, _⟩ := h; cases e⟩
theorem e_bin {op : Operator} {f : D → D → Option OR} {r : R2} (ho : OpR X (binaryOp op) r) (hx : OpX X.K f r) (ha : RE X W pa a da) (hb : RE X W pb b db) : RE X W (pa && pb) (.BinOp a op b pos) (dBin pb f da db) := (pe_op ho ha hb).impD fun _ _ _ h => bin_ok hx h
theorem e_add (ha : RE X W pa a da) (hb : RE X W pb b db) : RE X W (pa && pb) (.BinOp a .Add b pos) (dBin pb addOp da db) := e_bin or_add ox_add ha hb
theorem e_sub (ha : RE X W pa a da) (hb : RE X W pb b db) : RE X W (pa && pb) (.BinOp a .Sub b pos) (dBin pb subOp da db) := e_bin op_sub ox_sub ha hb
theorem e_mul (ha : RE X W pa a da) (hb : RE X W pb b db) : RE X W (pa && pb) (.BinOp a .Mult b pos) (dBin pb mulOp da db) := e_bin or_mul ox_mul ha hb
theorem e_fdiv (ha : RE X W pa a da) (hb : RE X W pb b db) : RE X W (pa && pb) (.BinOp a .FloorDiv b pos) (dBin pb fdivOp da db) := e_bin op_fdivW ox_fdiv ha hb
theorem e_mod (ha : RE X W pa a da) (hb : RE X W pb b db) : RE X W (pa && pb) (.BinOp a .Mod b pos) (dBin pb modOp da db) := e_bin op_mod ox_mod ha hb
theorem e_pow (ha : RE X W pa a da) (hb : RE X W pb b db) : RE X W (pa && pb) (.BinOp a .Pow b pos) (dBin pb powOp da db) := e_bin op_pow ox_pow ha hb
theorem e_shl (ha : RE X W pa a da) (hb : RE X W pb b db) : RE X W (pa && pb) (.BinOp a .LShift b pos) (dBin pb shlOp da db) := e_bin op_shl ox_shl ha hb
theorem e_shr (ha : RE X W pa a da) (hb : RE X W pb b db) : RE X W (pa && pb) (.BinOp a .RShift b pos) (dBin pb shrOp da db) := e_bin op_shr ox_shr ha hb
theorem e_and (ha : RE X W pa a da) (hb : RE X W pb b db) : RE X W (pa && pb) (.BinOp a .BitAnd b pos) (dBin pb andOp da db) := e_bin op_and ox_and ha hb
theorem e_bor (ha : RE X W pa a da) (hb : RE X W pb b db) : RE X W (pa && pb) (.BinOp a .BitOr b pos) (dBin pb borOp da db) := e_bin op_or ox_bor ha hb
theorem e_neg (ha : RE X W pa a da) : RE X W pa (.UnaryOp .USub a pos) (dUn negOp da) := (pe_un un_neg ha).impD fun _ _ _ h => un_ok ux_neg h
theorem e_cmp {op : CmpOp} {f : D → D → Option OR} {r : R2} (ho : OpR X (compareOp op) r) (hx : OpX X.K f r) (ha : RE X W pa a da) (hb : RE X W pb b db) (hm : behindInMarks op b = false) : RE X W (pa && pb) (.Compare a [op] [b] pos) (dBin pb f da db) := (pe_cmpR ho ha hb hm).impD fun _ _ _ h => bin_ok hx h
theorem t_cmp {op : CmpOp} {f : D → D → Option OR} {r : R2} (ho : OpR X (compareOp op) r) (hx : OpX X.K f r) (ha : RE X W pa a da) (hb : RE X W pb b db) (hm : behindInMarks op b = false) : RT X W (pa && pb) (.Compare a [op] [b] pos) (dTst (dBin pb f da db)) :=
  (pt_cmpR ho ha hb hm).impD fun σ H Q h => by
    obtain ⟨ρ, R, F, r, h1, h2, h3⟩ := tst_ok h
    exact bin_ok hx ⟨ρ, R, F, r, h1, h2, h3⟩
theorem e_chain {op op' : CmpOp} {f f' : D → D → Option OR} {r r' : R2} (ho : OpR X (compareOp op) r) (hx : OpX X.K f r) (ho' : OpR X (compareOp op') r') (hx' : OpX X.K f' r') (ha : RE X W pa a da) (hb : RE X W pb b db) (hc : RE X W pc c dc)
    (hm : lastMarks [op, op'] [b, c] = false := by with_unfolding_all rfl) : RE X W (pa && (pb && pc)) (.Compare a [op, op'] [b, c] pos) (dChain f f' da db dc) := (pe_chain ho ho' ha hb hc hm).impD fun _ _ _ h => chain_ok hx hx' h
theorem t_chain {op op' : CmpOp} {f f' : D → D → Option OR} {r r' : R2} (ho : OpR X (compareOp op) r) (hx : OpX X.K f r) (ho' : OpR X (compareOp op') r') (hx' : OpX X.K f' r') (ha : RE X W pa a da) (hb : RE X W pb b db) (hc : RE X W pc c dc)
    (hm : lastMarks [op, op'] [b, c] = false := by with_unfolding_all rfl) : RT X W (pa && (pb && pc)) (.Compare a [op, op'] [b, c] pos) (dTst (dChain f f' da db dc)) := (pt_chain ho ho' ha hb hc hm).impD fun σ H Q h => by
    obtain ⟨ρ, R, F, r, h1, h2, h3⟩ := tst_ok h
    exact chain_ok hx hx' ⟨ρ, R, F, r, h1, h2, h3⟩
/-- a call, a name, a constant as a test: a bool -/
theorem t_val (ha : RE X W pa a da) (he : ∀ whole, isTrue a X.env whole = (do let v ← whole; standAt a.pos; holding [v] (truthy v)) := by intro _; rfl) : RT X W pa a (dTst da) := (pt_val ha he).impD fun _ _ _ h => tst_ok h
/-- .. anything, by its truth -/
theorem t_truth (ha : RE X W pa a da) (he : ∀ whole, isTrue a X.env whole = (do let v ← whole; standAt a.pos; holding [v] (truthy v)) := by intro _; rfl) : RT X W pa a (dTruth da) := (pt_truthW ha he).impD fun _ _ _ h => truth_ok h
theorem w_and1 (ha : RT X W pa a ta) : RW X W pa (.BoolOp .And [a] pos) ta := pw_and1 ha
theorem w_or1 (ha : RT X W pa a ta) : RW X W pa (.BoolOp .Or [a] pos) ta := pw_or1 ha
theorem w_and (ha : RT X W pa a ta) (hb : RW X W pb (.BoolOp .And (b :: es) pos) tb) : RW X W (pa && pb) (.BoolOp .And (a :: b :: es) pos) (dAnd ta tb) := (pw_and ha hb).impD fun _ _ _ h => and_ok h
theorem w_or (ha : RT X W pa a ta) (hb : RW X W pb (.BoolOp .Or (b :: es) pos) tb) : RW X W (pa && pb) (.BoolOp .Or (a :: b :: es) pos) (dOr ta tb) := (pw_or ha hb).impD fun _ _ _ h => or_ok h
theorem t_w (h : RW X W pa a ta) : RT X W pa a ta := PW.pt h
theorem t_not (ha : RT X W pa a ta) : RT X W pa (.UnaryOp .Not a pos) (dNot ta) := (pt_not ha).impD fun _ _ _ h => not_ok h
theorem e_and1 {op} (ha : RE X W pa a da) : RE X W pa (.BoolOp op [a] pos) da := pe_one ha
theorem e_andV (ha : RE X W pa a da) (hb : RE X W pb (.BoolOp .And (b :: es) pos) db) : RE X W (pa && pb) (.BoolOp .And (a :: b :: es) pos) (dAndV da db) := (pe_and ha hb).impD fun _ _ _ h => andV_ok h
theorem e_orV (ha : RE X W pa a da) (hb : RE X W pb (.BoolOp .Or (b :: es) pos) db) : RE X W (pa && pb) (.BoolOp .Or (a :: b :: es) pos) (dOrV da db) := (pe_or ha hb).impD fun _ _ _ h => orV_ok h
theorem e_notV (ha : RE X W pa a da) : RE X W pa (.UnaryOp .Not a pos) (dNotV da) := (pe_not ha).impD fun _ _ _ h => notV_ok h
theorem e_if (hc : RT X W pc c tc) (ha : RE X W pa a da) (hb : RE X W pb b db) : RE X W (pc && (pa && pb)) (.IfExp c a b pos) (dIf tc da db) := (pe_ifExp hc ha hb).impD fun _ _ _ h => ifE_ok h
theorem e_idx (ha : RE X W pa a da) (hb : RE X W pb b db) (hs : PlainIx b := by exact fun _ _ => rfl) : RE X W (pa && pb) (.Subscript a b pos) (dIdx pb da db) := (pe_ix ix_seq2 ha hb hs).impD fun _ _ _ h => index_ok h
theorem o_none : ROp X W true none dNoPart := po_none.impD fun _ _ _ h => noPart_ok h
theorem o_some (ha : RE X W pa a da) : ROp X W pa (some a) (dPart da) := (po_some ha).impD fun _ _ _ h => part_ok h
theorem e_sl {lo hi : Option Expr} {dl dh : Den (Option Int)} {p2 : Pos} (ha : RE X W pa a da) (hl : ROp X W pb lo dl) (hh : ROp X W pc hi dh) : RE X W (pa && (pb && pc)) (.Subscript a (.Slice lo hi none p2) pos) (dSl (pb && pc) da dl dh) := (pe_slice sl_any ha hl hh).impD fun _ _ _ h => sl_ok h
theorem a_nil : RA X W true [] dNil := pa_nil.impD fun _ _ _ h => args_nil h
theorem a_cons (ha : RE X W pa e da) (hr : RA X W pb es das) (hs : starEach (e :: es) X.env = (false, eval e X.env) :: starEach es X.env := by rfl) : RA X W (pa && pb) (e :: es) (dCons pb da das) := (pa_cons ha hr hs).impD fun _ _ _ h => args_cons h
theorem e_tup {x1} (h : RA X W pa es das) : RE X W pa (.Tuple es x1 pos) (dTup das) := (pe_tup h).impD fun _ _ _ h => disp_tup h
theorem e_lst (h : RA X W pa es das) : RE X W pa (.List es pos) (dLst das) := (pe_lst h).impD fun _ _ _ h => disp_lst h
theorem e_callB {id : String} {r : List V → Hp → VK → Prop} {f : List D → Option OR} {x : Str} {p : Pos} (hc : CallR X (.builtin id) r) (hx : CallX X.K f r) (hg : Gl X x) (hm : X.mg x = none) (hv : bootBuiltins x = some (.builtin id)) (ha : RA X W pa (e :: es) das) (hn : x ≠ "__name__" := by decide) (hdb : (x == ("__debug__" : Str)) = false := by decide)
    (he : starEach (e :: es) X.env = (false, eval e X.env) :: starEach es X.env := by rfl) (hpl : (backTo pos (starEach es X.env)).any (·.1) = false := by rfl) : RE X W pa (.Call (.Name x p) (e :: es) [] pos) (dCall f das) := (pe_callB hc hg hm hv ha hn hdb he hpl).impD fun _ _ _ h => call_ok hx h
theorem e_callT {T : String} {r : List V → Hp → VK → Prop} {f : List D → Option OR} {x : Str} {p : Pos} (hc : CallR X (.type T) r) (hx : CallX X.K f r) (hg : Gl X x) (hm : X.mg x = none) (hv : bootBuiltins x = some (.type T)) (ha : RA X W pa (e :: es) das) (hn : x ≠ "__name__" := by decide) (hdb : (x == ("__debug__" : Str)) = false := by decide)
    (he : starEach (e :: es) X.env = (false, eval e X.env) :: starEach es X.env := by rfl) (hpl : (backTo pos (starEach es X.env)).any (·.1) = false := by rfl) : RE X W pa (.Call (.Name x p) (e :: es) [] pos) (dCall f das) := (pe_callTy hc hg hm hv ha hn hdb he hpl).impD fun _ _ _ h => call_ok hx h
theorem x_nil : RAs X W true [] dAsNil := pa_nil.impD fun _ _ _ h => asNil_ok h
theorem x_var {i : Nat} {x : Str} {p : Pos} {dr : Den (List Arg)} (h : PE X (.Name x p) (tVar i)) (hr : RAs X W pb es dr) (hs : starEach (.Name x p :: es) X.env = (false, eval (.Name x p) X.env) :: starEach es X.env := by rfl) : RAs X W pb (.Name x p :: es) (dAsV i dr) := (pa_cons h hr hs).impD fun _ _ _ h => asV_ok h
theorem x_cons {dr : Den (List Arg)} (ha : RE X W pa e da) (hr : RAs X W pb es dr) (hs : starEach (e :: es) X.env = (false, eval e X.env) :: starEach es X.env := by rfl) : RAs X W (pa && pb) (e :: es) (dAsC pb da dr) := (pa_cons ha hr hs).impD fun _ _ _ h => asC_ok h
theorem e_call {k n : Nat} {f : Addr} {fd : FuncData} {ps : List Str} {fden : FDen} {x : Str} {p : Pos} {dr : Den (List Arg)} (F : FnOk X.prog X.w X.K X.mg X.base (L2.CX X.prog X.w) k f fd ps (SpD X.K X.mg n fden)) (tk : Takes X W) (hr : Room k X.A) (hg : Gl X x) (hm : X.mg x = some (.ref f)) (hk : PySem.W.keepIn X.K (.ref f) = true) (hb : L2.Binds X.K fd ps [])
    (ha : RAs X W pa (e :: es) dr) (hdb : (x == ("__debug__" : Str)) = false := by decide) (he : starEach (e :: es) X.env = (false, eval e X.env) :: starEach es X.env := by rfl) (hpl : (backTo pos (starEach es X.env)).any (·.1) = false := by rfl) :
    RE X W false (.Call (.Name x p) (e :: es) [] pos) (dCallF n fden dr) := (pe_callS F hr hg hm hk hb (fun σ => passAt tk σ) ha hdb he hpl).impD fun _ _ _ h => callF_ok h

/-! what is walked -/
theorem i_any {tg : Expr} (h : RE X W pa e da) : RIt X W pa tg e (dItems da) := PI.imp (pi_any h) fun _ _ _ h => items_ok h
theorem i_range {tg : Expr} {p : Pos} (hg : Gl X "range") (hm : X.mg "range" = none) (ha : RA X W pa [a] das) (hs : starEach [a] X.env = [(false, eval a X.env)] := by rfl) : RIt X W pa tg (.Call (.Name "range" p) [a] [] pos) (dRange das) := PI.imp (pi_range1 hg hm ha hs) fun _ _ _ h => range_ok h
theorem i_range2 {tg : Expr} {p : Pos} (hg : Gl X "range") (hm : X.mg "range" = none) (ha : RA X W pa [a, b] das) (hs : starEach [a, b] X.env = [(false, eval a X.env), (false, eval b X.env)] := by rfl) (hs2 : starEach [b] X.env = [(false, eval b X.env)] := by rfl) : RIt X W pa tg (.Call (.Name "range" p) [a, b] [] pos) (dRange2 das) := PI.imp (pi_range2 hg hm ha hs hs2) fun _ _ _ h => range2_ok h
theorem i_enum {p tpos : Pos} {elts : List Expr} {kk : Nat} (hg : Gl X "enumerate") (hm : X.mg "enumerate" = none) (ha : RA X W pa [e] das) (hs : starEach [e] X.env = [(false, eval e X.env)] := by rfl) : RIt X W pa (.Tuple elts kk tpos) (.Call (.Name "enumerate" p) [e] [] pos) (dEnum das) := PI.imp (pi_enum hg hm ha hs) fun _ _ _ h => enum_ok h
theorem i_zip {p tpos : Pos} {elts : List Expr} {kk : Nat} (hg : Gl X "zip") (hm : X.mg "zip" = none) (ha : RA X W pa [a, b] das) (hs : starEach [a, b] X.env = (false, eval a X.env) :: starEach [b] X.env := by rfl) (hpl : (backTo pos (starEach [b] X.env)).any (·.1) = false := by rfl) : RIt X W pa (.Tuple elts kk tpos) (.Call (.Name "zip" p) [a, b] [] pos) (dZip das) := PI.imp (pi_zip hg hm ha hs hpl) fun _ _ _ h => zip_ok h

/-! targets -/
variable {A : List Nat}
theorem g_name {i : Nat} {x : Str} (h : PG X (.Name x pos) (gName i)) (hi : i ∈ A) : RG X A (.Name x pos) (gSet i) := PG.imp h fun _ _ _ _ => gname_ok hi
theorem gs_nil : RGs X A [] gsNil := PGs.imp pgs_nil fun _ _ _ _ => gsnil_ok
theorem gs_cons {t : DenG} {u : List D → Rho → Option Rho} (h : RG X A e t) (hr : RGs X A es u) (hs : (assignEach (e :: es) X.env).map (·.2) = assign e X.env :: (assignEach es X.env).map (·.2) := by rfl) : RGs X A (e :: es) (gsCons t u) := PGs.imp (pgs_cons h hr hs) fun _ _ _ _ => gscons_ok
theorem g_tup {k n : Nat} {u : List D → Rho → Option Rho} (hc : X.calm = true) (h : RGs X A es u) (hn : (assignEach es X.env).length = n := by rfl) (hst : (assignEach es X.env).findIdx? (·.1) = none := by rfl) : RG X A (.Tuple es k pos) (gTupD n u) := PG.imp (PG.orX (pg_tup hc h hn hst) (pg_lst hc h hn hst)) fun _ _ _ _ => gtup_ok

/-! comprehensions -/
theorem ts_nil : PTs X [] (tT X.K X.mg W true (dRet true)) := L2.PTs.impD pts_nil fun σ H Q h => by
  obtain ⟨ρ, R, F, res, hS, hden, hQ⟩ := h
  cases hden
  exact hQ.rb hS
theorem ts_one {c : Expr} {t : Den Bool} (h : RT X W pa c t) : PTs X [c] (tT X.K X.mg W pa t) := pts_one h
theorem e_comp {elt tg iter : Expr} {ifs : List Expr} {scope : Scope} {own : List (Str × Nat)} {k : Sh} {di : Den (List D)} {dg : DenG} {tt : Den Bool} {te : Den DV} (hc : X.calm = true) (hN : X.N.Nodup) (hi : RIt X W pa tg iter di) (ok : BlkOk X.N X.env.scope scope own)
    (hg : ∀ (s : Shared) (H : Hp) (C : Addr) (cl : List (Str × Addr)) (fp : List Addr), RG (X.blk s H scope (compEnvC scope cl C X.env) fp) (own.map (·.2)) tg dg) (ht : ∀ (s : Shared) (H : Hp) (C : Addr) (cl : List (Str × Addr)) (fp : List Addr), PTs (X.blk s H scope (compEnvC scope cl C X.env) fp) ifs (tT X.K X.mg W0 pb tt))
    (he : ∀ (s : Shared) (H : Hp) (C : Addr) (cl : List (Str × Addr)) (fp : List Addr), RE (X.blk s H scope (compEnvC scope cl C X.env) fp) W0 pc elt te) (hs : ∀ x, foldedSetIterable iter X.env x = pure x := by intro _; rfl) :
    RE X W (pa && (pb && pc)) (.ListComp elt [⟨tg, iter, ifs, 0⟩] scope pos) (dComp (own.map (·.2)) k di dg tt te) := (pe_lc hc hN hi ok hg ht he hs).impD fun _ _ _ h => comp_ok h
theorem s_setLc {i : Nat} {y : Str} {py spos : Pos} {elt tg iter : Expr} {ifs : List Expr} {scope : Scope} {own : List (Str × Nat)} {k : Sh} {di : Den (List D)} {dg : DenG} {tt : Den Bool} {te : Den DV} (hA : i ∈ A) (hc : X.calm = true) (hN : X.N.Nodup) (hy : X.N[i]? = some y) (hyl : X.env.scope.names.lookup y = some .local)
    (hsw : swapsWith (.ListComp elt [⟨tg, iter, ifs, 0⟩] scope pos) (some (.Name y py)) spos.line X.env = pure true) (hi : RIt X W pa tg iter di) (ok : BlkOk X.N X.env.scope scope own)
    (hg : ∀ (s : Shared) (H : Hp) (C : Addr) (cl : List (Str × Addr)) (fp : List Addr), RG (X.blk s H scope (compEnvC scope cl C X.env) fp) (own.map (·.2)) tg dg) (ht : ∀ (s : Shared) (H : Hp) (C : Addr) (cl : List (Str × Addr)) (fp : List Addr), PTs (X.blk s H scope (compEnvC scope cl C X.env) fp) ifs (tT X.K X.mg W0 pb tt))
    (he : ∀ (s : Shared) (H : Hp) (C : Addr) (cl : List (Str × Addr)) (fp : List Addr), RE (X.blk s H scope (compEnvC scope cl C X.env) fp) W0 pc elt te) (hs : ∀ x, foldedSetIterable iter X.env x = pure x := by intro _; rfl) :
    RS X W A (.Assign [.Name y py] (.ListComp elt [⟨tg, iter, ifs, 0⟩] scope pos) spos) (sSet i (dComp (own.map (·.2)) k di dg tt te)) :=
  (ps_setLc hc hN hy hyl hsw hi ok hg ht he hs).impD fun D σ H h => comp_ok (set_ok (pa := pa && (pb && pc)) hA h)

theorem e_comp2 {elt tg iter tg1 iter1 : Expr} {ifs ifs1 : List Expr} {scope : Scope} {own : List (Str × Nat)} {vs1 : List Nat} {pd pe : Bool} {k : Sh} {di di1 : Den (List D)} {dg dg1 : DenG} {tt tt1 : Den Bool} {te : Den DV} (hc : X.calm = true) (hN : X.N.Nodup) (hv : ∀ i ∈ vs1, i ∈ own.map (·.2)) (hi : RIt X W pa tg iter di) (ok : BlkOk X.N X.env.scope scope own)
    (hg : ∀ (s : Shared) (H : Hp) (C : Addr) (cl : List (Str × Addr)) (fp : List Addr), RG (X.blk s H scope (compEnvC scope cl C X.env) fp) (own.map (·.2)) tg dg) (ht : ∀ (s : Shared) (H : Hp) (C : Addr) (cl : List (Str × Addr)) (fp : List Addr), PTs (X.blk s H scope (compEnvC scope cl C X.env) fp) ifs (tT X.K X.mg W0 pb tt))
    (hi1 : ∀ (s : Shared) (H : Hp) (C : Addr) (cl : List (Str × Addr)) (fp : List Addr), RIt (X.blk s H scope (compEnvC scope cl C X.env) fp) W0 pc tg1 iter1 di1)
    (hg1 : ∀ (s : Shared) (H : Hp) (C : Addr) (cl : List (Str × Addr)) (fp : List Addr), RG (X.blk s H scope (compEnvC scope cl C X.env) fp) vs1 tg1 dg1) (ht1 : ∀ (s : Shared) (H : Hp) (C : Addr) (cl : List (Str × Addr)) (fp : List Addr), PTs (X.blk s H scope (compEnvC scope cl C X.env) fp) ifs1 (tT X.K X.mg W0 pd tt1))
    (he : ∀ (s : Shared) (H : Hp) (C : Addr) (cl : List (Str × Addr)) (fp : List Addr), RE (X.blk s H scope (compEnvC scope cl C X.env) fp) W0 pe elt te) (hs : ∀ x, foldedSetIterable iter X.env x = pure x := by intro _; rfl) (hs1 : ∀ env x, foldedSetIterable iter1 env x = pure x := by intro _ _; rfl) :
    RE X W (pa && (pb && (pc && (pd && pe)))) (.ListComp elt [⟨tg, iter, ifs, 0⟩, ⟨tg1, iter1, ifs1, 0⟩] scope pos) (dComp2 (own.map (·.2)) vs1 k di dg tt di1 dg1 tt1 te) := (pe_lc2 hc hN hi ok hv hg ht hi1 hg1 ht1 he hs hs1).impD fun _ _ _ h => comp2_ok hv h

/-! statements -/
variable {st : Stmt} {rest : List Stmt} {ds dr : DenS}
theorem b_nil : RSs X W A [] sNil := pss_nil.impD fun _ _ _ h => nil_ok h
theorem b_cons (h : RS X W A st ds) (hr : RSs X W A rest dr) : RSs X W A (st :: rest) (sSeq ds dr) := (pss_cons h hr).impD fun _ _ _ h => seq_ok h
theorem b_one (h : RS X W A st ds) : RSs X W A [st] ds := pss_one h
theorem s_pass : RS X W A (.Pass pos) sNil := ps_pass.impD fun _ _ _ h => nil_ok h
theorem s_break : RS X W A (.Break pos) sBreak := ps_break.impD fun _ _ _ h => break_ok h
theorem s_cont : RS X W A (.Continue pos) sCont := ps_continue.impD fun _ _ _ h => cont_ok h
theorem s_if {bs cs : List Stmt} (hc : RT X W pc c tc) (ha : RSs X W A bs ds) (hb : RSs X W A cs dr) : RS X W A (.If c bs cs pos) (sIf tc ds dr) := (ps_if hc ha hb).impD fun _ _ _ h => ifS_ok h
theorem s_expr (ha : RE X W pa e da) (hs : swapsWith e none pos.line X.env = pure false := by rfl) : RS X W A (.Expr e pos) (sExpr da) := (ps_expr ha hs).impD fun _ _ _ h => expr_ok h
theorem s_ret (ha : RE X W pa e da) : RS X W A (.Return (some e) pos) (sRet da) := (ps_ret ha).impD fun _ _ _ h => ret_ok h
theorem s_retN : RS X W A (.Return none pos) sRetN := ps_retN.impD fun _ _ _ h => retN_ok h
theorem s_set {i : Nat} {x : Str} {pos' : Pos} (hA : i ∈ A) (hN : X.N.Nodup) (hi : X.N[i]? = some x) (hx : Loc X.env.scope x) (he : RE X W pa e da) (hs : swapsWith e (some (.Name x pos')) pos.line X.env = pure false := by rfl) (hf : X.fn x = true ∨ X.env.scope.names.lookup x = some .local := by first | exact .inl rfl | exact .inr rfl) :
    RS X W A (.Assign [.Name x pos'] e pos) (sSet i da) := (ps_set hN hi hx he hs hf).impD fun _ _ _ h => set_ok hA h
theorem s_asg {tg : Expr} {g : DenG} (he : RE X W pa e da) (hg : RG X A tg g) (hs : swapsWithSole [tg] e pos.line X.env = pure false := by rfl) (hw : swappedStores [tg] e X.env = pure none := by rfl) (h1 : (assignEach [tg] X.env).map (·.2) = [assign tg X.env] := by rfl) :
    RS X W A (.Assign [tg] e pos) (sAsg da g) := (ps_asg he hg hs hw h1).impD fun _ _ _ h => asg_ok h
theorem s_par {i j : Nat} {x y : Str} {px py pt : Pos} {kt k2 pt2} (hAi : i ∈ A) (hAj : j ∈ A) (hc : X.calm = true) (hN : X.N.Nodup) (hi : X.N[i]? = some x) (hj : X.N[j]? = some y) (hij : i ≠ j) (hx : X.env.scope.names.lookup x = some .local) (hy : X.env.scope.names.lookup y = some .local) (ha : RA X W pa [a, b] das)
    (hw : swappedStores [.Tuple [.Name x px, .Name y py] kt pt] (.Tuple [a, b] k2 pt2) X.env = pure (some [x, y]) := by rfl) (hs : swapsWithSole [.Tuple [.Name x px, .Name y py] kt pt] (.Tuple [a, b] k2 pt2) pos.line X.env = pure false := by rfl) :
    RS X W A (.Assign [.Tuple [.Name x px, .Name y py] kt pt] (.Tuple [a, b] k2 pt2) pos) (sPar i j das) := (ps_par hc hN hi hj hij hx hy ha hw hs).impD fun _ _ _ h => par_ok hAi hAj h
theorem s_for {tg iter : Expr} {body : List Stmt} {di : Den (List D)} {g : DenG} (hp : PassesOwn (model X.prog X.w) X.A X.env X.xe) (hc : X.calm = true) (hi : RIt X W pa tg iter di) (hg : RG X A tg g) (hb : RSs X W A body ds) (hs : ∀ x, foldedSetIterable iter X.env x = pure x := by intro _; rfl) :
    RS X W A (.For tg iter body [] pos) (sFor di g ds) := (ps_for hp hc hi hg hb hs).impD fun _ _ _ h => for_ok h
theorem s_while {body : List Stmt} {n : Nat} (hp : PassesOwn (model X.prog X.w) X.A X.env X.xe) (hc : RT X W pc c tc) (hb : RSs X W A body ds) : RS X W A (.While c body [] pos) (whileF tc ds n) := (ps_while hp hc hb).impD fun _ _ _ h => while_ok h
theorem s_append {ks : Sh} {i : Nat} {x : Str} {px apos cpos : Pos} (h : PE X (.Name x px) (tVar i)) (ha : RE X W pa e da) (hline : (apos.endLine == cpos.line) = true := by rfl)
    (hbase : attributeBase (.Name x px) "append" X.env (eval (.Name x px) X.env) = eval (.Name x px) X.env := by rfl) (hfew : ((backTo cpos (starEach [e] X.env)).all (fun x => !x.1) && (backToKw cpos (keywordEach [] X.env)).all (fun x => x.1.isSome) && decide (([e] : List Expr).length + ([] : List Keyword).length + (if ([] : List Keyword).isEmpty then 0 else 1) < 30)) = true := by rfl)
    (hst : starEach [e] X.env = (false, eval e X.env) :: starEach [] X.env := by rfl) (hplain : (backTo cpos (starEach [] X.env)).any (·.1) = false := by rfl) (hs : swapsWith (.Call (.Attribute (.Name x px) "append" apos) [e] [] cpos) none pos.line X.env = pure false := by rfl) :
    RS X W A (.Expr (.Call (.Attribute (.Name x px) "append" apos) [e] [] cpos) pos) (sAppend ks i da) :=
  (ps_expr (pe_bm PySem.F.plainAttrs_list PySem.F.slot_list_append PySem.F.type_list_append mt_append h (pa_cons ha pa_nil hst) hbase hfew hline hst hplain) hs).impD fun _ _ _ h => append_ok h
theorem e_pop {i : Nat} {x : Str} {px apos cpos : Pos} (h : PE X (.Name x px) (tVar i)) (hbase : attributeBase (.Name x px) "pop" X.env (eval (.Name x px) X.env) = eval (.Name x px) X.env := by rfl) (hline : (apos.endLine == cpos.line) = true := by rfl) :
    RE X W false (.Call (.Attribute (.Name x px) "pop" apos) [] [] cpos) (dPop i) := (pe_bm0 PySem.F.plainAttrs_list PySem.F.slot_list_pop PySem.F.type_list_pop mt_pop h hbase hline).impD fun _ _ _ h => pop_ok h
theorem e_popAt {i : Nat} {x : Str} {px apos cpos : Pos} (h : PE X (.Name x px) (tVar i)) (ha : RE X W pa e da) (hline : (apos.endLine == cpos.line) = true := by rfl)
    (hbase : attributeBase (.Name x px) "pop" X.env (eval (.Name x px) X.env) = eval (.Name x px) X.env := by rfl) (hfew : ((backTo cpos (starEach [e] X.env)).all (fun x => !x.1) && (backToKw cpos (keywordEach [] X.env)).all (fun x => x.1.isSome) && decide (([e] : List Expr).length + ([] : List Keyword).length + (if ([] : List Keyword).isEmpty then 0 else 1) < 30)) = true := by rfl)
    (hst : starEach [e] X.env = (false, eval e X.env) :: starEach [] X.env := by rfl) (hplain : (backTo cpos (starEach [] X.env)).any (·.1) = false := by rfl) :
    RE X W false (.Call (.Attribute (.Name x px) "pop" apos) [e] [] cpos) (dPopAt i da) := (pe_bm PySem.F.plainAttrs_list PySem.F.slot_list_pop PySem.F.type_list_pop mt_popAt h (pa_cons ha pa_nil hst) hbase hfew hline hst hplain).impD fun _ _ _ h => popAt_ok h
theorem s_setItem {i : Nat} {x : Str} {px tpos : Pos} {ix : Expr} (h : PE X (.Name x px) (tVar i)) (hi : RE X W pb ix db) (he : RE X W pa e da) (hs : swapsWithSole [.Subscript (.Name x px) ix tpos] e pos.line X.env = pure false := by rfl) (hw : swappedStores [.Subscript (.Name x px) ix tpos] e X.env = pure none := by rfl)
    (h1 : (assignEach [.Subscript (.Name x px) ix tpos] X.env).map (·.2) = [assign (.Subscript (.Name x px) ix tpos) X.env] := by rfl) (hsub : ∀ v, assign (.Subscript (.Name x px) ix tpos) X.env v = (do
      let ov ← holding [v] (eval (.Name x px) X.env)
      let iv ← holding [v, ov] (eval ix X.env)
      standAt tpos
      holding [v, ov, iv] (setItem ov iv v)
      release [v, ov, iv] []) := by intro _; rfl) : RS X W A (.Assign [.Subscript (.Name x px) ix tpos] e pos) (sSetItem i da db) := (ps_asg he (pg_sub h hi set_list hsub) hs hw h1).impD fun _ _ _ h => setItem_ok h
theorem s_setItem2 {i : Nat} {x : Str} {px ppos tpos : Pos} {ix iy : Expr} (h : PE X (.Name x px) (tVar i)) (hx : RE X W pb ix db) (hy : RE X W true iy dc) (he : RE X W pa e da) (hpl : PlainIx ix := by exact fun _ _ => rfl) (hs : swapsWithSole [.Subscript (.Subscript (.Name x px) ix ppos) iy tpos] e pos.line X.env = pure false := by rfl) (hw : swappedStores [.Subscript (.Subscript (.Name x px) ix ppos) iy tpos] e X.env = pure none := by rfl)
    (h1 : (assignEach [.Subscript (.Subscript (.Name x px) ix ppos) iy tpos] X.env).map (·.2) = [assign (.Subscript (.Subscript (.Name x px) ix ppos) iy tpos) X.env] := by rfl) (hsub : ∀ v, assign (.Subscript (.Subscript (.Name x px) ix ppos) iy tpos) X.env v = (do
      let ov ← holding [v] (eval (.Subscript (.Name x px) ix ppos) X.env)
      let iv ← holding [v, ov] (eval iy X.env)
      standAt tpos
      holding [v, ov, iv] (setItem ov iv v)
      release [v, ov, iv] []) := by intro _; rfl) : RS X W A (.Assign [.Subscript (.Subscript (.Name x px) ix ppos) iy tpos] e pos) (sSetItem2 i da db dc) := (ps_asg he (pg_sub (pe_ix ix_seq2 h hx hpl) hy set_list hsub) hs hw h1).impD fun _ _ _ h => setItem2_ok h
end
end Den

namespace Den
open PySem PySem.Spec PyProof.Rows L2
theorem fn_none {P : Program} {w : World} {K : PySem.W.Frag} {mg : Str → Option Value} {base : Heap} {CX : CXT} {k n : Nat} {f : Addr} {fd : FuncData} {ps : List Str} : FnOk P w K mg base CX k f fd ps (SpD K mg n fun _ => none) :=
  ⟨fun vs H Q E h => (by obtain ⟨_, _, _, _, _, _, e, _⟩ := h; cases e), fun A outer s H args us vs Q E hr he hb hv h => (by obtain ⟨_, _, _, _, _, _, e, _⟩ := h; cases e)⟩
theorem room65 {k : Nat} {A : Around} (r : Room k A) : A.units + 65 < cLine := by have := r.un; omega
/-- a while's turns at most (never counted) -/
def WN : Nat := 1000000000000
end Den
namespace Den
open PySem PySem.Spec PyProof.Rows L2
theorem ints_all {K : PySem.W.Frag} {R : Hp} : ∀ ns : List Int, AtAll K R (ns.map V.int) (ns.map D.int)
  | [] => .nil
  | n :: ns => .cons (.int n) (ints_all ns)
theorem cx_false {P : Program} {w : World} {H : Hp} {s s' : Shared} {e : Value} {l : List PySem.Env} (h : L2.CX P w l H s (fun _ _ _ => False) e s') : False := by
  obtain ⟨_, _, _, _, _, _, _, _, _, _, _, _, z⟩ := h
  exact z
end Den

namespace Den
open PySem PySem.Spec PyProof.Rows L2
/-! what waits: nothing is done in it -/
inductive Tag {α : Sort u} (a : α) : Type where
  | mk
def tgz {α : Sort u} (a : α) : Tag a := .mk
def Lz {α : Sort u} {f : α} (_ : Tag f) : α := f
@[simp ↓] theorem Lz_1 {α : Sort u} {β : Sort v} {f : α → β} {t : Tag f} {x : α} : Lz t x = f x := id rfl
@[simp ↓] theorem Lz_2 {α : Sort u} {β : Sort v} {γ : Sort w} {f : α → β → γ} {t : Tag f} {x : α} {y : β} : Lz t x y = f x y := id rfl
/-! what is wanted of a meaning -/
def wO {α : Type} (o : Option α) (k : α → Prop) : Prop := match o with
  | none => False
  | some a => k a
def uE {α : Type} (m : Den α) (Q : Rho → α → Prop) (X : Rho → Exn → Prop) (ρ : Rho) : Prop := match m ρ with
  | none => False
  | some (.ok ρ' a) => Q ρ' a
  | some (.ex ρ' x) => X ρ' x
def uS (s : DenS) (N : Rho → Prop) (T : Rho → DV → Prop) (B C : Rho → Prop) (X : Rho → Exn → Prop) (ρ : Rho) : Prop := match s ρ with
  | none => False
  | some (.nx ρ') => N ρ'
  | some (.rt ρ' a) => T ρ' a
  | some (.bk ρ') => B ρ'
  | some (.ct ρ') => C ρ'
  | some (.ex ρ' x) => X ρ' x
def uF (f : FDen) (Q : DV → List (Sh × D) → Prop) (X : Exn → List (Sh × D) → Prop) (args : List (Sh × D)) : Prop := match f args with
  | none => False
  | some (.ret a os) => Q a os
  | some (.ex x os) => X x os
theorem wO_congr {α : Type} {o o' : Option α} {k : α → Prop} (h : o = o') : wO o k = wO o' k := by rw [h]
theorem uE_congr {α : Type} {m : Den α} {Q : Rho → α → Prop} {X : Rho → Exn → Prop} {ρ ρ' : Rho} (h : ρ = ρ') : uE m Q X ρ = uE m Q X ρ' := by rw [h]
theorem uS_congrR {m : DenS} {N : Rho → Prop} {T : Rho → DV → Prop} {B C : Rho → Prop} {X : Rho → Exn → Prop} {ρ ρ' : Rho} (h : ρ = ρ') : uS m N T B C X ρ = uS m N T B C X ρ' := by rw [h]
theorem uF_congr {f : FDen} {Q : DV → List (Sh × D) → Prop} {X : Exn → List (Sh × D) → Prop} {a a' : List (Sh × D)} (h : a = a') : uF f Q X a = uF f Q X a' := by rw [h]
section
variable {α β : Type} {Q : Rho → α → Prop} {X : Rho → Exn → Prop} {ρ : Rho}
@[simp] theorem wO_some {α : Type} {a : α} {k : α → Prop} : wO (some a) k = k a := id rfl
@[simp] theorem wO_none {α : Type} {k : α → Prop} : wO none k = False := id rfl
theorem wO_map {α β : Type} {f : α → β} {o : Option α} {k : β → Prop} : wO (o.map f) k = wO o (fun a => k (f a)) := by cases o <;> rfl
@[simp] theorem wO_map_z {α β : Type} {f : α → β} {o : Option α} {k : β → Prop} : wO (o.map f) k = wO o ((Lz (tgz fun a => k (f a)))) := wO_map
@[simp] theorem wO_ite {α : Type} {c : Prop} [Decidable c] {a b : Option α} {k : α → Prop} : wO (if c then a else b) k = if c then wO a k else wO b k := by split <;> rfl
theorem uE_bind {m : Den β} {f : β → Den α} : uE (dBind m f) Q X ρ = uE m (fun ρ a => uE (f a) Q X ρ) X ρ := by
  unfold uE dBind; cases m ρ with
  | none => rfl
  | some r => cases r <;> rfl
@[simp ↓] theorem uE_ret {a : α} : uE (dRet a) Q X ρ = Q ρ a := id rfl
@[simp ↓] theorem uE_fail : uE dFail Q X ρ = False := id rfl
theorem uE_lift {o : Option β} {f : β → Den α} : uE (dLift o f) Q X ρ = wO o (fun a => uE (f a) Q X ρ) := by
  unfold uE dLift; cases o <;> rfl
theorem uE_ite {c : Prop} [Decidable c] {a b : Den α} : uE (if c then a else b) Q X ρ = if c then uE a Q X ρ else uE b Q X ρ := by split <;> rfl
end
section
variable {Q : Rho → DV → Prop} {X : Rho → Exn → Prop} {ρ : Rho}
def rdM : Sh → Md
  | .im => .sh .im
  | .ow _ => .bo
@[simp] theorem rdM_im : rdM .im = .sh .im := id rfl
@[simp] theorem rdM_ow {k : Sh} : rdM (.ow k) = .bo := id rfl
def wSlot (o : Option Slot) (k : Sh → D → Prop) : Prop := match o with
  | some (some (s, d)) => k s d
  | _ => False
@[simp ↓] theorem wSlot_some {s : Sh} {d : D} {k : Sh → D → Prop} : wSlot (some (some (s, d))) k = k s d := id rfl
@[simp ↓] theorem uE_C {d : D} : uE (dC d) Q X ρ = Q ρ (.sh .im, d) := id rfl
theorem uE_var {i : Nat} : uE (dVar i) Q X ρ = wSlot ρ[i]? fun s d => Q ρ (rdM s, d) := by
  unfold uE dVar; cases ρ[i]? with
  | none => rfl
  | some o => cases o with
    | none => rfl
    | some sd => obtain ⟨s, d⟩ := sd; cases s <;> rfl
@[simp ↓] theorem uE_var_z {i : Nat} : uE (dVar i) Q X ρ = wSlot ρ[i]? (Lz (tgz fun s d => Q ρ (rdM s, d))) := uE_var
theorem set_same {α : Type} {ρ : List α} {i : Nat} {x : α} (h : ρ[i]? = some x) : ρ.set i x = ρ := by
  apply List.ext_getElem?; intro j
  rw [List.getElem?_set]
  split
  · rename_i e; subst e; obtain ⟨hl, e⟩ := List.getElem?_eq_some_iff.1 h; simp [hl, ← e]
  · rfl
theorem uE_varF {i : Nat} : uE (dVarF i) Q X ρ = wSlot ρ[i]? fun _ d => Q (ρ.set i (some (.im, d))) (.sh .im, d) := by
  unfold uE dVarF; cases h : ρ[i]? with
  | none => rfl
  | some o => cases o with
    | none => rfl
    | some sd => obtain ⟨s, d⟩ := sd; cases s with
      | im => simp only [wSlot_some]; rw [set_same h]
      | ow k => rfl
@[simp ↓] theorem uE_varF_z {i : Nat} : uE (dVarF i) Q X ρ = wSlot ρ[i]? (Lz (tgz fun _ d => Q (ρ.set i (some (.im, d))) (.sh .im, d))) := uE_varF
theorem uE_varM {i : Nat} : uE (dVarM i) Q X ρ = wSlot ρ[i]? fun s d => Q (ρ.set i none) (.sh s, d) := by
  unfold uE dVarM; cases ρ[i]? with
  | none => rfl
  | some o => cases o with
    | none => rfl
    | some sd => rfl
@[simp ↓] theorem uE_varM_z {i : Nat} : uE (dVarM i) Q X ρ = wSlot ρ[i]? (Lz (tgz fun s d => Q (ρ.set i none) (.sh s, d))) := uE_varM
@[simp] theorem isBo_sh {s : Sh} {d : D} : isBo (.sh s, d) = false := id rfl
@[simp] theorem isBo_bo {d : D} : isBo (.bo, d) = true := id rfl
@[simp] theorem lent_s {d : D} : OR.lent (.s d) = true := id rfl
@[simp] theorem lent_l {d : List D} : OR.lent (.l d) = false := id rfl
@[simp] theorem lent_a {d : D} : OR.lent (.a d) = false := id rfl
@[simp] theorem val_s {d : D} : OR.val (.s d) = (.sh .im, d) := id rfl
@[simp] theorem val_l {d : List D} : OR.val (.l d) = (.sh (.ow .im), .lst d) := id rfl
@[simp] theorem val_a {d : D} : OR.val (.a d) = (.sh .im, d) := id rfl
theorem notC (c : Bool) (p q : Prop) : (if c = true then p else q) ↔ (if c = true then p else q) := Iff.rfl
theorem uE_bin {pb : Bool} {op : D → D → Option OR} {da db : Den DV} : uE (dBin pb op da db) Q X ρ = uE da (fun ρ a => (isBo a && !pb) = false ∧ uE db (fun ρ b => wO (op a.2 b.2) fun o => (!o.lent && (isBo a || isBo b)) = false ∧ Q ρ o.val) X ρ) X ρ := by
  unfold dBin; rw [uE_bind]; congr 1; funext ρ a
  rw [uE_ite]; split
  · rename_i h; simp [h]
  · rename_i h; rw [uE_bind, eq_true (Bool.eq_false_iff.2 h), true_and]; congr 1; funext ρ b; rw [uE_lift]; congr 1; funext o
    rw [uE_ite]; split
    · rename_i h; simp [h]
    · rename_i h; rw [eq_true (Bool.eq_false_iff.2 h), true_and]; rfl
@[simp ↓] theorem uE_bin_z {pb : Bool} {op : D → D → Option OR} {da db : Den DV} : uE (dBin pb op da db) Q X ρ = uE da ((Lz (tgz fun ρ a => (isBo a && !pb) = false ∧ uE db ((Lz (tgz fun ρ b => wO (op a.2 b.2) (Lz (tgz fun o => (!o.lent && (isBo a || isBo b)) = false ∧ Q ρ o.val))))) X ρ))) X ρ := uE_bin
theorem uE_un {op : D → Option OR} {da : Den DV} : uE (dUn op da) Q X ρ = uE da (fun ρ a => wO (op a.2) fun o => (!o.lent && isBo a) = false ∧ Q ρ o.val) X ρ := by
  unfold dUn; rw [uE_bind]; congr 1; funext ρ a
  rw [uE_lift]; congr 1; funext o
  rw [uE_ite]; split
  · rename_i h; simp [h]
  · rename_i h; rw [eq_true (Bool.eq_false_iff.2 h), true_and]; rfl
@[simp ↓] theorem uE_un_z {op : D → Option OR} {da : Den DV} : uE (dUn op da) Q X ρ = uE da ((Lz (tgz fun ρ a => wO (op a.2) (Lz (tgz fun o => (!o.lent && isBo a) = false ∧ Q ρ o.val))))) X ρ := uE_un
@[simp ↓] theorem uE_nil {Q : Rho → List DV → Prop} : uE dNil Q X ρ = Q ρ [] := id rfl
theorem uE_cons {pr : Bool} {da : Den DV} {dr : Den (List DV)} {Q : Rho → List DV → Prop} : uE (dCons pr da dr) Q X ρ = uE da (fun ρ a => (isBo a && !pr) = false ∧ uE dr (fun ρ as => Q ρ (a :: as)) X ρ) X ρ := by
  unfold dCons; rw [uE_bind]; congr 1; funext ρ a
  rw [uE_ite]; split
  · rename_i h; simp [h]
  · rename_i h; rw [eq_true (Bool.eq_false_iff.2 h), true_and, uE_bind]; rfl
@[simp ↓] theorem uE_cons_z {pr : Bool} {da : Den DV} {dr : Den (List DV)} {Q : Rho → List DV → Prop} : uE (dCons pr da dr) Q X ρ = uE da ((Lz (tgz fun ρ a => (isBo a && !pr) = false ∧ uE dr ((Lz (tgz fun ρ as => Q ρ (a :: as)))) X ρ))) X ρ := uE_cons
def noBo : List DV → Bool
  | [] => true
  | a :: as => !isBo a && noBo as
@[simp] theorem noBo_nil : noBo [] = true := id rfl
@[simp] theorem noBo_cons {a : DV} {as : List DV} : noBo (a :: as) = (!isBo a && noBo as) := id rfl
theorem noBo_eq : ∀ as : List DV, as.any isBo = !noBo as
  | [] => (rfl)
  | a :: as => by rw [List.any_cons, noBo_eq as, noBo_cons]; cases isBo a <;> simp
theorem uE_call {op : List D → Option OR} {da : Den (List DV)} : uE (dCall op da) Q X ρ = uE da (fun ρ as => wO (op (as.map (·.2))) fun o => (!o.lent && !noBo as) = false ∧ Q ρ o.val) X ρ := by
  simp only [← noBo_eq]
  unfold dCall; rw [uE_bind]; congr 1; funext ρ as
  rw [uE_lift]; congr 1; funext o
  rw [uE_ite]; split
  · rename_i h; simp [h]
  · rename_i h; rw [eq_true (Bool.eq_false_iff.2 h), true_and]; rfl
@[simp ↓] theorem uE_call_z {op : List D → Option OR} {da : Den (List DV)} : uE (dCall op da) Q X ρ = uE da ((Lz (tgz fun ρ as => wO (op (as.map (·.2))) (Lz (tgz fun o => (!o.lent && !noBo as) = false ∧ Q ρ o.val))))) X ρ := uE_call
theorem uE_tup {da : Den (List DV)} : uE (dTup da) Q X ρ = uE da (fun ρ as => noBo as = true ∧ as.length ≤ sizeLine ∧ Q ρ (.sh .im, .tup (as.map (·.2)))) X ρ := by
  have e : ∀ as, (noBo as = true) = (as.any isBo = false) := fun as => by rw [noBo_eq]; cases noBo as <;> simp
  simp only [e]
  unfold dTup; rw [uE_bind]; congr 1; funext ρ as
  rw [uE_ite]; split
  · rename_i h; simp [h]
  · rename_i h; rw [eq_true (Bool.eq_false_iff.2 h), true_and, uE_ite]; split
    · rename_i h; rw [eq_true h, true_and]; rfl
    · rename_i h; rw [eq_false h, false_and]; rfl
@[simp ↓] theorem uE_tup_z {da : Den (List DV)} : uE (dTup da) Q X ρ = uE da ((Lz (tgz fun ρ as => noBo as = true ∧ as.length ≤ sizeLine ∧ Q ρ (.sh .im, .tup (as.map (·.2)))))) X ρ := uE_tup
theorem uE_lst {da : Den (List DV)} : uE (dLst da) Q X ρ = uE da (fun ρ as => noBo as = true ∧ as.length ≤ sizeLine ∧ Q ρ (.sh (.ow .im), .lst (as.map (·.2)))) X ρ := by
  have e : ∀ as, (noBo as = true) = (as.any isBo = false) := fun as => by rw [noBo_eq]; cases noBo as <;> simp
  simp only [e]
  unfold dLst; rw [uE_bind]; congr 1; funext ρ as
  rw [uE_ite]; split
  · rename_i h; simp [h]
  · rename_i h; rw [eq_true (Bool.eq_false_iff.2 h), true_and, uE_ite]; split
    · rename_i h; rw [eq_true h, true_and]; rfl
    · rename_i h; rw [eq_false h, false_and]; rfl
@[simp ↓] theorem uE_lst_z {da : Den (List DV)} : uE (dLst da) Q X ρ = uE da ((Lz (tgz fun ρ as => noBo as = true ∧ as.length ≤ sizeLine ∧ Q ρ (.sh (.ow .im), .lst (as.map (·.2)))))) X ρ := uE_lst
def wBl (d : D) (k : Bool → Prop) : Prop := match d with
  | .bl b => k b
  | _ => False
theorem wBl_congr {o o' : D} {k : Bool → Prop} (h : o = o') : wBl o k = wBl o' k := by rw [h]
@[simp] theorem wBl_bl {b : Bool} {k : Bool → Prop} : wBl (.bl b) k = k b := id rfl
def wInt (d : D) (k : Int → Prop) : Prop := match d with
  | .int b => k b
  | _ => False
theorem wInt_congr {o o' : D} {k : Int → Prop} (h : o = o') : wInt o k = wInt o' k := by rw [h]
@[simp] theorem wInt_int {b : Int} {k : Int → Prop} : wInt (.int b) k = k b := id rfl
section
variable {Q : Rho → Bool → Prop}
theorem uE_tst {da : Den DV} : uE (dTst da) Q X ρ = uE da (fun ρ a => wBl a.2 (Q ρ)) X ρ := by
  unfold dTst; rw [uE_bind]; congr 1; funext ρ a; obtain ⟨m, d⟩ := a; cases d <;> rfl
@[simp ↓] theorem uE_tst_z {da : Den DV} : uE (dTst da) Q X ρ = uE da ((Lz (tgz fun ρ a => wBl a.2 (Q ρ)))) X ρ := uE_tst
theorem uE_truth {da : Den DV} : uE (dTruth da) Q X ρ = uE da (fun ρ a => wO (truthD a.2) (Q ρ)) X ρ := by
  unfold dTruth; rw [uE_bind]; congr 1; funext ρ a; rw [uE_lift]; rfl
@[simp ↓] theorem uE_truth_z {da : Den DV} : uE (dTruth da) Q X ρ = uE da ((Lz (tgz fun ρ a => wO (truthD a.2) (Q ρ)))) X ρ := uE_truth
theorem uE_and {da db : Den Bool} : uE (dAnd da db) Q X ρ = uE da (fun ρ c => if c = true then uE db Q X ρ else Q ρ false) X ρ := by
  unfold dAnd; rw [uE_bind]; congr 1; funext ρ c; rw [uE_ite]; rfl
@[simp ↓] theorem uE_and_z {da db : Den Bool} : uE (dAnd da db) Q X ρ = uE da ((Lz (tgz fun ρ c => if c = true then uE db Q X ρ else Q ρ false))) X ρ := uE_and
theorem uE_or {da db : Den Bool} : uE (dOr da db) Q X ρ = uE da (fun ρ c => if c = true then Q ρ true else uE db Q X ρ) X ρ := by
  unfold dOr; rw [uE_bind]; congr 1; funext ρ c; rw [uE_ite]; rfl
@[simp ↓] theorem uE_or_z {da db : Den Bool} : uE (dOr da db) Q X ρ = uE da ((Lz (tgz fun ρ c => if c = true then Q ρ true else uE db Q X ρ))) X ρ := uE_or
theorem uE_not {da : Den Bool} : uE (dNot da) Q X ρ = uE da (fun ρ c => Q ρ (!c)) X ρ := by
  unfold dNot; rw [uE_bind]; rfl
@[simp ↓] theorem uE_not_z {da : Den Bool} : uE (dNot da) Q X ρ = uE da ((Lz (tgz fun ρ c => Q ρ (!c)))) X ρ := uE_not
end
theorem uE_if {α : Type} {Q : Rho → α → Prop} {dc : Den Bool} {da db : Den α} : uE (dIf dc da db) Q X ρ = uE dc (fun ρ c => if c = true then uE da Q X ρ else uE db Q X ρ) X ρ := by
  unfold dIf; rw [uE_bind]; congr 1; funext ρ c; rw [uE_ite]
@[simp ↓] theorem uE_if_z {α : Type} {Q : Rho → α → Prop} {dc : Den Bool} {da db : Den α} : uE (dIf dc da db) Q X ρ = uE dc ((Lz (tgz fun ρ c => if c = true then uE da Q X ρ else uE db Q X ρ))) X ρ := uE_if
theorem uE_andV {da db : Den DV} : uE (dAndV da db) Q X ρ = uE da (fun ρ a => wBl a.2 fun b => if b = true then uE db Q X ρ else Q ρ (.sh .im, .bl false)) X ρ := by
  unfold dAndV; rw [uE_bind]; congr 1; funext ρ a; obtain ⟨m, d⟩ := a; cases d with
  | bl b => cases b <;> rfl
  | _ => rfl
@[simp ↓] theorem uE_andV_z {da db : Den DV} : uE (dAndV da db) Q X ρ = uE da ((Lz (tgz fun ρ a => wBl a.2 (Lz (tgz fun b => if b = true then uE db Q X ρ else Q ρ (.sh .im, .bl false)))))) X ρ := uE_andV
theorem uE_orV {da db : Den DV} : uE (dOrV da db) Q X ρ = uE da (fun ρ a => wBl a.2 fun b => if b = true then Q ρ (.sh .im, .bl true) else uE db Q X ρ) X ρ := by
  unfold dOrV; rw [uE_bind]; congr 1; funext ρ a; obtain ⟨m, d⟩ := a; cases d with
  | bl b => cases b <;> rfl
  | _ => rfl
@[simp ↓] theorem uE_orV_z {da db : Den DV} : uE (dOrV da db) Q X ρ = uE da ((Lz (tgz fun ρ a => wBl a.2 (Lz (tgz fun b => if b = true then Q ρ (.sh .im, .bl true) else uE db Q X ρ))))) X ρ := uE_orV
theorem uE_notV {da : Den DV} : uE (dNotV da) Q X ρ = uE da (fun ρ a => wBl a.2 fun b => Q ρ (.sh .im, .bl (!b))) X ρ := by
  unfold dNotV; rw [uE_bind]; congr 1; funext ρ a; obtain ⟨m, d⟩ := a; cases d <;> rfl
@[simp ↓] theorem uE_notV_z {da : Den DV} : uE (dNotV da) Q X ρ = uE da ((Lz (tgz fun ρ a => wBl a.2 (Lz (tgz fun b => Q ρ (.sh .im, .bl (!b))))))) X ρ := uE_notV
theorem uE_idx {pb : Bool} {da db : Den DV} : uE (dIdx pb da db) Q X ρ = uE da (fun ρ a => (isBo a && !pb) = false ∧ uE db (fun ρ b => isBo b = false ∧ wO (idxD a.2 b.2) fun d => Q ρ (itemMd a d)) X ρ) X ρ := by
  unfold dIdx; rw [uE_bind]; congr 1; funext ρ a
  rw [uE_ite]; split
  · rename_i h; simp [h]
  · rename_i h; rw [eq_true (Bool.eq_false_iff.2 h), true_and, uE_bind]; congr 1; funext ρ b; rw [uE_lift]
    cases isBo b <;> simp
@[simp ↓] theorem uE_idx_z {pb : Bool} {da db : Den DV} : uE (dIdx pb da db) Q X ρ = uE da ((Lz (tgz fun ρ a => (isBo a && !pb) = false ∧ uE db ((Lz (tgz fun ρ b => isBo b = false ∧ wO (idxD a.2 b.2) (Lz (tgz fun d => Q ρ (itemMd a d)))))) X ρ))) X ρ := uE_idx
@[simp ↓] theorem uE_noPart {Q : Rho → Option Int → Prop} : uE dNoPart Q X ρ = Q ρ none := id rfl
theorem uE_part {da : Den DV} {Q : Rho → Option Int → Prop} : uE (dPart da) Q X ρ = uE da (fun ρ a => wInt a.2 fun i => Q ρ (some i)) X ρ := by
  unfold dPart; rw [uE_bind]; congr 1; funext ρ a; obtain ⟨m, d⟩ := a; cases d <;> rfl
@[simp ↓] theorem uE_part_z {da : Den DV} {Q : Rho → Option Int → Prop} : uE (dPart da) Q X ρ = uE da ((Lz (tgz fun ρ a => wInt a.2 (Lz (tgz fun i => Q ρ (some i)))))) X ρ := uE_part
theorem uE_sl {pl : Bool} {da : Den DV} {dl dh : Den (Option Int)} : uE (dSl pl da dl dh) Q X ρ = uE da (fun ρ a => (isBo a && !pl) = false ∧ uE dl (fun ρ lo => uE dh (fun ρ hi => wO (sliceOp a.2 lo hi) fun o => (!o.lent && isBo a) = false ∧ Q ρ o.val) X ρ) X ρ) X ρ := by
  unfold dSl; rw [uE_bind]; congr 1; funext ρ a
  rw [uE_ite]; split
  · rename_i h; simp [h]
  · rename_i h; rw [eq_true (Bool.eq_false_iff.2 h), true_and, uE_bind]; congr 1; funext ρ lo; rw [uE_bind]; congr 1; funext ρ hi; rw [uE_lift]; congr 1; funext o
    rw [uE_ite]; split
    · rename_i h; simp [h]
    · rename_i h; rw [eq_true (Bool.eq_false_iff.2 h), true_and]; rfl
@[simp ↓] theorem uE_sl_z {pl : Bool} {da : Den DV} {dl dh : Den (Option Int)} : uE (dSl pl da dl dh) Q X ρ = uE da ((Lz (tgz fun ρ a => (isBo a && !pl) = false ∧ uE dl ((Lz (tgz fun ρ lo => uE dh ((Lz (tgz fun ρ hi => wO (sliceOp a.2 lo hi) (Lz (tgz fun o => (!o.lent && isBo a) = false ∧ Q ρ o.val))))) X ρ))) X ρ))) X ρ := uE_sl
/-! calls -/
def wSl2 (o : Option Slot) (k : Sh × D → Prop) : Prop := match o with
  | some (some sd) => k sd
  | _ => False
@[simp ↓] theorem uE_asNil {Q : Rho → List Arg → Prop} : uE dAsNil Q X ρ = Q ρ [] := id rfl
def asM (i : Nat) (d : D) : Sh → Arg
  | .im => .val (.sh .im, d)
  | .ow _ => .lent i
@[simp] theorem asM_im {i : Nat} {d : D} : asM i d .im = .val (.sh .im, d) := id rfl
@[simp] theorem asM_ow {i : Nat} {d : D} {k : Sh} : asM i d (.ow k) = .lent i := id rfl
theorem uE_asV {i : Nat} {dr : Den (List Arg)} {Q : Rho → List Arg → Prop} : uE (dAsV i dr) Q X ρ = wSlot ρ[i]? fun s d => uE dr (fun ρ as => Q ρ (asM i d s :: as)) X ρ := by
  unfold uE dAsV; cases ρ[i]? with
  | none => rfl
  | some o => cases o with
    | none => rfl
    | some sd => obtain ⟨s, d⟩ := sd; cases s with
      | im => with_unfolding_all exact uE_bind
      | ow k => with_unfolding_all exact uE_bind
@[simp ↓] theorem uE_asV_z {i : Nat} {dr : Den (List Arg)} {Q : Rho → List Arg → Prop} : uE (dAsV i dr) Q X ρ = wSlot ρ[i]? (Lz (tgz fun s d => uE dr ((Lz (tgz fun ρ as => Q ρ (asM i d s :: as)))) X ρ)) := uE_asV
theorem uE_asC {pr : Bool} {da : Den DV} {dr : Den (List Arg)} {Q : Rho → List Arg → Prop} : uE (dAsC pr da dr) Q X ρ = uE da (fun ρ a => (isBo a && !pr) = false ∧ uE dr (fun ρ as => Q ρ (.val a :: as)) X ρ) X ρ := by
  unfold dAsC; rw [uE_bind]; congr 1; funext ρ a
  rw [uE_ite]; split
  · rename_i h; simp [h]
  · rename_i h; rw [eq_true (Bool.eq_false_iff.2 h), true_and, uE_bind]; rfl
@[simp ↓] theorem uE_asC_z {pr : Bool} {da : Den DV} {dr : Den (List Arg)} {Q : Rho → List Arg → Prop} : uE (dAsC pr da dr) Q X ρ = uE da ((Lz (tgz fun ρ a => (isBo a && !pr) = false ∧ uE dr ((Lz (tgz fun ρ as => Q ρ (.val a :: as)))) X ρ))) X ρ := uE_asC
def wTk : List Arg → Rho → (List (Sh × D) → Rho → Prop) → Prop
  | [], ρ, k => k [] ρ
  | .val (.sh s, d) :: as, ρ, k => wTk as ρ fun l ρ' => k ((s, d) :: l) ρ'
  | .val (.bo, _) :: _, _, _ => False
  | .lent i :: as, ρ, k => wSlot ρ[i]? fun s d => wTk as (ρ.set i none) fun l ρ' => k ((s, d) :: l) ρ'
theorem wTk_eq : ∀ (as : List Arg) (ρ : Rho) (k : List (Sh × D) → Rho → Prop), wTk as ρ k = wO (takeAs as ρ) fun p => k p.1 p.2
  | [], _, _ => (rfl)
  | .val (.sh s, d) :: as, ρ, k => by
    unfold wTk takeAs; rw [wTk_eq as]; cases takeAs as ρ <;> rfl
  | .val (.bo, _) :: _, _, _ => (rfl)
  | .lent i :: as, ρ, k => by
    unfold wTk takeAs; cases ρ[i]? with
    | none => rfl
    | some o => cases o with
      | none => rfl
      | some sd => obtain ⟨s, d⟩ := sd; simp only [wSlot_some]; rw [wTk_eq as]; cases takeAs as (ρ.set i none) <;> rfl
theorem wTk_congr {a a' : List Arg} {ρ ρ' : Rho} {k : List (Sh × D) → Rho → Prop} (h : a = a') (h2 : ρ = ρ') : wTk a ρ k = wTk a' ρ' k := by rw [h, h2]
@[simp] theorem wTk_nil {k : List (Sh × D) → Rho → Prop} : wTk [] ρ k = k [] ρ := id rfl
theorem wTk_val {s : Sh} {d : D} {as : List Arg} {k : List (Sh × D) → Rho → Prop} : wTk (.val (.sh s, d) :: as) ρ k = wTk as ρ fun l ρ' => k ((s, d) :: l) ρ' := id rfl
@[simp] theorem wTk_val_z {s : Sh} {d : D} {as : List Arg} {k : List (Sh × D) → Rho → Prop} : wTk (.val (.sh s, d) :: as) ρ k = wTk as ρ (Lz (tgz fun l ρ' => k ((s, d) :: l) ρ')) := wTk_val
theorem wTk_lent {i : Nat} {as : List Arg} {k : List (Sh × D) → Rho → Prop} : wTk (.lent i :: as) ρ k = wSlot ρ[i]? fun s d => wTk as (ρ.set i none) fun l ρ' => k ((s, d) :: l) ρ' := id rfl
@[simp] theorem wTk_lent_z {i : Nat} {as : List Arg} {k : List (Sh × D) → Rho → Prop} : wTk (.lent i :: as) ρ k = wSlot ρ[i]? (Lz (tgz fun s d => wTk as (ρ.set i none) (Lz (tgz fun l ρ' => k ((s, d) :: l) ρ')))) := wTk_lent
theorem uE_callF {n : Nat} {f : FDen} {das : Den (List Arg)} : uE (dCallF n f das) Q X ρ = uE das (fun ρ as => wTk as ρ fun args ρ' => args.length = n ∧ uF f (fun a os => Q (giveAs as os ρ') a) (fun x os => X (giveAs as os ρ') x) args) X ρ := by
  unfold dCallF; rw [uE_bind]; congr 1; funext ρ as; rw [wTk_eq]; unfold uE
  cases h0 : takeAs as ρ with
  | none => simp [h0]
  | some p =>
    obtain ⟨args, ρ'⟩ := p; simp only [wO_some, h0]; by_cases h : args.length = n
    · simp only [h, ne_eq, not_true_eq_false, if_false, true_and]; unfold uF; cases f args with
      | none => rfl
      | some r => cases r <;> rfl
    · simp [h]
@[simp ↓] theorem uE_callF_z {n : Nat} {f : FDen} {das : Den (List Arg)} : uE (dCallF n f das) Q X ρ = uE das ((Lz (tgz fun ρ as => wTk as ρ (Lz (tgz fun args ρ' => args.length = n ∧ uF f ((Lz (tgz fun a os => Q (giveAs as os ρ') a))) ((Lz (tgz fun x os => X (giveAs as os ρ') x))) args))))) X ρ := uE_callF
@[simp] theorem giveAs_nil {os : List (Sh × D)} : giveAs [] os ρ = ρ := by cases os <;> rfl
@[simp] theorem giveAs_lent {i : Nat} {as : List Arg} {o : Sh × D} {os : List (Sh × D)} : giveAs (.lent i :: as) (o :: os) ρ = (giveAs as os ρ).set i (some o) := id rfl
@[simp] theorem giveAs_val {a : DV} {as : List Arg} {o : Sh × D} {os : List (Sh × D)} : giveAs (.val a :: as) (o :: os) ρ = giveAs as os ρ := id rfl
end
section
variable {N : Rho → Prop} {T : Rho → DV → Prop} {B C : Rho → Prop} {X : Rho → Exn → Prop} {ρ : Rho}
theorem uS_bind {α : Type} {m : Den α} {f : α → DenS} : uS (sBind m f) N T B C X ρ = uE m (fun ρ a => uS (f a) N T B C X ρ) X ρ := by
  unfold uS sBind uE; cases m ρ with
  | none => rfl
  | some r => cases r <;> rfl
@[simp ↓] theorem uS_nil : uS sNil N T B C X ρ = N ρ := id rfl
@[simp ↓] theorem uS_break : uS sBreak N T B C X ρ = B ρ := id rfl
@[simp ↓] theorem uS_cont : uS sCont N T B C X ρ = C ρ := id rfl
theorem uS_seq {a b : DenS} : uS (sSeq a b) N T B C X ρ = uS a (fun ρ => uS b N T B C X ρ) T B C X ρ := by
  unfold uS sSeq; cases a ρ with
  | none => rfl
  | some o => cases o <;> rfl
@[simp ↓] theorem uS_seq_z {a b : DenS} : uS (sSeq a b) N T B C X ρ = uS a ((Lz (tgz fun ρ => uS b N T B C X ρ))) T B C X ρ := uS_seq
theorem uS_if {c : Den Bool} {a b : DenS} : uS (sIf c a b) N T B C X ρ = uE c (fun ρ k => if k = true then uS a N T B C X ρ else uS b N T B C X ρ) X ρ := by
  unfold sIf; rw [uS_bind]; congr 1; funext ρ k; split <;> rfl
@[simp ↓] theorem uS_if_z {c : Den Bool} {a b : DenS} : uS (sIf c a b) N T B C X ρ = uE c ((Lz (tgz fun ρ k => if k = true then uS a N T B C X ρ else uS b N T B C X ρ))) X ρ := uS_if
theorem uS_expr {da : Den DV} : uS (sExpr da) N T B C X ρ = uE da (fun ρ _ => N ρ) X ρ := by
  unfold sExpr; rw [uS_bind]; rfl
@[simp ↓] theorem uS_expr_z {da : Den DV} : uS (sExpr da) N T B C X ρ = uE da ((Lz (tgz fun ρ _ => N ρ))) X ρ := uS_expr
theorem uS_ret {da : Den DV} : uS (sRet da) N T B C X ρ = uE da (fun ρ a => isBo a = false ∧ T ρ a) X ρ := by
  unfold sRet; rw [uS_bind]; congr 1; funext ρ a; cases h : isBo a
  · simp only [if_neg Bool.false_ne_true, true_and]; rfl
  · simp only [if_true, Bool.true_eq_false, false_and]; rfl
@[simp ↓] theorem uS_ret_z {da : Den DV} : uS (sRet da) N T B C X ρ = uE da ((Lz (tgz fun ρ a => isBo a = false ∧ T ρ a))) X ρ := uS_ret
@[simp ↓] theorem uS_retN : uS sRetN N T B C X ρ = T ρ (.sh .im, .non) := id rfl
def wSh (a : DV) (k : Sh → D → Prop) : Prop := match a with
  | (.sh s, d) => k s d
  | _ => False
@[simp ↓] theorem wSh_sh {s : Sh} {d : D} {k : Sh → D → Prop} : wSh (.sh s, d) k = k s d := id rfl
theorem uS_set {i : Nat} {da : Den DV} : uS (sSet i da) N T B C X ρ = uE da (fun ρ a => wSh a fun s d => i < ρ.length ∧ N (ρ.set i (some (s, d)))) X ρ := by
  unfold sSet; rw [uS_bind]; congr 1; funext ρ a; obtain ⟨m, d⟩ := a; cases m with
  | bo => rfl
  | sh s => unfold uS; by_cases h : i < ρ.length <;> simp [h]
@[simp ↓] theorem uS_set_z {i : Nat} {da : Den DV} : uS (sSet i da) N T B C X ρ = uE da ((Lz (tgz fun ρ a => wSh a (Lz (tgz fun s d => i < ρ.length ∧ N (ρ.set i (some (s, d)))))))) X ρ := uS_set
theorem uS_asg {da : Den DV} {tg : DenG} : uS (sAsg da tg) N T B C X ρ = uE da (fun ρ a => isBo a = false ∧ wO (tg a.2 ρ) N) X ρ := by
  unfold sAsg; rw [uS_bind]; congr 1; funext ρ a; unfold uS; cases h : isBo a
  · simp only [if_neg Bool.false_ne_true, true_and]; cases h2 : tg a.2 ρ <;> simp [h2]
  · simp only [if_true, Bool.true_eq_false, false_and]
@[simp ↓] theorem uS_asg_z {da : Den DV} {tg : DenG} : uS (sAsg da tg) N T B C X ρ = uE da ((Lz (tgz fun ρ a => isBo a = false ∧ wO (tg a.2 ρ) N))) X ρ := uS_asg
@[simp] theorem gSet_eq {i : Nat} {d : D} {k : Rho → Prop} : wO (gSet i d ρ) k = (i < ρ.length ∧ k (ρ.set i (some (.im, d)))) := by
  unfold gSet; by_cases h : i < ρ.length <;> simp [h]
@[simp] theorem gTupL_eq {n : Nat} {u : List D → Rho → Option Rho} {ds : List D} : gTupD n u (.lst ds) ρ = if ds.length = n then u ds ρ else none := id rfl
@[simp] theorem gTup_eq {n : Nat} {u : List D → Rho → Option Rho} {ds : List D} : gTupD n u (.tup ds) ρ = if ds.length = n then u ds ρ else none := id rfl
theorem gsCons_eq {t : DenG} {u : List D → Rho → Option Rho} {d : D} {ds : List D} {k : Rho → Prop} : wO (gsCons t u (d :: ds) ρ) k = wO (t d ρ) fun ρ => wO (u ds ρ) k := by
  cases h : t d ρ <;> simp [gsCons, h]
@[simp] theorem gsCons_eq_z {t : DenG} {u : List D → Rho → Option Rho} {d : D} {ds : List D} {k : Rho → Prop} : wO (gsCons t u (d :: ds) ρ) k = wO (t d ρ) (Lz (tgz fun ρ => wO (u ds ρ) k)) := gsCons_eq
@[simp] theorem gsNil_eq : gsNil [] ρ = some ρ := id rfl
def wAs2 (as : List DV) (k : D → D → Prop) : Prop := match as with
  | [a, b] => k a.2 b.2
  | _ => False
theorem wAs2_congr {o o' : List DV} {k : D → D → Prop} (h : o = o') : wAs2 o k = wAs2 o' k := by rw [h]
@[simp] theorem wAs2_two {a b : DV} {k : D → D → Prop} : wAs2 [a, b] k = k a.2 b.2 := id rfl
theorem uS_par {i j : Nat} {da : Den (List DV)} : uS (sPar i j da) N T B C X ρ = uE da (fun ρ as => noBo as = true ∧ wAs2 as fun a b => (i < ρ.length ∧ j < ρ.length) ∧ N ((ρ.set i (some (.im, a))).set j (some (.im, b)))) X ρ := by
  have e : ∀ as, (noBo as = true) = (as.any isBo = false) := fun as => by rw [noBo_eq]; cases noBo as <;> simp
  simp only [e]
  unfold sPar; rw [uS_bind]; congr 1; funext ρ as; unfold uS; cases h : as.any isBo
  · simp only [if_neg Bool.false_ne_true, true_and]; unfold wAs2
    match as with
    | [] => rfl
    | [a] => rfl
    | [a, b] => by_cases h : i < ρ.length ∧ j < ρ.length <;> simp [h]
    | _ :: _ :: _ :: _ => rfl
  · simp only [if_true, Bool.true_eq_false, false_and]
@[simp ↓] theorem uS_par_z {i j : Nat} {da : Den (List DV)} : uS (sPar i j da) N T B C X ρ = uE da ((Lz (tgz fun ρ as => noBo as = true ∧ wAs2 as (Lz (tgz fun a b => (i < ρ.length ∧ j < ρ.length) ∧ N ((ρ.set i (some (.im, a))).set j (some (.im, b)))))))) X ρ := uS_par
def wLst (o : Option Slot) (k : Sh → List D → Prop) : Prop := match o with
  | some (some (.ow s, .lst ds)) => k s ds
  | _ => False
theorem wLst_congr {o o' : Option Slot} {k : Sh → List D → Prop} (h : o = o') : wLst o k = wLst o' k := by rw [h]
@[simp] theorem wLst_lst {s : Sh} {ds : List D} {k : Sh → List D → Prop} : wLst (some (some (.ow s, .lst ds))) k = k s ds := id rfl
theorem uS_congr {s s' : DenS} (h : s ρ = s' ρ) : uS s N T B C X ρ = uS s' N T B C X ρ := by unfold uS; rw [h]
theorem uS_none {s : DenS} (h : s ρ = none) : uS s N T B C X ρ = False := by unfold uS; rw [h]
theorem uS_some {s : DenS} {ρ' : Rho} (h : s ρ = some (.nx ρ')) : uS s N T B C X ρ = N ρ' := by unfold uS; rw [h]
def wLstI (o : Option Slot) (k : List D → Prop) : Prop := match o with
  | some (some (.ow .im, .lst ds)) => k ds
  | _ => False
theorem wLstI_congr {o o' : Option Slot} {k : List D → Prop} (h : o = o') : wLstI o k = wLstI o' k := by rw [h]
@[simp] theorem wLstI_lst {ds : List D} {k : List D → Prop} : wLstI (some (some (.ow .im, .lst ds))) k = k ds := id rfl
def wLstO (o : Option Slot) (k : List D → Prop) : Prop := match o with
  | some (some (.ow (.ow .im), .lst ds)) => k ds
  | _ => False
theorem wLstO_congr {o o' : Option Slot} {k : List D → Prop} (h : o = o') : wLstO o k = wLstO o' k := by rw [h]
@[simp] theorem wLstO_lst {ds : List D} {k : List D → Prop} : wLstO (some (some (.ow (.ow .im), .lst ds))) k = k ds := id rfl
def wLd (o : D) (k : List D → Prop) : Prop := match o with
  | .lst ds => k ds
  | _ => False
theorem wLd_congr {o o' : D} {k : List D → Prop} (h : o = o') : wLd o k = wLd o' k := by rw [h]
@[simp] theorem wLd_lst {ds : List D} {k : List D → Prop} : wLd (.lst ds) k = k ds := id rfl
theorem uS_append {ks : Sh} {i : Nat} {da : Den DV} : uS (sAppend ks i da) N T B C X ρ = wLst ρ[i]? fun _ _ => uE da (fun ρ a => wLst ρ[i]? fun k ds => (kidOk ks a.1 = true ∧ ds.length < sizeLine ∧ (k = ks ∨ ds = [])) ∧ N (ρ.set i (some (.ow ks, .lst (ds ++ [a.2]))))) X ρ := by
  unfold wLst; split
  · rename_i k ds h
    rw [uS_congr (s' := sBind da (fun a ρ1 => match ρ1[i]? with
    | some (some (.ow k, .lst ds)) => if kidOk ks a.1 = true ∧ ds.length < sizeLine ∧ (k = ks ∨ ds = []) then some (.nx (ρ1.set i (some (.ow ks, .lst (ds ++ [a.2]))))) else none
    | _ => none)) (by unfold sAppend; simp only [h] <;> rfl), uS_bind]
    congr 1; funext ρ a; split
    · rename_i k ds h2
      show _ = ((kidOk ks a.1 = true ∧ ds.length < sizeLine ∧ (k = ks ∨ ds = [])) ∧ N (ρ.set i (some (.ow ks, .lst (ds ++ [a.2])))))
      by_cases h3 : kidOk ks a.1 = true ∧ ds.length < sizeLine ∧ (k = ks ∨ ds = [])
      · rw [uS_some (ρ' := ρ.set i (some (.ow ks, .lst (ds ++ [a.2])))) (by simp only [h2, if_pos h3]), eq_true h3, true_and]
      · rw [uS_none (by simp only [h2, if_neg h3]), eq_false h3, false_and]
    · rename_i h2; rw [uS_none]; split
      · rename_i h; exact absurd h (h2 _ _)
      · rfl
  · rename_i h; rw [uS_none]; unfold sAppend; split
    · rename_i h2; exact absurd h2 (h _ _)
    · rfl
@[simp ↓] theorem uS_append_z {ks : Sh} {i : Nat} {da : Den DV} : uS (sAppend ks i da) N T B C X ρ = wLst ρ[i]? (Lz (tgz fun _ _ => uE da ((Lz (tgz fun ρ a => wLst ρ[i]? (Lz (tgz fun k ds => (kidOk ks a.1 = true ∧ ds.length < sizeLine ∧ (k = ks ∨ ds = [])) ∧ N (ρ.set i (some (.ow ks, .lst (ds ++ [a.2]))))))))) X ρ)) := uS_append
theorem uS_setItem {i : Nat} {da dx : Den DV} : uS (sSetItem i da dx) N T B C X ρ = uE da (fun ρ a => isBo a = false ∧ wLst ρ[i]? fun _ _ => uE dx (fun ρ b => wLstI ρ[i]? fun ds => wInt b.2 fun j => wO (ixN ds.length j) fun k => N (ρ.set i (some (.ow .im, .lst (ds.set k a.2))))) X ρ) X ρ := by
  unfold sSetItem; rw [uS_bind]; congr 1; funext ρ a; cases h0 : isBo a
  · simp only [if_neg Bool.false_ne_true, true_and]; unfold wLst; split
    · rename_i k ds h
      rw [uS_congr (s' := sBind dx (fun b ρ2 => match ρ2[i]?, b.2 with
        | some (some (.ow .im, .lst ds)), .int j => (match ixN ds.length j with
          | some k => some (.nx (ρ2.set i (some (.ow .im, .lst (ds.set k a.2)))))
          | none => none)
        | _, _ => none)) (by simp only [h] <;> rfl), uS_bind]
      congr 1; funext ρ b; unfold wLstI; split
      · rename_i ds h2; obtain ⟨mb, db⟩ := b; cases db with
        | int j => simp only [wInt_int]; cases h3 : ixN ds.length j with
          | none => rw [uS_none (by simp only [h2, h3])]; rfl
          | some k => rw [uS_some (ρ' := ρ.set i (some (.ow .im, .lst (ds.set k a.2)))) (by simp only [h2, h3])]; rfl
        | _ => rw [uS_none (by simp only [h2])]; rfl
      · rename_i h2; rw [uS_none]; split
        · rename_i h _; exact absurd h (h2 _)
        · rfl
    · rename_i h; rw [uS_none]; split
      · rename_i h2; exact absurd h2 (h _ _)
      · rfl
  · simp only [if_true, Bool.true_eq_false, false_and]; rfl
@[simp ↓] theorem uS_setItem_z {i : Nat} {da dx : Den DV} : uS (sSetItem i da dx) N T B C X ρ = uE da ((Lz (tgz fun ρ a => isBo a = false ∧ wLst ρ[i]? (Lz (tgz fun _ _ => uE dx ((Lz (tgz fun ρ b => wLstI ρ[i]? (Lz (tgz fun ds => wInt b.2 (Lz (tgz fun j => wO (ixN ds.length j) (Lz (tgz fun k => N (ρ.set i (some (.ow .im, .lst (ds.set k a.2))))))))))))) X ρ))))) X ρ := uS_setItem
theorem uS_setItem2 {i : Nat} {da dx dy : Den DV} : uS (sSetItem2 i da dx dy) N T B C X ρ = uE da (fun ρ a => isBo a = false ∧ wLstO ρ[i]? fun _ => uE dx (fun ρ b => wLstO ρ[i]? fun ds => wInt b.2 fun j => wO (ixN ds.length j) fun k => wO ds[k]? fun e => wLd e fun _ => uE dy (fun ρ c => wLstO ρ[i]? fun ds3 => wInt c.2 fun j' => wO ds3[k]? fun e => wLd e fun es => wO (ixN es.length j') fun k' => N (ρ.set i (some (.ow (.ow .im), .lst (ds3.set k (.lst (es.set k' a.2))))))) X ρ) X ρ) X ρ := by
  unfold sSetItem2; rw [uS_bind]; congr 1; funext ρ a; cases h0 : isBo a
  · simp only [if_neg Bool.false_ne_true, true_and]; unfold wLstO; split
    · rename_i ds h
      rw [uS_congr (s' := sBind dx (fun b ρ2 => match ρ2[i]?, b.2 with
        | some (some (.ow (.ow .im), .lst ds)), .int j => (match ixN ds.length j with
          | some k => (match ds[k]? with
            | some (.lst _) => sBind dy (fun c ρ3 => match ρ3[i]?, c.2 with
              | some (some (.ow (.ow .im), .lst ds3)), .int j' => (match ds3[k]? with
                | some (.lst es) => (match ixN es.length j' with
                  | some k' => some (.nx (ρ3.set i (some (.ow (.ow .im), .lst (ds3.set k (.lst (es.set k' a.2)))))))
                  | none => none)
                | _ => none)
              | _, _ => none) ρ2
            | _ => none)
          | none => none)
        | _, _ => none)) (by simp only [h] <;> rfl), uS_bind]
      congr 1; funext ρ b; split
      · rename_i ds h2; obtain ⟨mb, db⟩ := b; cases db with
        | int j => simp only [wInt_int]; cases h3 : ixN ds.length j with
          | none => rw [uS_none (by simp only [h2, h3])]; rfl
          | some k => simp only [wO_some]; cases h4 : ds[k]? with
            | none => rw [uS_none (by simp only [h2, h3, h4])]; rfl
            | some e => simp only [wO_some]; cases e with
              | lst es0 =>
                simp only [wLd_lst]
                rw [uS_congr (s' := sBind dy (fun c ρ3 => match ρ3[i]?, c.2 with
                  | some (some (.ow (.ow .im), .lst ds3)), .int j' => (match ds3[k]? with
                    | some (.lst es) => (match ixN es.length j' with
                      | some k' => some (.nx (ρ3.set i (some (.ow (.ow .im), .lst (ds3.set k (.lst (es.set k' a.2)))))))
                      | none => none)
                    | _ => none)
                  | _, _ => none)) (by simp only [h2, h3, h4] <;> rfl), uS_bind]
                congr 1; funext ρ c; split
                · rename_i ds3 h5; obtain ⟨mc, dc⟩ := c; cases dc with
                  | int j' => simp only [wInt_int]; cases h6 : ds3[k]? with
                    | none => rw [uS_none (by simp only [h5, h6])]; rfl
                    | some e => simp only [wO_some]; cases e with
                      | lst es => simp only [wLd_lst]; cases h7 : ixN es.length j' with
                        | none => rw [uS_none (by simp only [h5, h6, h7])]; rfl
                        | some k' => rw [uS_some (ρ' := ρ.set i (some (.ow (.ow .im), .lst (ds3.set k (.lst (es.set k' a.2)))))) (by simp only [h5, h6, h7])]; rfl
                      | _ => rw [uS_none (by simp only [h5, h6])]; rfl
                  | _ => rw [uS_none (by simp only [h5])]; rfl
                · rename_i h5; rw [uS_none]; split
                  · rename_i h _; exact absurd h (h5 _)
                  · rfl
              | _ => rw [uS_none (by simp only [h2, h3, h4])]; rfl
        | _ => rw [uS_none (by simp only [h2])]; rfl
      · rename_i h2; rw [uS_none]; split
        · rename_i h _; exact absurd h (h2 _)
        · rfl
    · rename_i h; rw [uS_none]; split
      · rename_i h2; exact absurd h2 (h _)
      · rfl
  · simp only [if_true, Bool.true_eq_false, false_and]; rfl
@[simp ↓] theorem uS_setItem2_z {i : Nat} {da dx dy : Den DV} : uS (sSetItem2 i da dx dy) N T B C X ρ = uE da ((Lz (tgz fun ρ a => isBo a = false ∧ wLstO ρ[i]? (Lz (tgz fun _ => uE dx ((Lz (tgz fun ρ b => wLstO ρ[i]? (Lz (tgz fun ds => wInt b.2 (Lz (tgz fun j => wO (ixN ds.length j) (Lz (tgz fun k => wO ds[k]? (Lz (tgz fun e => wLd e (Lz (tgz fun _ => uE dy ((Lz (tgz fun ρ c => wLstO ρ[i]? (Lz (tgz fun ds3 => wInt c.2 (Lz (tgz fun j' => wO ds3[k]? (Lz (tgz fun e => wLd e (Lz (tgz fun es => wO (ixN es.length j') (Lz (tgz fun k' => N (ρ.set i (some (.ow (.ow .im), .lst (ds3.set k (.lst (es.set k' a.2))))))))))))))))))) X ρ))))))))))))) X ρ))))) X ρ := uS_setItem2
end
end Den

namespace Den
open PySem PySem.Spec PyProof.Rows L2
section
variable {N : Rho → Prop} {T : Rho → DV → Prop} {B C : Rho → Prop} {X : Rho → Exn → Prop} {ρ : Rho}
theorem uS_for {di : Den (List D)} {tg : DenG} {body : DenS} : uS (sFor di tg body) N T B C X ρ = uE di (fun ρ ds => uS (loopF tg body ds) N T B C X ρ) X ρ := by
  unfold sFor; rw [uS_bind]
@[simp ↓] theorem uS_for_z {di : Den (List D)} {tg : DenG} {body : DenS} : uS (sFor di tg body) N T B C X ρ = uE di ((Lz (tgz fun ρ ds => uS (loopF tg body ds) N T B C X ρ))) X ρ := uS_for
theorem uloop_nil {tg : DenG} {body : DenS} : uS (loopF tg body []) N T B C X ρ = N ρ := rfl
theorem uloop_cons {tg : DenG} {body : DenS} {d : D} {ds : List D} : uS (loopF tg body (d :: ds)) N T B C X ρ = wO (tg d ρ) fun ρ1 => uS body (fun ρ2 => uS (loopF tg body ds) N T B C X ρ2) T N (fun ρ2 => uS (loopF tg body ds) N T B C X ρ2) X ρ1 := by
  conv => lhs; unfold uS loopF
  cases h : tg d ρ with
  | none => simp [h]
  | some ρ1 => simp only [h, wO_some]; conv => rhs; unfold uS
               cases h2 : body ρ1 with
               | none => rfl
               | some o => cases o <;> first | rfl | (simp only []; unfold uS; rfl)
/-- a loop with what holds behind the first k rounds -/
theorem uloop_inv {tg : DenG} {body : DenS} {ds : List D} (I : Nat → Rho → Prop) (h0 : I 0 ρ)
    (st : ∀ k d ρ, ds[k]? = some d → I k ρ → wO (tg d ρ) fun ρ1 => uS body (I (k + 1)) T N (I (k + 1)) X ρ1)
    (hN : ∀ ρ, I ds.length ρ → N ρ) : uS (loopF tg body ds) N T B C X ρ := by
  have key : ∀ (es : List D) (k : Nat) (ρ : Rho), (∀ j, es[j]? = ds[k + j]?) → k + es.length = ds.length → I k ρ → uS (loopF tg body es) N T B C X ρ := by
    intro es; induction es with
    | nil => intro k ρ _ hl h; rw [uloop_nil]; simp at hl; rw [hl] at h; exact hN _ h
    | cons d es ih =>
      intro k ρ he hl h; rw [uloop_cons]
      have h1 := st k d ρ (by have := he 0; simpa using this.symm) h
      have imp : ∀ ρ2, I (k + 1) ρ2 → uS (loopF tg body es) N T B C X ρ2 := fun ρ2 h2 => ih (k + 1) ρ2 (fun j => by have := he (j + 1); simp at this; rw [this]; congr 1; omega) (by simp at hl; omega) h2
      revert h1; cases tg d ρ with
      | none => exact id
      | some ρ1 => simp only [wO_some]; unfold uS; cases body ρ1 with
        | none => exact id
        | some o => cases o with
          | nx ρ2 => with_unfolding_all exact imp ρ2
          | ct ρ2 => with_unfolding_all exact imp ρ2
          | _ => exact id
  exact key ds 0 ρ (fun j => by simp) (by simp) h0
theorem uS_imp {s : DenS} {N' : Rho → Prop} {T' : Rho → DV → Prop} {B' C' : Rho → Prop} {X' : Rho → Exn → Prop} (h : uS s N T B C X ρ) (hN : ∀ ρ, N ρ → N' ρ) (hT : ∀ ρ a, T ρ a → T' ρ a) (hB : ∀ ρ, B ρ → B' ρ) (hC : ∀ ρ, C ρ → C' ρ) (hX : ∀ ρ x, X ρ x → X' ρ x) : uS s N' T' B' C' X' ρ := by
  revert h; unfold uS; cases s ρ with
  | none => exact id
  | some o => cases o with
    | nx _ => exact hN _
    | rt _ _ => exact hT _ _
    | bk _ => exact hB _
    | ct _ => exact hC _
    | ex _ _ => exact hX _ _
theorem uE_imp {α : Type} {m : Den α} {Q Q' : Rho → α → Prop} {X' : Rho → Exn → Prop} (h : uE m Q X ρ) (hQ : ∀ ρ a, Q ρ a → Q' ρ a) (hX : ∀ ρ x, X ρ x → X' ρ x) : uE m Q' X' ρ := by
  revert h; unfold uE; cases m ρ with
  | none => exact id
  | some o => cases o with
    | ok _ _ => exact hQ _ _
    | ex _ _ => exact hX _ _
theorem wO_imp {α : Type} {o : Option α} {k k' : α → Prop} (h : wO o k) (i : ∀ a, k a → k' a) : wO o k' := by
  cases o with
  | none => exact h
  | some a => exact i a h
theorem uF_imp {f : FDen} {Q Q' : DV → List (Sh × D) → Prop} {X X' : Exn → List (Sh × D) → Prop} {args : List (Sh × D)} (h : uF f Q X args) (hQ : ∀ a os, Q a os → Q' a os) (hX : ∀ a os, X a os → X' a os) : uF f Q' X' args := by
  revert h; unfold uF; cases f args with
  | none => exact id
  | some o => cases o with
    | ret _ _ => exact hQ _ _
    | ex _ _ => exact hX _ _
theorem uF_fn {A : List Nat} {n M : Nat} {body : DenS} {Q : DV → List (Sh × D) → Prop} {X : Exn → List (Sh × D) → Prop} {args : List (Sh × D)} : uF (fnDen A n M body) Q X args = uS body (fun ρ => wO (outsOf A 0 args ρ) (Q (.sh .im, .non))) (fun ρ a => wO (outsOf A 0 args ρ) (Q a)) (fun _ => False) (fun _ => False) (fun ρ x => wO (outsOf A 0 args ρ) (X x)) (args.map some ++ List.replicate (M - n) none) := by
  unfold uF fnDen uS
  cases body (args.map some ++ List.replicate (M - n) none) with
  | none => rfl
  | some o => cases o <;> first | rfl | (simp only []; cases outsOf A 0 args _ <;> rfl)
theorem uF_fn_z {A : List Nat} {n M : Nat} {body : DenS} {Q : DV → List (Sh × D) → Prop} {X : Exn → List (Sh × D) → Prop} {args : List (Sh × D)} : uF (fnDen A n M body) Q X args = uS body ((Lz (tgz fun ρ => wO (outsOf A 0 args ρ) (Q (.sh .im, .non))))) ((Lz (tgz fun ρ a => wO (outsOf A 0 args ρ) (Q a)))) ((Lz (tgz fun _ => False))) ((Lz (tgz fun _ => False))) ((Lz (tgz fun ρ x => wO (outsOf A 0 args ρ) (X x)))) (args.map some ++ List.replicate (M - n) none) := uF_fn
theorem uF_eq {f : FDen} {args : List (Sh × D)} {a : DV} {os : List (Sh × D)} {Q : DV → List (Sh × D) → Prop} {X : Exn → List (Sh × D) → Prop} (h : f args = some (.ret a os)) : uF f Q X args = Q a os := by unfold uF; rw [h]
def wSd (x : Slot) (k : Sh × D → Prop) : Prop := match x with
  | some sd => k sd
  | none => False
@[simp ↓] theorem wSd_some {sd : Sh × D} {k : Sh × D → Prop} : wSd (some sd) k = k sd := id rfl
@[simp] theorem outs_nil {A : List Nat} {i : Nat} {k : List (Sh × D) → Prop} : wO (outsOf A i [] ρ) k = k [] := by cases ρ <;> rfl
theorem outs_cons {A : List Nat} {i : Nat} {a : Sh × D} {as : List (Sh × D)} {x : Slot} {k : List (Sh × D) → Prop} : wO (outsOf A i (a :: as) (x :: ρ)) k = if i ∈ A then a.1 = .im ∧ wO (outsOf A (i + 1) as ρ) (fun os => k (a :: os)) else wSd x fun sd => wO (outsOf A (i + 1) as ρ) (fun os => k (sd :: os)) := by
  conv => lhs; unfold outsOf
  split
  · rw [wO_ite, wO_map, wO_none]; split
    · rename_i h; rw [eq_true h, true_and]
    · rename_i h; rw [eq_false h, false_and]
  · cases x with
    | none => rfl
    | some sd => simp only [wSd_some]; rw [wO_map]
@[simp] theorem outs_cons_z {A : List Nat} {i : Nat} {a : Sh × D} {as : List (Sh × D)} {x : Slot} {k : List (Sh × D) → Prop} : wO (outsOf A i (a :: as) (x :: ρ)) k = if i ∈ A then a.1 = .im ∧ wO (outsOf A (i + 1) as ρ) ((Lz (tgz fun os => k (a :: os)))) else wSd x (Lz (tgz fun sd => wO (outsOf A (i + 1) as ρ) ((Lz (tgz fun os => k (sd :: os)))))) := outs_cons
/-! what is walked -/
theorem uE_items {da : Den DV} {Q : Rho → List D → Prop} : uE (dItems da) Q X ρ = uE da (fun ρ a => isBo a = false ∧ wO (itemsOf a.2) (Q ρ)) X ρ := by
  unfold dItems; rw [uE_bind]; congr 1; funext ρ a; rw [uE_ite]; cases isBo a
  · simp only [if_neg Bool.false_ne_true, true_and, uE_lift]; rfl
  · simp
@[simp ↓] theorem uE_items_z {da : Den DV} {Q : Rho → List D → Prop} : uE (dItems da) Q X ρ = uE da ((Lz (tgz fun ρ a => isBo a = false ∧ wO (itemsOf a.2) (Q ρ)))) X ρ := uE_items
theorem uE_range {da : Den (List DV)} {Q : Rho → List D → Prop} : uE (dRange da) Q X ρ = uE da (fun ρ as => wO (rngOf (as.map (·.2))) (Q ρ)) X ρ := by
  unfold dRange; rw [uE_bind]; congr 1; funext ρ a; rw [uE_lift]; rfl
@[simp ↓] theorem uE_range_z {da : Den (List DV)} {Q : Rho → List D → Prop} : uE (dRange da) Q X ρ = uE da ((Lz (tgz fun ρ as => wO (rngOf (as.map (·.2))) (Q ρ)))) X ρ := uE_range
theorem uE_range2 {da : Den (List DV)} {Q : Rho → List D → Prop} : uE (dRange2 da) Q X ρ = uE da (fun ρ as => wO (rng2Of (as.map (·.2))) (Q ρ)) X ρ := by
  unfold dRange2; rw [uE_bind]; congr 1; funext ρ a; rw [uE_lift]; rfl
@[simp ↓] theorem uE_range2_z {da : Den (List DV)} {Q : Rho → List D → Prop} : uE (dRange2 da) Q X ρ = uE da ((Lz (tgz fun ρ as => wO (rng2Of (as.map (·.2))) (Q ρ)))) X ρ := uE_range2
theorem uE_enum {da : Den (List DV)} {Q : Rho → List D → Prop} : uE (dEnum da) Q X ρ = uE da (fun ρ as => noBo as = true ∧ wO (enumOf (as.map (·.2))) (Q ρ)) X ρ := by
  have e : ∀ as, (noBo as = true) = (as.any isBo = false) := fun as => by rw [noBo_eq]; cases noBo as <;> simp
  simp only [e]
  unfold dEnum; rw [uE_bind]; congr 1; funext ρ as; rw [uE_ite]; cases as.any isBo
  · simp only [if_neg Bool.false_ne_true, true_and, uE_lift]; rfl
  · simp
@[simp ↓] theorem uE_enum_z {da : Den (List DV)} {Q : Rho → List D → Prop} : uE (dEnum da) Q X ρ = uE da ((Lz (tgz fun ρ as => noBo as = true ∧ wO (enumOf (as.map (·.2))) (Q ρ)))) X ρ := uE_enum
theorem uE_zip {da : Den (List DV)} {Q : Rho → List D → Prop} : uE (dZip da) Q X ρ = uE da (fun ρ as => noBo as = true ∧ wO (zipOf (as.map (·.2))) (Q ρ)) X ρ := by
  have e : ∀ as, (noBo as = true) = (as.any isBo = false) := fun as => by rw [noBo_eq]; cases noBo as <;> simp
  simp only [e]
  unfold dZip; rw [uE_bind]; congr 1; funext ρ as; rw [uE_ite]; cases as.any isBo
  · simp only [if_neg Bool.false_ne_true, true_and, uE_lift]; rfl
  · simp
@[simp ↓] theorem uE_zip_z {da : Den (List DV)} {Q : Rho → List D → Prop} : uE (dZip da) Q X ρ = uE da ((Lz (tgz fun ρ as => noBo as = true ∧ wO (zipOf (as.map (·.2))) (Q ρ)))) X ρ := uE_zip
/-! comprehensions -/
def uC (own : List Nat) (k : Sh) (tg : DenG) (tt : Den Bool) (te : Den DV) (ds : List D) (Q : Rho → List D → Prop) (ρ : Rho) (acc : List D) : Prop := wO (compF own k tg tt te ds ρ acc) fun p => Q p.1 p.2
theorem uE_comp {own : List Nat} {k : Sh} {di : Den (List D)} {tg : DenG} {tt : Den Bool} {te : Den DV} {Q : Rho → DV → Prop} : uE (dComp own k di tg tt te) Q X ρ = uE di (fun ρ ds => ownIm own 0 ρ = true ∧ uC own k tg tt te ds (fun ρ' acc => Q (mergeR own 0 ρ ρ') (.sh (.ow k), .lst acc)) (wipeR ρ own) []) X ρ := by
  unfold dComp; rw [uE_bind]; congr 1; funext ρ ds; unfold uC
  cases h : ownIm own 0 ρ
  · unfold uE; simp [h]
  · conv => lhs; unfold uE
    simp only [h, if_true, true_and]; cases compF own k tg tt te ds (wipeR ρ own) [] <;> rfl
@[simp ↓] theorem uE_comp_z {own : List Nat} {k : Sh} {di : Den (List D)} {tg : DenG} {tt : Den Bool} {te : Den DV} {Q : Rho → DV → Prop} : uE (dComp own k di tg tt te) Q X ρ = uE di ((Lz (tgz fun ρ ds => ownIm own 0 ρ = true ∧ uC own k tg tt te ds ((Lz (tgz fun ρ' acc => Q (mergeR own 0 ρ ρ') (.sh (.ow k), .lst acc)))) (wipeR ρ own) []))) X ρ := uE_comp
theorem uC_congr {own : List Nat} {k : Sh} {tg : DenG} {tt : Den Bool} {te : Den DV} {ds : List D} {Q : Rho → List D → Prop} {ρ ρ' : Rho} {acc : List D} (h : ρ = ρ') : uC own k tg tt te ds Q ρ acc = uC own k tg tt te ds Q ρ' acc := by rw [h]
section
variable {own : List Nat} {k : Sh} {tg : DenG} {tt : Den Bool} {te : Den DV} {Q : Rho → List D → Prop} {acc : List D}
theorem uC_nil : uC own k tg tt te [] Q ρ acc = Q ρ acc := rfl
theorem uC_cons {d : D} {ds : List D} : uC own k tg tt te (d :: ds) Q ρ acc = wO (tg d ρ) fun ρ1 => uE tt (fun ρ2 b => if b = true then uE te (fun ρ3 a => (kidOk k a.1 = true ∧ acc.length < sizeLine) ∧ uC own k tg tt te ds Q (wipeR ρ3 own) (acc ++ [a.2])) (fun _ _ => False) ρ2 else uC own k tg tt te ds Q (wipeR ρ2 own) acc) (fun _ _ => False) ρ1 := by
  conv => lhs; unfold uC compF
  cases h : tg d ρ with
  | none => simp
  | some ρ1 =>
    simp only [wO_some]; unfold uE; cases h2 : tt ρ1 with
    | none => simp
    | some r => cases r with
      | ex _ _ => simp
      | ok ρ2 b => cases b with
        | false => simp [uC]
        | true => simp only [if_true]; cases h3 : te ρ2 with
          | none => simp
          | some r => cases r with
            | ex _ _ => simp
            | ok ρ3 a => simp only []; by_cases h4 : kidOk k a.1 = true ∧ acc.length < sizeLine
                         · rw [if_pos h4, eq_true h4, true_and]; rfl
                         · rw [if_neg h4, eq_false h4, false_and]; rfl
theorem uC_inv {ds : List D} (I : Nat → Rho → List D → Prop) (h0 : I 0 ρ acc)
    (st : ∀ j d ρ acc, ds[j]? = some d → I j ρ acc → wO (tg d ρ) fun ρ1 => uE tt (fun ρ2 b => if b = true then uE te (fun ρ3 a => (kidOk k a.1 = true ∧ acc.length < sizeLine) ∧ I (j + 1) (wipeR ρ3 own) (acc ++ [a.2])) (fun _ _ => False) ρ2 else I (j + 1) (wipeR ρ2 own) acc) (fun _ _ => False) ρ1)
    (hN : ∀ ρ acc, I ds.length ρ acc → Q ρ acc) : uC own k tg tt te ds Q ρ acc := by
  have key : ∀ (es : List D) (j : Nat) (ρ : Rho) (acc : List D), (∀ i, es[i]? = ds[j + i]?) → j + es.length = ds.length → I j ρ acc → uC own k tg tt te es Q ρ acc := by
    intro es; induction es with
    | nil => intro j ρ acc _ hl h; rw [uC_nil]; simp at hl; rw [hl] at h; exact hN _ _ h
    | cons d es ih =>
      intro j ρ acc he hl h; rw [uC_cons]
      have h1 := st j d ρ acc (by have := he 0; simpa using this.symm) h
      have imp : ∀ ρ2 acc, I (j + 1) ρ2 acc → uC own k tg tt te es Q ρ2 acc := fun ρ2 acc h2 => ih (j + 1) ρ2 acc (fun i => by have := he (i + 1); simp at this; rw [this]; congr 1; omega) (by simp at hl; omega) h2
      refine wO_imp h1 fun ρ1 h2 => uE_imp h2 (fun ρ2 b h3 => ?_) fun _ _ => id
      cases b with
      | false => exact imp _ _ h3
      | true => exact uE_imp h3 (fun ρ3 a h4 => ⟨h4.1, imp _ _ h4.2⟩) fun _ _ => id
  exact key ds 0 ρ acc (fun j => by simp) (by simp) h0
/-- a comprehension that changes nothing -/
theorem uC_pure {ds : List D} (p : D → Bool) (f : D → D) (hl : acc.length + ds.length ≤ sizeLine)
    (st : ∀ d ∈ ds, wO (tg d ρ) fun ρ1 => uE tt (fun ρ2 b => b = p d ∧ if p d = true then uE te (fun ρ3 a => kidOk k a.1 = true ∧ a.2 = f d ∧ wipeR ρ3 own = ρ) (fun _ _ => False) ρ2 else wipeR ρ2 own = ρ) (fun _ _ => False) ρ1)
    (hQ : Q ρ (acc ++ (ds.filter p).map f)) : uC own k tg tt te ds Q ρ acc := by
  induction ds generalizing acc with
  | nil => simpa [uC_nil] using hQ
  | cons d ds ih =>
    rw [uC_cons]
    refine wO_imp (st d (List.mem_cons_self ..)) fun ρ1 h2 => uE_imp h2 (fun ρ2 b h3 => ?_) fun _ _ => id
    obtain ⟨rfl, h3⟩ := h3
    simp at hl
    cases hp : p d with
    | false =>
      rw [hp, if_neg Bool.false_ne_true] at h3; rw [if_neg Bool.false_ne_true, h3]
      exact ih (by omega) (fun d hd => st d (List.mem_cons_of_mem _ hd)) (by rw [List.filter_cons_of_neg (by simp [hp])] at hQ; exact hQ)
    | true =>
      rw [hp, if_pos rfl] at h3; rw [if_pos rfl]
      refine uE_imp h3 (fun ρ3 a h4 => ?_) fun _ _ => id
      obtain ⟨h5, h6, h7⟩ := h4
      refine ⟨⟨h5, by omega⟩, ?_⟩
      rw [h7, h6]
      refine ih (by simp; omega) (fun d hd => st d (List.mem_cons_of_mem _ hd)) ?_
      rw [List.filter_cons_of_pos hp] at hQ; simpa using hQ
end
theorem uC_map {own : List Nat} {k : Sh} {tg : DenG} {te : Den DV} {Q : Rho → List D → Prop} {acc : List D} {ds : List D} (f : D → D) (hl : acc.length + ds.length ≤ sizeLine)
    (st : ∀ d ∈ ds, wO (tg d ρ) fun ρ1 => uE te (fun ρ3 a => kidOk k a.1 = true ∧ a.2 = f d ∧ wipeR ρ3 own = ρ) (fun _ _ => False) ρ1)
    (hQ : Q ρ (acc ++ ds.map f)) : uC own k tg (dRet true) te ds Q ρ acc := by
  refine uC_pure (fun _ => true) f hl (fun d hd => wO_imp (st d hd) fun ρ1 h => ?_) (by rw [List.filter_eq_self.2 fun _ _ => rfl]; exact hQ)
  rw [uE_ret]; exact ⟨rfl, by rw [if_pos rfl]; exact h⟩
def uC2 (own vs1 : List Nat) (k : Sh) (tg : DenG) (tt : Den Bool) (di1 : Den (List D)) (tg1 : DenG) (tt1 : Den Bool) (te : Den DV) (ds : List D) (Q : Rho → List D → Prop) (ρ : Rho) (acc : List D) : Prop := wO (comp2F own vs1 k tg tt di1 tg1 tt1 te ds ρ acc) fun p => Q p.1 p.2
theorem uE_comp2 {own vs1 : List Nat} {k : Sh} {di : Den (List D)} {tg : DenG} {tt : Den Bool} {di1 : Den (List D)} {tg1 : DenG} {tt1 : Den Bool} {te : Den DV} {Q : Rho → DV → Prop} : uE (dComp2 own vs1 k di tg tt di1 tg1 tt1 te) Q X ρ = uE di (fun ρ ds => ownIm own 0 ρ = true ∧ uC2 own vs1 k tg tt di1 tg1 tt1 te ds (fun ρ' acc => Q (mergeR own 0 ρ ρ') (.sh (.ow k), .lst acc)) (wipeR ρ own) []) X ρ := by
  unfold dComp2; rw [uE_bind]; congr 1; funext ρ ds; unfold uC2
  cases h : ownIm own 0 ρ
  · unfold uE; simp [h]
  · conv => lhs; unfold uE
    simp only [h, if_true, true_and]; cases comp2F own vs1 k tg tt di1 tg1 tt1 te ds (wipeR ρ own) [] <;> rfl
@[simp ↓] theorem uE_comp2_z {own vs1 : List Nat} {k : Sh} {di : Den (List D)} {tg : DenG} {tt : Den Bool} {di1 : Den (List D)} {tg1 : DenG} {tt1 : Den Bool} {te : Den DV} {Q : Rho → DV → Prop} : uE (dComp2 own vs1 k di tg tt di1 tg1 tt1 te) Q X ρ = uE di ((Lz (tgz fun ρ ds => ownIm own 0 ρ = true ∧ uC2 own vs1 k tg tt di1 tg1 tt1 te ds ((Lz (tgz fun ρ' acc => Q (mergeR own 0 ρ ρ') (.sh (.ow k), .lst acc)))) (wipeR ρ own) []))) X ρ := uE_comp2
section
variable {own vs1 : List Nat} {k : Sh} {tg : DenG} {tt : Den Bool} {di1 : Den (List D)} {tg1 : DenG} {tt1 : Den Bool} {te : Den DV} {Q : Rho → List D → Prop} {acc : List D}
theorem uC2_nil : uC2 own vs1 k tg tt di1 tg1 tt1 te [] Q ρ acc = Q ρ acc := rfl
theorem uC2_cons {d : D} {ds : List D} : uC2 own vs1 k tg tt di1 tg1 tt1 te (d :: ds) Q ρ acc = wO (tg d ρ) fun ρ1 => uE tt (fun ρ2 b => if b = true then uE di1 (fun ρ3 ds1 => uC vs1 k tg1 tt1 te ds1 (fun ρ4 acc' => uC2 own vs1 k tg tt di1 tg1 tt1 te ds Q (wipeR ρ4 own) acc') (wipeR ρ3 vs1) acc) (fun _ _ => False) ρ2 else uC2 own vs1 k tg tt di1 tg1 tt1 te ds Q (wipeR ρ2 own) acc) (fun _ _ => False) ρ1 := by
  conv => lhs; unfold uC2 comp2F
  cases h : tg d ρ with
  | none => simp
  | some ρ1 =>
    simp only [wO_some]; unfold uE; cases h2 : tt ρ1 with
    | none => simp
    | some r => cases r with
      | ex _ _ => simp
      | ok ρ2 b => cases b with
        | false => simp [uC2]
        | true => simp only [if_true]; cases h3 : di1 ρ2 with
          | none => simp
          | some r => cases r with
            | ex _ _ => simp
            | ok ρ3 ds1 => simp only []; unfold uC; cases compF vs1 k tg1 tt1 te ds1 (wipeR ρ3 vs1) acc <;> rfl
theorem uC_imp {own : List Nat} {k : Sh} {tg : DenG} {tt : Den Bool} {te : Den DV} {ds : List D} {Q Q' : Rho → List D → Prop} {acc : List D} (h : uC own k tg tt te ds Q ρ acc) (i : ∀ ρ acc, Q ρ acc → Q' ρ acc) : uC own k tg tt te ds Q' ρ acc := by
  unfold uC at h ⊢; exact wO_imp h fun p => i p.1 p.2
/-- a comprehension with two walks that changes nothing -/
theorem uC2_pure {ds : List D} (g : D → List D) (hl : acc.length + ((ds.map g).flatten).length ≤ sizeLine)
    (st : ∀ d ∈ ds, ∀ acc : List D, acc.length + (g d).length ≤ sizeLine → wO (tg d ρ) fun ρ1 => uE tt (fun ρ2 b => if b = true then uE di1 (fun ρ3 ds1 => uC vs1 k tg1 tt1 te ds1 (fun ρ4 acc' => acc' = acc ++ g d ∧ wipeR ρ4 own = ρ) (wipeR ρ3 vs1) acc) (fun _ _ => False) ρ2 else g d = [] ∧ wipeR ρ2 own = ρ) (fun _ _ => False) ρ1)
    (hQ : Q ρ (acc ++ (ds.map g).flatten)) : uC2 own vs1 k tg tt di1 tg1 tt1 te ds Q ρ acc := by
  induction ds generalizing acc with
  | nil => simpa [uC2_nil] using hQ
  | cons d ds ih =>
    rw [uC2_cons]
    simp at hl
    refine wO_imp (st d (List.mem_cons_self ..) acc (by omega)) fun ρ1 h2 => uE_imp h2 (fun ρ2 b h3 => ?_) fun _ _ => id
    cases b with
    | false =>
      rw [if_neg Bool.false_ne_true] at h3 ⊢; obtain ⟨e, h3⟩ := h3; rw [h3]
      exact ih (by rw [e] at hl; simpa using hl) (fun d hd => st d (List.mem_cons_of_mem _ hd)) (by simpa [e] using hQ)
    | true =>
      rw [if_pos rfl] at h3 ⊢
      refine uE_imp h3 (fun ρ3 ds1 h4 => uC_imp h4 fun _ _ h5 => ?_) fun _ _ => id
      obtain ⟨h5, h6⟩ := h5
      rw [h5, h6]
      refine ih (by simp; omega) (fun d hd => st d (List.mem_cons_of_mem _ hd)) (by simpa using hQ)
end
theorem uS_while {c : Den Bool} {body : DenS} {n : Nat} : uS (whileF c body (n + 1)) N T B C X ρ = uE c (fun ρ b => if b = true then uS body (fun ρ => uS (whileF c body n) N T B C X ρ) T N (fun ρ => uS (whileF c body n) N T B C X ρ) X ρ else N ρ) X ρ := by
  conv => lhs; unfold uS whileF
  unfold uE; cases h : c ρ with
  | none => rfl
  | some r => cases r with
    | ex _ _ => rfl
    | ok ρ1 b => cases b with
      | false => rfl
      | true => simp only [if_true]; conv => rhs; unfold uS
                cases h2 : body ρ1 with
                | none => rfl
                | some o => cases o <;> first | rfl | (simp only []; unfold uS; rfl)
@[simp ↓] theorem uS_while_z {c : Den Bool} {body : DenS} {n : Nat} : uS (whileF c body (n + 1)) N T B C X ρ = uE c ((Lz (tgz fun ρ b => if b = true then uS body ((Lz (tgz fun ρ => uS (whileF c body n) N T B C X ρ))) T N ((Lz (tgz fun ρ => uS (whileF c body n) N T B C X ρ))) X ρ else N ρ))) X ρ := uS_while
theorem uwhile_inv {c : Den Bool} {body : DenS} (I : Nat → Rho → Prop) :
    ∀ (n : Nat) {ρ : Rho} (m : Nat), m < n → I m ρ → (∀ m ρ, I m ρ → uE c (fun ρ b => if b = true then uS body (fun ρ => ∃ m', m' < m ∧ I m' ρ) T N (fun ρ => ∃ m', m' < m ∧ I m' ρ) X ρ else N ρ) X ρ) → uS (whileF c body n) N T B C X ρ
  | 0, _, _, h, _, _ => absurd h (Nat.not_lt_zero _)
  | n + 1, ρ, m, hm, hi, st => by
    rw [uS_while]
    refine uE_imp (st m ρ hi) (fun ρ b h => ?_) fun _ _ => id
    cases b with
    | false => exact h
    | true =>
      rw [if_pos rfl] at h ⊢
      refine uS_imp h ?_ (fun _ _ => id) (fun _ => id) ?_ (fun _ _ => id)
      · intro ρ ⟨m', h1, h2⟩; exact uwhile_inv I n m' (by omega) h2 st
      · intro ρ ⟨m', h1, h2⟩; exact uwhile_inv I n m' (by omega) h2 st
end
/-! ops at given data -/
section
variable {i j : Int} {xs ys : List D}
@[simp] theorem add_ii : addOp (.int i) (.int j) = some (.s (.int (i + j))) := id rfl
@[simp] theorem add_ll : addOp (.lst xs) (.lst ys) = if xs.length + ys.length ≤ sizeLine then some (.l (xs ++ ys)) else none := id rfl
@[simp] theorem add_tt : addOp (.tup xs) (.tup ys) = if xs.length + ys.length ≤ sizeLine then some (.a (.tup (xs ++ ys))) else none := id rfl
@[simp] theorem add_ss {x y : Str} : addOp (.str x) (.str y) = if x.length + y.length ≤ sizeLine then some (.s (.str (x ++ y))) else none := id rfl
@[simp] theorem sub_ii : subOp (.int i) (.int j) = some (.s (.int (i - j))) := id rfl
@[simp] theorem mul_ii : mulOp (.int i) (.int j) = if mulOk i j = true then some (.s (.int (i * j))) else none := id rfl
@[simp] theorem mod_ii : modOp (.int i) (.int j) = if 0 < j then some (.s (.int (i % j))) else none := by
  show (if decide (0 < j) = true then _ else _) = _; simp only [decide_eq_true_eq]
@[simp] theorem fdiv_ii : fdivOp (.int i) (.int j) = if 0 < j ∧ j.natAbs.log2 < 9000 then some (.s (.int (i / j))) else none := by
  show (if decide (0 < j ∧ j.natAbs.log2 < 9000) = true then _ else _) = _; simp only [decide_eq_true_eq]
@[simp] theorem pow_ii : powOp (.int i) (.int j) = if 0 ≤ j ∧ j ≤ 1000000 ∧ i.natAbs < 2 ^ 64 then some (.s (.int (i ^ j.toNat))) else none := by
  show (if decide (0 ≤ j ∧ j ≤ 1000000 ∧ i.natAbs < 2 ^ 64) = true then _ else _) = _; simp only [decide_eq_true_eq]
@[simp] theorem neg_i : negOp (.int i) = some (.s (.int (-i))) := id rfl
@[simp] theorem lt_ii : ltOp (.int i) (.int j) = some (.s (.bl (decide (i < j)))) := id rfl
@[simp] theorem le_ii : leOp (.int i) (.int j) = some (.s (.bl (decide (i ≤ j)))) := id rfl
@[simp] theorem gt_ii : gtOp (.int i) (.int j) = some (.s (.bl (decide (j < i)))) := id rfl
@[simp] theorem ge_ii : geOp (.int i) (.int j) = some (.s (.bl (decide (j ≤ i)))) := id rfl
@[simp] theorem eq_ii : eqOp (.int i) (.int j) = some (.s (.bl (decide (i = j)))) := id rfl
@[simp] theorem ne_ii : neOp (.int i) (.int j) = some (.s (.bl (!decide (i = j)))) := id rfl
@[simp] theorem len_l : lenOp [.lst xs] = some (.s (.int xs.length)) := id rfl
@[simp] theorem len_t : lenOp [.tup xs] = some (.s (.int xs.length)) := id rfl
@[simp] theorem len_s {z : Str} : lenOp [.str z] = if z.length ≤ sizeLine then some (.s (.int z.length)) else none := id rfl
@[simp] theorem int1_i : int1Op [.int i] = some (.s (.int i)) := id rfl
@[simp] theorem list_l : listOp [.lst xs] = some (.l xs) := id rfl
@[simp] theorem list_t : listOp [.tup xs] = some (.l xs) := id rfl
@[simp] theorem tuple_l : tupleOp [.lst xs] = some (.a (.tup xs)) := id rfl
@[simp] theorem tuple_t : tupleOp [.tup xs] = some (.a (.tup xs)) := id rfl
@[simp] theorem idx_l : idxD (.lst xs) (.int i) = atI xs i := id rfl
@[simp] theorem idx_t : idxD (.tup xs) (.int i) = atI xs i := id rfl
@[simp] theorem items_l : itemsOf (.lst xs) = some xs := id rfl
@[simp] theorem items_t : itemsOf (.tup xs) = some xs := id rfl
def rngOk (j : Int) : Bool := decide (-(2 ^ 62) ≤ j ∧ j < 2 ^ 62)
theorem rngOk_of {j : Int} (h : -1000000000 ≤ j) (h2 : j ≤ 1000000000) : rngOk j = true := by unfold rngOk; rw [decide_eq_true_eq]; omega
theorem rngOk_n {n : Nat} (h2 : n ≤ 1000000000) : rngOk n = true := rngOk_of (by omega) (by omega)
@[simp] theorem rng_i : rngOf [.int j] = if rngOk j = true then some (rangeD 0 j.toNat) else none := by unfold rngOk; simp only [decide_eq_true_eq]; rfl
@[simp] theorem rng2_i : rng2Of [.int i, .int j] = if rngOk i = true ∧ rngOk j = true then some (rangeD i (j - i).toNat) else none := by unfold rngOk; simp only [decide_eq_true_eq, and_assoc]; rfl
@[simp] theorem item_im {d e : D} : itemMd (.sh .im, d) e = (.sh .im, e) := id rfl
@[simp] theorem item_int {a : DV} {i : Int} : itemMd a (.int i) = (.sh .im, .int i) := by simp [itemMd, D.scal]
@[simp] theorem item_bo {d : D} {xs : List D} : itemMd (.bo, d) (.lst xs) = (.bo, .lst xs) := id rfl
@[simp] theorem item_bot {d : D} {xs : List D} : itemMd (.bo, d) (.tup xs) = (.bo, .tup xs) := id rfl
@[simp] theorem item_str {a : DV} {i : Str} : itemMd a (.str i) = (.sh .im, .str i) := by simp [itemMd, D.scal]
@[simp] theorem item_bl {a : DV} {i : Bool} : itemMd a (.bl i) = (.sh .im, .bl i) := by simp [itemMd, D.scal]
@[simp] theorem truth_bl {b : Bool} : truthD (.bl b) = some b := id rfl
@[simp] theorem truth_int : truthD (.int i) = some (i != 0) := id rfl
@[simp] theorem kid_im {s : Sh} : kidOk .im (.sh s) = true := id rfl
@[simp] theorem kid_ow {s : Sh} : kidOk (.ow s) (.sh (.ow s)) = true := by simp [kidOk]
end
end Den

namespace Den
open PySem PySem.Spec PyProof.Rows L2
section
variable {P : Program} {w : World} {K : PySem.W.Frag} {mg : Str → Option Value} {W : WX} {R H : Hp} {F : List Addr} {ρ : Rho} {σ : L2.St} {Q : VK} {d : D} {pb : Bool}
/-- an item of what a name bears -/
def dIdxV (i : Nat) (db : Den DV) : Den DV := fun ρ => match ρ[i]? with
  | some (some _) => dBind db (fun b ρ1 => if isBo b = true then none else match ρ1[i]? with
    | some (some (.im, d0)) => (idxD d0 b.2).map fun d => .ok ρ1 (.sh .im, d)
    | some (some (.ow .im, .lst ds)) => (idxD (.lst ds) b.2).map fun d => .ok ρ1 (.sh .im, d)
    | some (some (.ow .im, .dic kds)) => (idxD (.dic kds) b.2).map fun d => .ok ρ1 (.sh .im, d)
    | some (some (.ow (.ow _), d0)) => (idxD d0 b.2).map fun d => .ok ρ1 (itemMd (.bo, d0) d)
    | _ => none) ρ
  | _ => none
theorem idxV_ok {i : Nat} {db : Den DV} (h : tE K mg W pb (dIdxV i db) σ H Q) : tOp (rIx2 K) (tVar i) (tE K mg W pb db) σ H Q := by
  obtain ⟨ρ, R, F, res, hS, hden, hQ⟩ := h
  unfold dIdxV at hden
  split at hden
  rotate_left
  · cases hden
  rename_i sd0 e0
  obtain ⟨s0, d0⟩ := sd0
  obtain ⟨v0, La, Lb, a1, a2, _⟩ := hS.slots.pick e0
  refine ⟨v0, a1, ?_⟩
  refine tG_bind hS hden hQ fun ρ1 b u H1 R1 F1 G1 e st q n s pp => ?_
  split at e
  · cases e
  rename_i hb
  have qu : At K H1 u b.2 := q.at st.sub
  split at e
  · rename_i d1 e1
    obtain ⟨d, h1, h2⟩ := Option.map_eq_some_iff.mp e
    subst h2
    obtain ⟨v1, Lc, Ld, b1, b2, _⟩ := st.slots.pick e1
    rw [a1] at b1; cases b1
    have st' := st.freeze (nd_out n)
    have q' := q.freeze st.sub (not_bo (ff_of hb))
    have qv : At K (ext R1 H1 G1) v0 d1 := b2.2.mono (ext_sub (R := R1) st.sub)
    obtain ⟨z, h3, h4⟩ := idx_ok (Q := Q) st'.sub h1 qv q'
    exact h4 (((hQ.step s pp).step (.freeze st.sub) fun _ => .refl).im st' h3)
  · rename_i ds e1
    obtain ⟨d, h1, h2⟩ := Option.map_eq_some_iff.mp e
    subst h2
    obtain ⟨p, vs, b1, b2, qq, _⟩ := st.recast e1
    rw [a1] at b1; cases b1
    obtain ⟨mb, db'⟩ := b
    cases db' with
    | int j =>
      cases qu
      obtain ⟨z, h3, h4⟩ := qq.atI h1
      exact .inl (.inl ⟨_, _, _, z, rfl, rfl, .inl (.inl b2), h3, ((hQ.step s pp).drop).im st h4⟩)
    | _ => cases h1
  · rename_i kds e1
    obtain ⟨d, h1, h2⟩ := Option.map_eq_some_iff.mp e
    subst h2
    obtain ⟨v1, Lc, Ld, b1, b2, _⟩ := st.slots.pick e1
    rw [a1] at b1; cases b1
    obtain ⟨p, ks, vs, F2, rfl, _, hk, hp, hn, hO⟩ := b2
    obtain ⟨rfl, qq⟩ := kids_im hO
    have h1' : getK kds b.2 = some d := by
      unfold idxD at h1; split at h1 <;> simp_all
    obtain ⟨k, hkk⟩ := key_of (getK_key h1')
    have hu := key_at hkk qu
    have g := get_at (k := k) hk qq
    rw [← hkk, h1'] at g
    obtain ⟨z, g1, g2⟩ := g
    exact .inr ⟨_, _, k, z, rfl, .inl hp, hu, g1, ((hQ.step s pp).drop).im st g2⟩
  · rename_i k d1 e1
    obtain ⟨d, h1, h2⟩ := Option.map_eq_some_iff.mp e
    subst h2
    obtain ⟨v1, Lc, Ld, b1, b2, _⟩ := st.slots.pick e1
    rw [a1] at b1; cases b1
    have qv : At K H1 v0 d1 := Own.at st.sub (fun _ _ => rfl) b2
    obtain ⟨z, h3, h4⟩ := idx_ok (Q := Q) .refl h1 qv qu
    refine h4 ?_
    have hQ2 := (hQ.step s pp).drop
    unfold itemMd at hQ2
    cases hs : d.scal with
    | true =>
      rw [hs, if_neg (by simp)] at hQ2
      rw [h3.scal hs]
      exact hQ2.scal st hs
    | false =>
      rw [hs, if_pos (by simp)] at hQ2
      exact hQ2 z H1 R1 F1 [] st ⟨rfl, h3⟩ (by rw [List.append_nil]; exact st.nd) (by rw [List.append_nil]; exact .refl) fun _ => .refl
  · cases e
def ixB : D → Bool
  | .lst _ => true
  | .dic _ => true
  | _ => false
@[simp] theorem ixB_l {ds : List D} : ixB (.lst ds) = true := id rfl
@[simp] theorem ixB_d {kds : List (D × D)} : ixB (.dic kds) = true := id rfl
def ivM (d0 d : D) : Sh → DV
  | .ow (.ow _) => itemMd (.bo, d0) d
  | _ => (.sh .im, d)
@[simp] theorem ivM_im {d0 d : D} : ivM d0 d .im = (.sh .im, d) := id rfl
@[simp] theorem ivM_ow {d0 d : D} : ivM d0 d (.ow .im) = (.sh .im, d) := id rfl
@[simp] theorem ivM_oo {d0 d : D} {k : Sh} : ivM d0 d (.ow (.ow k)) = itemMd (.bo, d0) d := id rfl
@[simp] theorem ivM_snd {d0 d : D} {s : Sh} : (ivM d0 d s).2 = d := by
  match s with
  | .im => rfl
  | .ow .im => rfl
  | .ow (.ow k) => show (itemMd (.bo, d0) d).2 = d; unfold itemMd; split <;> rfl
@[simp] theorem ivM_int {d0 : D} {i : Int} {s : Sh} : ivM d0 (.int i) s = (.sh .im, .int i) := by
  match s with
  | .im => rfl
  | .ow .im => rfl
  | .ow (.ow k) => exact item_int
@[simp] theorem ivM_str {d0 : D} {i : Str} {s : Sh} : ivM d0 (.str i) s = (.sh .im, .str i) := by
  match s with
  | .im => rfl
  | .ow .im => rfl
  | .ow (.ow k) => exact item_str
@[simp] theorem ivM_bl {d0 : D} {i : Bool} {s : Sh} : ivM d0 (.bl i) s = (.sh .im, .bl i) := by
  match s with
  | .im => rfl
  | .ow .im => rfl
  | .ow (.ow k) => exact item_bl
theorem uE_idxV {i : Nat} {db : Den DV} {Q : Rho → DV → Prop} {X : Rho → Exn → Prop} : uE (dIdxV i db) Q X ρ = wSlot ρ[i]? fun _ _ => uE db (fun ρ b => isBo b = false ∧ wSlot ρ[i]? fun s d0 => (s = .ow .im → ixB d0 = true) ∧ wO (idxD d0 b.2) fun d => Q ρ (ivM d0 d s)) X ρ := by
  conv => lhs; unfold uE dIdxV
  cases h : ρ[i]? with
  | none => rfl
  | some o => cases o with
    | none => rfl
    | some sd =>
      obtain ⟨s, d⟩ := sd
      simp only [wSlot_some]
      refine Eq.trans (b := uE (dBind db _) Q X ρ) (by with_unfolding_all rfl) ?_
      rw [uE_bind]; congr 1; funext ρ b
      cases hb : isBo b
      · simp only [true_and]; conv => lhs; unfold uE
        simp only [hb, Bool.false_eq_true, if_false]
        cases h1 : ρ[i]? with
        | none => rfl
        | some o => cases o with
          | none => rfl
          | some sd =>
            obtain ⟨s, d⟩ := sd
            simp only [wSlot_some]
            match s with
            | .im => simp only [reduceCtorEq, false_implies, true_and]; cases idxD d b.2 <;> rfl
            | .ow .im =>
              cases d with
              | lst ds => simp only [ixB_l, implies_true, true_and]; cases idxD (.lst ds) b.2 <;> rfl
              | dic ds => simp only [ixB_d, implies_true, true_and]; cases idxD (.dic ds) b.2 <;> rfl
              | _ => simp [ixB]
            | .ow (.ow k) => simp only [Sh.ow.injEq, reduceCtorEq, false_implies, true_and]; cases idxD d b.2 <;> rfl
      · conv => lhs; unfold uE
        simp [hb]
@[simp ↓] theorem uE_idxV_z {i : Nat} {db : Den DV} {Q : Rho → DV → Prop} {X : Rho → Exn → Prop} : uE (dIdxV i db) Q X ρ = wSlot ρ[i]? (Lz (tgz fun _ _ => uE db ((Lz (tgz fun ρ b => isBo b = false ∧ wSlot ρ[i]? (Lz (tgz fun s d0 => (s = .ow .im → ixB d0 = true) ∧ wO (idxD d0 b.2) (Lz (tgz fun d => Q ρ (ivM d0 d s)))))))) X ρ)) := uE_idxV
end
end Den
namespace Den
open PySem PySem.Spec PyProof.Rows L2
theorem e_idxV {X : Cx} {W : WX} {pb : Bool} {b : Expr} {pos pos2 : Pos} {db : Den DV} {x : Str} {i : Nat} (ha : PE X (.Name x pos2) (tVar i)) (hb : RE X W pb b db) (hs : PlainIx b := by exact fun _ _ => rfl) : RE X W pb (.Subscript (.Name x pos2) b pos) (dIdxV i db) := (pe_ix ix_seq2 ha hb hs).impD fun _ _ _ h => idxV_ok h
end Den

namespace Den
open PySem PySem.Spec PyProof.Rows L2
/-! the same, as words that nothing unfolds -/
structure Blk (p : Prop) : Prop where
  out : p
def wE {α : Type} (m : Den α) (Q : Rho → α → Prop) (X : Rho → Exn → Prop) (ρ : Rho) : Prop := Blk (uE m Q X ρ)
def wS (s : DenS) (N : Rho → Prop) (T : Rho → DV → Prop) (B C : Rho → Prop) (X : Rho → Exn → Prop) (ρ : Rho) : Prop := Blk (uS s N T B C X ρ)
def wF (f : FDen) (Q : DV → List (Sh × D) → Prop) (X : Exn → List (Sh × D) → Prop) (args : List (Sh × D)) : Prop := Blk (uF f Q X args)
def wC (own : List Nat) (k : Sh) (tg : DenG) (tt : Den Bool) (te : Den DV) (ds : List D) (Q : Rho → List D → Prop) (ρ : Rho) (acc : List D) : Prop := Blk (uC own k tg tt te ds Q ρ acc)
def wC2 (own vs1 : List Nat) (k : Sh) (tg : DenG) (tt : Den Bool) (di1 : Den (List D)) (tg1 : DenG) (tt1 : Den Bool) (te : Den DV) (ds : List D) (Q : Rho → List D → Prop) (ρ : Rho) (acc : List D) : Prop := Blk (uC2 own vs1 k tg tt di1 tg1 tt1 te ds Q ρ acc)
theorem feE : @wE = @uE := by funext α m Q X ρ; exact propext ⟨Blk.out, Blk.mk⟩
theorem feS : @wS = @uS := by funext s N T B C X ρ; exact propext ⟨Blk.out, Blk.mk⟩
theorem feF : @wF = @uF := by funext f Q X a; exact propext ⟨Blk.out, Blk.mk⟩
theorem feC : @wC = @uC := by funext own k tg tt te ds Q ρ acc; exact propext ⟨Blk.out, Blk.mk⟩
theorem feC2 : @wC2 = @uC2 := by funext own vs1 k tg tt di1 tg1 tt1 te ds Q ρ acc; exact propext ⟨Blk.out, Blk.mk⟩
section
variable {Q : Rho → DV → Prop} {X : Rho → Exn → Prop} {ρ : Rho} {N : Rho → Prop} {T : Rho → DV → Prop} {B C : Rho → Prop}
@[simp ↓] theorem wE_ret {α : Type} {Q : Rho → α → Prop}  {a : α} : wE (dRet a) Q X ρ = Q ρ a := by
  (try rewrite [feE]); (try rewrite [feS]); (try rewrite [feF]); (try rewrite [feC]); (try rewrite [feC2]); exact uE_ret
@[simp ↓] theorem wE_fail {α : Type} {Q : Rho → α → Prop}  : wE dFail Q X ρ = False := by
  (try rewrite [feE]); (try rewrite [feS]); (try rewrite [feF]); (try rewrite [feC]); (try rewrite [feC2]); exact uE_fail
@[simp ↓] theorem wE_C {d : D} : wE (dC d) Q X ρ = Q ρ (.sh .im, d) := by
  (try rewrite [feE]); (try rewrite [feS]); (try rewrite [feF]); (try rewrite [feC]); (try rewrite [feC2]); exact uE_C
@[simp ↓] theorem wE_var_z {i : Nat} : wE (dVar i) Q X ρ = wSlot ρ[i]? (Lz (tgz fun s d => Q ρ (rdM s, d))) := by
  (try rewrite [feE]); (try rewrite [feS]); (try rewrite [feF]); (try rewrite [feC]); (try rewrite [feC2]); exact uE_var_z
@[simp ↓] theorem wE_varF_z {i : Nat} : wE (dVarF i) Q X ρ = wSlot ρ[i]? (Lz (tgz fun _ d => Q (ρ.set i (some (.im, d))) (.sh .im, d))) := by
  (try rewrite [feE]); (try rewrite [feS]); (try rewrite [feF]); (try rewrite [feC]); (try rewrite [feC2]); exact uE_varF_z
@[simp ↓] theorem wE_varM_z {i : Nat} : wE (dVarM i) Q X ρ = wSlot ρ[i]? (Lz (tgz fun s d => Q (ρ.set i none) (.sh s, d))) := by
  (try rewrite [feE]); (try rewrite [feS]); (try rewrite [feF]); (try rewrite [feC]); (try rewrite [feC2]); exact uE_varM_z
@[simp ↓] theorem wE_bin_z {pb : Bool} {op : D → D → Option OR} {da db : Den DV} : wE (dBin pb op da db) Q X ρ = wE da ((Lz (tgz fun ρ a => (isBo a && !pb) = false ∧ wE db ((Lz (tgz fun ρ b => wO (op a.2 b.2) (Lz (tgz fun o => (!o.lent && (isBo a || isBo b)) = false ∧ Q ρ o.val))))) X ρ))) X ρ := by
  (try rewrite [feE]); (try rewrite [feS]); (try rewrite [feF]); (try rewrite [feC]); (try rewrite [feC2]); exact uE_bin_z
@[simp ↓] theorem wE_un_z {op : D → Option OR} {da : Den DV} : wE (dUn op da) Q X ρ = wE da ((Lz (tgz fun ρ a => wO (op a.2) (Lz (tgz fun o => (!o.lent && isBo a) = false ∧ Q ρ o.val))))) X ρ := by
  (try rewrite [feE]); (try rewrite [feS]); (try rewrite [feF]); (try rewrite [feC]); (try rewrite [feC2]); exact uE_un_z
@[simp ↓] theorem wE_nil {Q : Rho → List DV → Prop} : wE dNil Q X ρ = Q ρ [] := by
  (try rewrite [feE]); (try rewrite [feS]); (try rewrite [feF]); (try rewrite [feC]); (try rewrite [feC2]); exact uE_nil
@[simp ↓] theorem wE_cons_z {pr : Bool} {da : Den DV} {dr : Den (List DV)} {Q : Rho → List DV → Prop} : wE (dCons pr da dr) Q X ρ = wE da ((Lz (tgz fun ρ a => (isBo a && !pr) = false ∧ wE dr ((Lz (tgz fun ρ as => Q ρ (a :: as)))) X ρ))) X ρ := by
  (try rewrite [feE]); (try rewrite [feS]); (try rewrite [feF]); (try rewrite [feC]); (try rewrite [feC2]); exact uE_cons_z
@[simp ↓] theorem wE_call_z {op : List D → Option OR} {da : Den (List DV)} : wE (dCall op da) Q X ρ = wE da ((Lz (tgz fun ρ as => wO (op (as.map (·.2))) (Lz (tgz fun o => (!o.lent && !noBo as) = false ∧ Q ρ o.val))))) X ρ := by
  (try rewrite [feE]); (try rewrite [feS]); (try rewrite [feF]); (try rewrite [feC]); (try rewrite [feC2]); exact uE_call_z
@[simp ↓] theorem wE_tup_z {da : Den (List DV)} : wE (dTup da) Q X ρ = wE da ((Lz (tgz fun ρ as => noBo as = true ∧ as.length ≤ sizeLine ∧ Q ρ (.sh .im, .tup (as.map (·.2)))))) X ρ := by
  (try rewrite [feE]); (try rewrite [feS]); (try rewrite [feF]); (try rewrite [feC]); (try rewrite [feC2]); exact uE_tup_z
@[simp ↓] theorem wE_lst_z {da : Den (List DV)} : wE (dLst da) Q X ρ = wE da ((Lz (tgz fun ρ as => noBo as = true ∧ as.length ≤ sizeLine ∧ Q ρ (.sh (.ow .im), .lst (as.map (·.2)))))) X ρ := by
  (try rewrite [feE]); (try rewrite [feS]); (try rewrite [feF]); (try rewrite [feC]); (try rewrite [feC2]); exact uE_lst_z
@[simp ↓] theorem wE_tst_z {Q : Rho → Bool → Prop} {da : Den DV} : wE (dTst da) Q X ρ = wE da ((Lz (tgz fun ρ a => wBl a.2 (Q ρ)))) X ρ := by
  (try rewrite [feE]); (try rewrite [feS]); (try rewrite [feF]); (try rewrite [feC]); (try rewrite [feC2]); exact uE_tst_z
@[simp ↓] theorem wE_truth_z {Q : Rho → Bool → Prop} {da : Den DV} : wE (dTruth da) Q X ρ = wE da ((Lz (tgz fun ρ a => wO (truthD a.2) (Q ρ)))) X ρ := by
  (try rewrite [feE]); (try rewrite [feS]); (try rewrite [feF]); (try rewrite [feC]); (try rewrite [feC2]); exact uE_truth_z
@[simp ↓] theorem wE_and_z {Q : Rho → Bool → Prop} {da db : Den Bool} : wE (dAnd da db) Q X ρ = wE da ((Lz (tgz fun ρ c => if c = true then wE db Q X ρ else Q ρ false))) X ρ := by
  (try rewrite [feE]); (try rewrite [feS]); (try rewrite [feF]); (try rewrite [feC]); (try rewrite [feC2]); exact uE_and_z
@[simp ↓] theorem wE_or_z {Q : Rho → Bool → Prop} {da db : Den Bool} : wE (dOr da db) Q X ρ = wE da ((Lz (tgz fun ρ c => if c = true then Q ρ true else wE db Q X ρ))) X ρ := by
  (try rewrite [feE]); (try rewrite [feS]); (try rewrite [feF]); (try rewrite [feC]); (try rewrite [feC2]); exact uE_or_z
@[simp ↓] theorem wE_not_z {Q : Rho → Bool → Prop} {da : Den Bool} : wE (dNot da) Q X ρ = wE da ((Lz (tgz fun ρ c => Q ρ (!c)))) X ρ := by
  (try rewrite [feE]); (try rewrite [feS]); (try rewrite [feF]); (try rewrite [feC]); (try rewrite [feC2]); exact uE_not_z
@[simp ↓] theorem wE_if_z {α : Type} {Q : Rho → α → Prop} {dc : Den Bool} {da db : Den α} : wE (dIf dc da db) Q X ρ = wE dc ((Lz (tgz fun ρ c => if c = true then wE da Q X ρ else wE db Q X ρ))) X ρ := by
  (try rewrite [feE]); (try rewrite [feS]); (try rewrite [feF]); (try rewrite [feC]); (try rewrite [feC2]); exact uE_if_z
@[simp ↓] theorem wE_andV_z {da db : Den DV} : wE (dAndV da db) Q X ρ = wE da ((Lz (tgz fun ρ a => wBl a.2 (Lz (tgz fun b => if b = true then wE db Q X ρ else Q ρ (.sh .im, .bl false)))))) X ρ := by
  (try rewrite [feE]); (try rewrite [feS]); (try rewrite [feF]); (try rewrite [feC]); (try rewrite [feC2]); exact uE_andV_z
@[simp ↓] theorem wE_orV_z {da db : Den DV} : wE (dOrV da db) Q X ρ = wE da ((Lz (tgz fun ρ a => wBl a.2 (Lz (tgz fun b => if b = true then Q ρ (.sh .im, .bl true) else wE db Q X ρ))))) X ρ := by
  (try rewrite [feE]); (try rewrite [feS]); (try rewrite [feF]); (try rewrite [feC]); (try rewrite [feC2]); exact uE_orV_z
@[simp ↓] theorem wE_notV_z {da : Den DV} : wE (dNotV da) Q X ρ = wE da ((Lz (tgz fun ρ a => wBl a.2 (Lz (tgz fun b => Q ρ (.sh .im, .bl (!b))))))) X ρ := by
  (try rewrite [feE]); (try rewrite [feS]); (try rewrite [feF]); (try rewrite [feC]); (try rewrite [feC2]); exact uE_notV_z
@[simp ↓] theorem wE_idx_z {pb : Bool} {da db : Den DV} : wE (dIdx pb da db) Q X ρ = wE da ((Lz (tgz fun ρ a => (isBo a && !pb) = false ∧ wE db ((Lz (tgz fun ρ b => isBo b = false ∧ wO (idxD a.2 b.2) (Lz (tgz fun d => Q ρ (itemMd a d)))))) X ρ))) X ρ := by
  (try rewrite [feE]); (try rewrite [feS]); (try rewrite [feF]); (try rewrite [feC]); (try rewrite [feC2]); exact uE_idx_z
@[simp ↓] theorem wE_noPart {Q : Rho → Option Int → Prop} : wE dNoPart Q X ρ = Q ρ none := by
  (try rewrite [feE]); (try rewrite [feS]); (try rewrite [feF]); (try rewrite [feC]); (try rewrite [feC2]); exact uE_noPart
@[simp ↓] theorem wE_part_z {da : Den DV} {Q : Rho → Option Int → Prop} : wE (dPart da) Q X ρ = wE da ((Lz (tgz fun ρ a => wInt a.2 (Lz (tgz fun i => Q ρ (some i)))))) X ρ := by
  (try rewrite [feE]); (try rewrite [feS]); (try rewrite [feF]); (try rewrite [feC]); (try rewrite [feC2]); exact uE_part_z
@[simp ↓] theorem wE_sl_z {pl : Bool} {da : Den DV} {dl dh : Den (Option Int)} : wE (dSl pl da dl dh) Q X ρ = wE da ((Lz (tgz fun ρ a => (isBo a && !pl) = false ∧ wE dl ((Lz (tgz fun ρ lo => wE dh ((Lz (tgz fun ρ hi => wO (sliceOp a.2 lo hi) (Lz (tgz fun o => (!o.lent && isBo a) = false ∧ Q ρ o.val))))) X ρ))) X ρ))) X ρ := by
  (try rewrite [feE]); (try rewrite [feS]); (try rewrite [feF]); (try rewrite [feC]); (try rewrite [feC2]); exact uE_sl_z
@[simp ↓] theorem wE_asNil {Q : Rho → List Arg → Prop} : wE dAsNil Q X ρ = Q ρ [] := by
  (try rewrite [feE]); (try rewrite [feS]); (try rewrite [feF]); (try rewrite [feC]); (try rewrite [feC2]); exact uE_asNil
@[simp ↓] theorem wE_asV_z {i : Nat} {dr : Den (List Arg)} {Q : Rho → List Arg → Prop} : wE (dAsV i dr) Q X ρ = wSlot ρ[i]? (Lz (tgz fun s d => wE dr ((Lz (tgz fun ρ as => Q ρ (asM i d s :: as)))) X ρ)) := by
  (try rewrite [feE]); (try rewrite [feS]); (try rewrite [feF]); (try rewrite [feC]); (try rewrite [feC2]); exact uE_asV_z
@[simp ↓] theorem wE_asC_z {pr : Bool} {da : Den DV} {dr : Den (List Arg)} {Q : Rho → List Arg → Prop} : wE (dAsC pr da dr) Q X ρ = wE da ((Lz (tgz fun ρ a => (isBo a && !pr) = false ∧ wE dr ((Lz (tgz fun ρ as => Q ρ (.val a :: as)))) X ρ))) X ρ := by
  (try rewrite [feE]); (try rewrite [feS]); (try rewrite [feF]); (try rewrite [feC]); (try rewrite [feC2]); exact uE_asC_z
@[simp ↓] theorem wE_callF_z {n : Nat} {f : FDen} {das : Den (List Arg)} : wE (dCallF n f das) Q X ρ = wE das ((Lz (tgz fun ρ as => wTk as ρ (Lz (tgz fun args ρ' => args.length = n ∧ wF f ((Lz (tgz fun a os => Q (giveAs as os ρ') a))) ((Lz (tgz fun x os => X (giveAs as os ρ') x))) args))))) X ρ := by
  (try rewrite [feE]); (try rewrite [feS]); (try rewrite [feF]); (try rewrite [feC]); (try rewrite [feC2]); exact uE_callF_z
@[simp ↓] theorem wS_nil : wS sNil N T B C X ρ = N ρ := by
  (try rewrite [feE]); (try rewrite [feS]); (try rewrite [feF]); (try rewrite [feC]); (try rewrite [feC2]); exact uS_nil
@[simp ↓] theorem wS_break : wS sBreak N T B C X ρ = B ρ := by
  (try rewrite [feE]); (try rewrite [feS]); (try rewrite [feF]); (try rewrite [feC]); (try rewrite [feC2]); exact uS_break
@[simp ↓] theorem wS_cont : wS sCont N T B C X ρ = C ρ := by
  (try rewrite [feE]); (try rewrite [feS]); (try rewrite [feF]); (try rewrite [feC]); (try rewrite [feC2]); exact uS_cont
@[simp ↓] theorem wS_seq_z {a b : DenS} : wS (sSeq a b) N T B C X ρ = wS a ((Lz (tgz fun ρ => wS b N T B C X ρ))) T B C X ρ := by
  (try rewrite [feE]); (try rewrite [feS]); (try rewrite [feF]); (try rewrite [feC]); (try rewrite [feC2]); exact uS_seq_z
@[simp ↓] theorem wS_if_z {c : Den Bool} {a b : DenS} : wS (sIf c a b) N T B C X ρ = wE c ((Lz (tgz fun ρ k => if k = true then wS a N T B C X ρ else wS b N T B C X ρ))) X ρ := by
  (try rewrite [feE]); (try rewrite [feS]); (try rewrite [feF]); (try rewrite [feC]); (try rewrite [feC2]); exact uS_if_z
@[simp ↓] theorem wS_expr_z {da : Den DV} : wS (sExpr da) N T B C X ρ = wE da ((Lz (tgz fun ρ _ => N ρ))) X ρ := by
  (try rewrite [feE]); (try rewrite [feS]); (try rewrite [feF]); (try rewrite [feC]); (try rewrite [feC2]); exact uS_expr_z
@[simp ↓] theorem wS_ret_z {da : Den DV} : wS (sRet da) N T B C X ρ = wE da ((Lz (tgz fun ρ a => isBo a = false ∧ T ρ a))) X ρ := by
  (try rewrite [feE]); (try rewrite [feS]); (try rewrite [feF]); (try rewrite [feC]); (try rewrite [feC2]); exact uS_ret_z
@[simp ↓] theorem wS_retN : wS sRetN N T B C X ρ = T ρ (.sh .im, .non) := by
  (try rewrite [feE]); (try rewrite [feS]); (try rewrite [feF]); (try rewrite [feC]); (try rewrite [feC2]); exact uS_retN
@[simp ↓] theorem wS_set_z {i : Nat} {da : Den DV} : wS (sSet i da) N T B C X ρ = wE da ((Lz (tgz fun ρ a => wSh a (Lz (tgz fun s d => i < ρ.length ∧ N (ρ.set i (some (s, d)))))))) X ρ := by
  (try rewrite [feE]); (try rewrite [feS]); (try rewrite [feF]); (try rewrite [feC]); (try rewrite [feC2]); exact uS_set_z
@[simp ↓] theorem wS_asg_z {da : Den DV} {tg : DenG} : wS (sAsg da tg) N T B C X ρ = wE da ((Lz (tgz fun ρ a => isBo a = false ∧ wO (tg a.2 ρ) N))) X ρ := by
  (try rewrite [feE]); (try rewrite [feS]); (try rewrite [feF]); (try rewrite [feC]); (try rewrite [feC2]); exact uS_asg_z
@[simp ↓] theorem wS_par_z {i j : Nat} {da : Den (List DV)} : wS (sPar i j da) N T B C X ρ = wE da ((Lz (tgz fun ρ as => noBo as = true ∧ wAs2 as (Lz (tgz fun a b => (i < ρ.length ∧ j < ρ.length) ∧ N ((ρ.set i (some (.im, a))).set j (some (.im, b)))))))) X ρ := by
  (try rewrite [feE]); (try rewrite [feS]); (try rewrite [feF]); (try rewrite [feC]); (try rewrite [feC2]); exact uS_par_z
@[simp ↓] theorem wS_append_z {ks : Sh} {i : Nat} {da : Den DV} : wS (sAppend ks i da) N T B C X ρ = wLst ρ[i]? (Lz (tgz fun _ _ => wE da ((Lz (tgz fun ρ a => wLst ρ[i]? (Lz (tgz fun k ds => (kidOk ks a.1 = true ∧ ds.length < sizeLine ∧ (k = ks ∨ ds = [])) ∧ N (ρ.set i (some (.ow ks, .lst (ds ++ [a.2]))))))))) X ρ)) := by
  (try rewrite [feE]); (try rewrite [feS]); (try rewrite [feF]); (try rewrite [feC]); (try rewrite [feC2]); exact uS_append_z
@[simp ↓] theorem wS_setItem_z {i : Nat} {da dx : Den DV} : wS (sSetItem i da dx) N T B C X ρ = wE da ((Lz (tgz fun ρ a => isBo a = false ∧ wLst ρ[i]? (Lz (tgz fun _ _ => wE dx ((Lz (tgz fun ρ b => wLstI ρ[i]? (Lz (tgz fun ds => wInt b.2 (Lz (tgz fun j => wO (ixN ds.length j) (Lz (tgz fun k => N (ρ.set i (some (.ow .im, .lst (ds.set k a.2))))))))))))) X ρ))))) X ρ := by
  (try rewrite [feE]); (try rewrite [feS]); (try rewrite [feF]); (try rewrite [feC]); (try rewrite [feC2]); exact uS_setItem_z
@[simp ↓] theorem wS_setItem2_z {i : Nat} {da dx dy : Den DV} : wS (sSetItem2 i da dx dy) N T B C X ρ = wE da ((Lz (tgz fun ρ a => isBo a = false ∧ wLstO ρ[i]? (Lz (tgz fun _ => wE dx ((Lz (tgz fun ρ b => wLstO ρ[i]? (Lz (tgz fun ds => wInt b.2 (Lz (tgz fun j => wO (ixN ds.length j) (Lz (tgz fun k => wO ds[k]? (Lz (tgz fun e => wLd e (Lz (tgz fun _ => wE dy ((Lz (tgz fun ρ c => wLstO ρ[i]? (Lz (tgz fun ds3 => wInt c.2 (Lz (tgz fun j' => wO ds3[k]? (Lz (tgz fun e => wLd e (Lz (tgz fun es => wO (ixN es.length j') (Lz (tgz fun k' => N (ρ.set i (some (.ow (.ow .im), .lst (ds3.set k (.lst (es.set k' a.2))))))))))))))))))) X ρ))))))))))))) X ρ))))) X ρ := by
  (try rewrite [feE]); (try rewrite [feS]); (try rewrite [feF]); (try rewrite [feC]); (try rewrite [feC2]); exact uS_setItem2_z
@[simp ↓] theorem wS_for_z {di : Den (List D)} {tg : DenG} {body : DenS} : wS (sFor di tg body) N T B C X ρ = wE di ((Lz (tgz fun ρ ds => wS (loopF tg body ds) N T B C X ρ))) X ρ := by
  (try rewrite [feE]); (try rewrite [feS]); (try rewrite [feF]); (try rewrite [feC]); (try rewrite [feC2]); exact uS_for_z
theorem wF_fn_z {A : List Nat} {n M : Nat} {body : DenS} {Q : DV → List (Sh × D) → Prop} {X : Exn → List (Sh × D) → Prop} {args : List (Sh × D)} : wF (fnDen A n M body) Q X args = wS body ((Lz (tgz fun ρ => wO (outsOf A 0 args ρ) (Q (.sh .im, .non))))) ((Lz (tgz fun ρ a => wO (outsOf A 0 args ρ) (Q a)))) ((Lz (tgz fun _ => False))) ((Lz (tgz fun _ => False))) ((Lz (tgz fun ρ x => wO (outsOf A 0 args ρ) (X x)))) (args.map some ++ List.replicate (M - n) none) := by
  (try rewrite [feE]); (try rewrite [feS]); (try rewrite [feF]); (try rewrite [feC]); (try rewrite [feC2]); exact uF_fn_z
@[simp ↓] theorem wE_items_z {da : Den DV} {Q : Rho → List D → Prop} : wE (dItems da) Q X ρ = wE da ((Lz (tgz fun ρ a => isBo a = false ∧ wO (itemsOf a.2) (Q ρ)))) X ρ := by
  (try rewrite [feE]); (try rewrite [feS]); (try rewrite [feF]); (try rewrite [feC]); (try rewrite [feC2]); exact uE_items_z
@[simp ↓] theorem wE_range_z {da : Den (List DV)} {Q : Rho → List D → Prop} : wE (dRange da) Q X ρ = wE da ((Lz (tgz fun ρ as => wO (rngOf (as.map (·.2))) (Q ρ)))) X ρ := by
  (try rewrite [feE]); (try rewrite [feS]); (try rewrite [feF]); (try rewrite [feC]); (try rewrite [feC2]); exact uE_range_z
@[simp ↓] theorem wE_range2_z {da : Den (List DV)} {Q : Rho → List D → Prop} : wE (dRange2 da) Q X ρ = wE da ((Lz (tgz fun ρ as => wO (rng2Of (as.map (·.2))) (Q ρ)))) X ρ := by
  (try rewrite [feE]); (try rewrite [feS]); (try rewrite [feF]); (try rewrite [feC]); (try rewrite [feC2]); exact uE_range2_z
@[simp ↓] theorem wE_enum_z {da : Den (List DV)} {Q : Rho → List D → Prop} : wE (dEnum da) Q X ρ = wE da ((Lz (tgz fun ρ as => noBo as = true ∧ wO (enumOf (as.map (·.2))) (Q ρ)))) X ρ := by
  (try rewrite [feE]); (try rewrite [feS]); (try rewrite [feF]); (try rewrite [feC]); (try rewrite [feC2]); exact uE_enum_z
@[simp ↓] theorem wE_zip_z {da : Den (List DV)} {Q : Rho → List D → Prop} : wE (dZip da) Q X ρ = wE da ((Lz (tgz fun ρ as => noBo as = true ∧ wO (zipOf (as.map (·.2))) (Q ρ)))) X ρ := by
  (try rewrite [feE]); (try rewrite [feS]); (try rewrite [feF]); (try rewrite [feC]); (try rewrite [feC2]); exact uE_zip_z
@[simp ↓] theorem wE_comp_z {own : List Nat} {k : Sh} {di : Den (List D)} {tg : DenG} {tt : Den Bool} {te : Den DV} {Q : Rho → DV → Prop} : wE (dComp own k di tg tt te) Q X ρ = wE di ((Lz (tgz fun ρ ds => ownIm own 0 ρ = true ∧ wC own k tg tt te ds ((Lz (tgz fun ρ' acc => Q (mergeR own 0 ρ ρ') (.sh (.ow k), .lst acc)))) (wipeR ρ own) []))) X ρ := by
  (try rewrite [feE]); (try rewrite [feS]); (try rewrite [feF]); (try rewrite [feC]); (try rewrite [feC2]); exact uE_comp_z
@[simp ↓] theorem wE_comp2_z {own vs1 : List Nat} {k : Sh} {di : Den (List D)} {tg : DenG} {tt : Den Bool} {di1 : Den (List D)} {tg1 : DenG} {tt1 : Den Bool} {te : Den DV} {Q : Rho → DV → Prop} : wE (dComp2 own vs1 k di tg tt di1 tg1 tt1 te) Q X ρ = wE di ((Lz (tgz fun ρ ds => ownIm own 0 ρ = true ∧ wC2 own vs1 k tg tt di1 tg1 tt1 te ds ((Lz (tgz fun ρ' acc => Q (mergeR own 0 ρ ρ') (.sh (.ow k), .lst acc)))) (wipeR ρ own) []))) X ρ := by
  (try rewrite [feE]); (try rewrite [feS]); (try rewrite [feF]); (try rewrite [feC]); (try rewrite [feC2]); exact uE_comp2_z
@[simp ↓] theorem wS_while_z {c : Den Bool} {body : DenS} {n : Nat} : wS (whileF c body (n + 1)) N T B C X ρ = wE c ((Lz (tgz fun ρ b => if b = true then wS body ((Lz (tgz fun ρ => wS (whileF c body n) N T B C X ρ))) T N ((Lz (tgz fun ρ => wS (whileF c body n) N T B C X ρ))) X ρ else N ρ))) X ρ := by
  (try rewrite [feE]); (try rewrite [feS]); (try rewrite [feF]); (try rewrite [feC]); (try rewrite [feC2]); exact uS_while_z
@[simp ↓] theorem wE_idxV_z {i : Nat} {db : Den DV} {Q : Rho → DV → Prop} {X : Rho → Exn → Prop} : wE (dIdxV i db) Q X ρ = wSlot ρ[i]? (Lz (tgz fun _ _ => wE db ((Lz (tgz fun ρ b => isBo b = false ∧ wSlot ρ[i]? (Lz (tgz fun s d0 => (s = .ow .im → ixB d0 = true) ∧ wO (idxD d0 b.2) (Lz (tgz fun d => Q ρ (ivM d0 d s)))))))) X ρ)) := by
  (try rewrite [feE]); (try rewrite [feS]); (try rewrite [feF]); (try rewrite [feC]); (try rewrite [feC2]); exact uE_idxV_z
theorem loop_nil {tg : DenG} {body : DenS} : wS (loopF tg body []) N T B C X ρ = N ρ := by rewrite [feS]; exact uloop_nil
theorem loop_cons {tg : DenG} {body : DenS} {d : D} {ds : List D} : wS (loopF tg body (d :: ds)) N T B C X ρ = wO (tg d ρ) fun ρ1 => wS body (fun ρ2 => wS (loopF tg body ds) N T B C X ρ2) T N (fun ρ2 => wS (loopF tg body ds) N T B C X ρ2) X ρ1 := by rewrite [feS]; exact uloop_cons
theorem loop_inv {tg : DenG} {body : DenS} {ds : List D} (I : Nat → Rho → Prop) (h0 : I 0 ρ)
    (st : ∀ k d ρ, ds[k]? = some d → I k ρ → wO (tg d ρ) fun ρ1 => wS body (I (k + 1)) T N (I (k + 1)) X ρ1)
    (hN : ∀ ρ, I ds.length ρ → N ρ) : wS (loopF tg body ds) N T B C X ρ := by rewrite [feS] at st ⊢; exact uloop_inv I h0 st hN
theorem wS_imp {s : DenS} {N' : Rho → Prop} {T' : Rho → DV → Prop} {B' C' : Rho → Prop} {X' : Rho → Exn → Prop} (h : wS s N T B C X ρ) (hN : ∀ ρ, N ρ → N' ρ) (hT : ∀ ρ a, T ρ a → T' ρ a) (hB : ∀ ρ, B ρ → B' ρ) (hC : ∀ ρ, C ρ → C' ρ) (hX : ∀ ρ x, X ρ x → X' ρ x) : wS s N' T' B' C' X' ρ := by rewrite [feS] at h ⊢; exact uS_imp h hN hT hB hC hX
theorem wE_imp {α : Type} {m : Den α} {Q Q' : Rho → α → Prop} {X' : Rho → Exn → Prop} (h : wE m Q X ρ) (hQ : ∀ ρ a, Q ρ a → Q' ρ a) (hX : ∀ ρ x, X ρ x → X' ρ x) : wE m Q' X' ρ := by rewrite [feE] at h ⊢; exact uE_imp h hQ hX
theorem wF_imp {f : FDen} {Q Q' : DV → List (Sh × D) → Prop} {X X' : Exn → List (Sh × D) → Prop} {args : List (Sh × D)} (h : wF f Q X args) (hQ : ∀ a os, Q a os → Q' a os) (hX : ∀ a os, X a os → X' a os) : wF f Q' X' args := by rewrite [feF] at h ⊢; exact uF_imp h hQ hX
theorem wC_imp {own : List Nat} {k : Sh} {tg : DenG} {tt : Den Bool} {te : Den DV} {ds : List D} {Q Q' : Rho → List D → Prop} {acc : List D} (h : wC own k tg tt te ds Q ρ acc) (i : ∀ ρ acc, Q ρ acc → Q' ρ acc) : wC own k tg tt te ds Q' ρ acc := by rewrite [feC] at h ⊢; exact uC_imp h i
theorem while_inv {c : Den Bool} {body : DenS} (I : Nat → Rho → Prop) (n : Nat) {ρ : Rho} (m : Nat) (h : m < n) (hi : I m ρ) (st : ∀ m ρ, I m ρ → wE c (fun ρ b => if b = true then wS body (fun ρ => ∃ m', m' < m ∧ I m' ρ) T N (fun ρ => ∃ m', m' < m ∧ I m' ρ) X ρ else N ρ) X ρ) : wS (whileF c body n) N T B C X ρ := by rewrite [feS] at st ⊢; rewrite [feE] at st; exact uwhile_inv I n m h hi st
theorem wF_eq {f : FDen} {args : List (Sh × D)} {a : DV} {os : List (Sh × D)} {Q : DV → List (Sh × D) → Prop} {X : Exn → List (Sh × D) → Prop} (h : f args = some (.ret a os)) : wF f Q X args = Q a os := by rewrite [feF]; exact uF_eq h
theorem of_wF {f : FDen} {args : List (Sh × D)} {Q : DV → List (Sh × D) → Prop} (h : wF f Q (fun _ _ => False) args) : ∃ a os, f args = some (.ret a os) ∧ Q a os := by
  rewrite [feF] at h; unfold uF at h; split at h
  · exact h.elim
  · exact ⟨_, _, by assumption, h⟩
  · exact h.elim
section
variable {own : List Nat} {k : Sh} {tg : DenG} {tt : Den Bool} {te : Den DV} {Q : Rho → List D → Prop} {acc : List D}
theorem wC_nil : wC own k tg tt te [] Q ρ acc = Q ρ acc := by rewrite [feC]; exact uC_nil
theorem wC_inv {ds : List D} (I : Nat → Rho → List D → Prop) (h0 : I 0 ρ acc)
    (st : ∀ j d ρ acc, ds[j]? = some d → I j ρ acc → wO (tg d ρ) fun ρ1 => wE tt (fun ρ2 b => if b = true then wE te (fun ρ3 a => (kidOk k a.1 = true ∧ acc.length < sizeLine) ∧ I (j + 1) (wipeR ρ3 own) (acc ++ [a.2])) (fun _ _ => False) ρ2 else I (j + 1) (wipeR ρ2 own) acc) (fun _ _ => False) ρ1)
    (hN : ∀ ρ acc, I ds.length ρ acc → Q ρ acc) : wC own k tg tt te ds Q ρ acc := by rewrite [feC]; rewrite [feE] at st; exact uC_inv I h0 st hN
theorem wC_pure {ds : List D} (p : D → Bool) (f : D → D) (hl : acc.length + ds.length ≤ sizeLine)
    (st : ∀ d ∈ ds, wO (tg d ρ) fun ρ1 => wE tt (fun ρ2 b => b = p d ∧ if p d = true then wE te (fun ρ3 a => kidOk k a.1 = true ∧ a.2 = f d ∧ wipeR ρ3 own = ρ) (fun _ _ => False) ρ2 else wipeR ρ2 own = ρ) (fun _ _ => False) ρ1)
    (hQ : Q ρ (acc ++ (ds.filter p).map f)) : wC own k tg tt te ds Q ρ acc := by rewrite [feC]; rewrite [feE] at st; exact uC_pure p f hl st hQ
theorem wC_map {ds : List D} (f : D → D) (hl : acc.length + ds.length ≤ sizeLine)
    (st : ∀ d ∈ ds, wO (tg d ρ) fun ρ1 => wE te (fun ρ3 a => kidOk k a.1 = true ∧ a.2 = f d ∧ wipeR ρ3 own = ρ) (fun _ _ => False) ρ1)
    (hQ : Q ρ (acc ++ ds.map f)) : wC own k tg (dRet true) te ds Q ρ acc := by rewrite [feC]; rewrite [feE] at st; exact uC_map f hl st hQ
theorem wC2_pure {vs1 : List Nat} {di1 : Den (List D)} {tg1 : DenG} {tt1 : Den Bool} {ds : List D} (g : D → List D) (hl : acc.length + ((ds.map g).flatten).length ≤ sizeLine)
    (st : ∀ d ∈ ds, ∀ acc : List D, acc.length + (g d).length ≤ sizeLine → wO (tg d ρ) fun ρ1 => wE tt (fun ρ2 b => if b = true then wE di1 (fun ρ3 ds1 => wC vs1 k tg1 tt1 te ds1 (fun ρ4 acc' => acc' = acc ++ g d ∧ wipeR ρ4 own = ρ) (wipeR ρ3 vs1) acc) (fun _ _ => False) ρ2 else g d = [] ∧ wipeR ρ2 own = ρ) (fun _ _ => False) ρ1)
    (hQ : Q ρ (acc ++ (ds.map g).flatten)) : wC2 own vs1 k tg tt di1 tg1 tt1 te ds Q ρ acc := by rewrite [feC2]; rewrite [feE, feC] at st; exact uC2_pure g hl st hQ
end
end
end Den

namespace Den
open PySem PySem.Spec PyProof.Rows L2
/-! the pool that all laws draw from -/
def bp_mixed : DenS :=
  (sSeq (sSet 2 (dBin true modOp (dCall int1Op (dCons true (dBin true addOp (dBin true addOp (dBin true mulOp (dVarF 0) (dC (.int 48271))) (dBin true mulOp (dVarF 1) (dC (.int 69621)))) (dC (.int 11))) dNil)) (dC (.int 618970019642690137449562111)))) (sSeq (sSet 3 (dBin true modOp (dCall int1Op (dCons true (dBin true addOp (dBin true addOp (dBin true mulOp (dVarF 2) (dVarF 2)) (dBin true mulOp (dC (.int 7)) (dVarF 2))) (dVarF 1)) dNil)) (dC (.int 162259276829213363391578010288127)))) (sSeq (sSet 4 (dBin true modOp (dCall int1Op (dCons true (dBin true addOp (dBin true mulOp (dVarF 3) (dVarF 3)) (dVarF 2)) dNil)) (dC (.int 618970019642690137449562111)))) (sRet (dBin true addOp (dBin true mulOp (dVarF 3) (dC (.int 618970019642690137449562111))) (dVarF 4))))))
def dp_mixed : FDen := fnDen [2, 3, 4] 2 5 bp_mixed
def bp_rest : DenS :=
  (sSeq (sSet 3 (dC (.int 0))) (sSeq (sIf (dTst (dBin true gtOp (dCall lenOp (dCons true (dVar 0) dNil)) (dC (.int 0)))) (sSet 3 (dCall int1Op (dCons true (dIdxV 0 (dBin true modOp (dCall int1Op (dCons true (dVar 1) dNil)) (dCall lenOp (dCons true (dVar 0) dNil)))) dNil))) sNil) (sSeq (sIf (dTst (dBin true ltOp (dVar 3) (dC (.int 0)))) (sSet 3 (dBin true subOp (dC (.int 1)) (dBin true mulOp (dC (.int 2)) (dVarF 3)))) sNil) (sSeq (sIf (dAnd (dTst (dBin true eqOp (dVar 2) (dC (.int 0)))) (dAnd (dTst (dBin true ltOp (dVar 1) (dCall lenOp (dCons true (dVar 0) dNil)))) (dTst (dBin true geOp (dVar 3) (dBin true powOp (dC (.int 10)) (dC (.int 18))))))) (sRet (dBin true subOp (dVar 3) (dBin true powOp (dC (.int 10)) (dC (.int 18))))) sNil) (sRet (dCallF 2 (dp_mixed) (dAsC true (dBin true addOp (dVarF 3) (dBin true mulOp (dVarF 2) (dC (.int 1000003)))) (dAsV 1 dAsNil))))))))
def dp_rest : FDen := fnDen [3] 3 4 bp_rest
def bp_pool : DenS :=
  (sRet (dLst (dCons false (dVarF 0) (dCons false (dC (.int 0)) (dCons true (dCallF 3 (dp_rest) (dAsV 0 (dAsC true (dC (.int 0)) (dAsC true (dC (.int 0)) dAsNil)))) (dCons true (dC (.int 0)) dNil))))))
def dp_pool : FDen := fnDen [] 1 1 bp_pool
def bp_next : DenS :=
  (sSeq (sSetItem 0 (dBin true addOp (dIdxV 0 (dC (.int 1))) (dC (.int 1))) (dC (.int 1))) (sSeq (sSetItem 0 (dCallF 3 (dp_rest) (dAsC true (dIdxV 0 (dC (.int 0))) (dAsC true (dIdxV 0 (dC (.int 1))) (dAsC true (dC (.int 0)) dAsNil)))) (dC (.int 2))) (sSetItem 0 (dC (.int 0)) (dC (.int 3)))))
def dp_next : FDen := fnDen [] 1 1 bp_next
def bp_draw : DenS :=
  (sSeq (sIf (dTst (dBin true leOp (dIdxV 0 (dC (.int 2))) (dC (.int 1)))) (sSeq (sSetItem 0 (dBin true addOp (dIdxV 0 (dC (.int 3))) (dC (.int 1))) (dC (.int 3))) (sSetItem 0 (dCallF 3 (dp_rest) (dAsC true (dIdxV 0 (dC (.int 0))) (dAsC true (dIdxV 0 (dC (.int 1))) (dAsC true (dIdxV 0 (dC (.int 3))) dAsNil)))) (dC (.int 2)))) sNil) (sSeq (sSet 2 (dBin true modOp (dCall int1Op (dCons true (dIdxV 0 (dC (.int 2))) dNil)) (dVar 1))) (sSeq (sSetItem 0 (dBin true fdivOp (dCall int1Op (dCons true (dIdxV 0 (dC (.int 2))) dNil)) (dVar 1)) (dC (.int 2))) (sRet (dVarM 2)))))
def dp_draw : FDen := fnDen [2] 2 3 bp_draw
def bp_pick : DenS :=
  (sRet (dIdx false (dVarF 1) (dCallF 2 (dp_draw) (dAsV 0 (dAsC true (dCall lenOp (dCons true (dVar 1) dNil)) dAsNil)))))
def dp_pick : FDen := fnDen [] 2 2 bp_pick
def pl (ns : List Int) (a r f : Int) : List D := [.lst (ns.map .int), .int a, .int r, .int f]
abbrev pS (ns : List Int) (a r f : Int) : Sh × D := (.ow .im, .lst (pl ns a r f))
abbrev iS (i : Int) : Sh × D := (.im, .int i)
theorem rho0 {α : Type} {x : α} {l : List α} : (x :: l)[0]? = some x := rfl
theorem atI_map {i : Int} {ns : List Int} (h : 0 ≤ i) (h2 : i < ns.length) : ∃ z, atI (ns.map D.int) i = some (.int z) := by
  refine ⟨ns[i.toNat]'(by omega), ?_⟩
  unfold atI ixN; simp [h, h2]
theorem mulOk_r {i j : Int} (h : -(2 ^ 64) < j ∧ j < 2 ^ 64) : mulOk i j = true := by unfold mulOk; simp only [h, and_self, decide_true, Bool.or_true, Bool.true_or]
theorem mulOk_l {i j : Int} (h : -(2 ^ 64) < i ∧ i < 2 ^ 64) : mulOk i j = true := by unfold mulOk; simp only [h, and_self, decide_true, Bool.or_true, Bool.true_or]
theorem log_lt {i : Int} {k : Nat} (h : i.natAbs < 2 ^ k) (hk : 0 < k) : i.natAbs.log2 < k := by
  by_cases h0 : i.natAbs = 0
  · rw [h0]; simpa using hk
  · exact (Nat.log2_lt h0).2 h
theorem mulOk_b {i j : Int} (hi : i.natAbs < 2 ^ 200) (hj : j.natAbs < 2 ^ 200) : mulOk i j = true := by
  have h1 := log_lt hi (by decide)
  have h2 := log_lt hj (by decide)
  unfold mulOk
  rw [Bool.or_eq_true, decide_eq_true_eq]; right; omega
theorem modB {x m : Int} (h : 0 < m) (h2 : m ≤ 2 ^ 200) : (x % m).natAbs < 2 ^ 200 := by
  have h3 := Int.emod_nonneg x (Int.ne_of_gt h)
  have h4 := Int.emod_lt_of_pos x h
  generalize x % m = y at *
  have : (y.natAbs : Int) < (2 : Int) ^ 200 := by omega
  exact_mod_cast this
variable {Q : DV → List (Sh × D) → Prop} {X : Exn → List (Sh × D) → Prop}
theorem mixed_w {n k : Int} (h : ∀ r : Int, Q (.sh .im, .int r) [iS n, iS k]) : wF dp_mixed Q X [iS n, iS k] := by
  unfold dp_mixed; rw [wF_fn_z]; unfold bp_mixed
  simp
  exact ⟨mulOk_r (by decide), mulOk_r (by decide), mulOk_b (modB (by decide) (by decide)) (modB (by decide) (by decide)), mulOk_l (by decide),
    mulOk_b (modB (by decide) (by decide)) (modB (by decide) (by decide)), mulOk_b (modB (by decide) (by decide)) (by decide), h _⟩
theorem rest_w {s : Sh} {ns : List Int} {a f : Int} (h : ∀ r : Int, Q (.sh .im, .int r) [(s, .lst (ns.map .int)), iS a, iS f]) : wF dp_rest Q X [(s, .lst (ns.map .int)), iS a, iS f] := by
  unfold dp_rest; rw [wF_fn_z]; unfold bp_rest
  have key : ∀ z : Int, wS (sSeq (sIf (dTst (dBin true ltOp (dVar 3) (dC (.int 0)))) (sSet 3 (dBin true subOp (dC (.int 1)) (dBin true mulOp (dC (.int 2)) (dVarF 3)))) sNil) (sSeq (sIf (dAnd (dTst (dBin true eqOp (dVar 2) (dC (.int 0)))) (dAnd (dTst (dBin true ltOp (dVar 1) (dCall lenOp (dCons true (dVar 0) dNil)))) (dTst (dBin true geOp (dVar 3) (dBin true powOp (dC (.int 10)) (dC (.int 18))))))) (sRet (dBin true subOp (dVar 3) (dBin true powOp (dC (.int 10)) (dC (.int 18))))) sNil) (sRet (dCallF 2 (dp_mixed) (dAsC true (dBin true addOp (dVarF 3) (dBin true mulOp (dVarF 2) (dC (.int 1000003)))) (dAsV 1 dAsNil))))))
      (fun ρ => wO (outsOf [3] 0 [(s, .lst (ns.map .int)), iS a, iS f] ρ) (Q (.sh .im, .non))) (fun ρ b => wO (outsOf [3] 0 [(s, .lst (ns.map .int)), iS a, iS f] ρ) (Q b)) (fun _ => False) (fun _ => False) (fun ρ x => wO (outsOf [3] 0 [(s, .lst (ns.map .int)), iS a, iS f] ρ) (X x))
      [some (s, .lst (ns.map .int)), some (iS a), some (iS f), some (.im, .int z)] := by
    intro z
    have m1 : mulOk 2 z = true := mulOk_l (by decide)
    have m2 : mulOk f 1000003 = true := mulOk_r (by decide)
    have fin : ∀ z, wF dp_mixed (fun a_1 os => isBo a_1 = false ∧ wO (outsOf [3] 0 [(s, D.lst (List.map D.int ns)), iS a, iS f] (giveAs [Arg.val (Md.sh Sh.im, D.int (z + f * 1000003)), Arg.val (Md.sh Sh.im, D.int a)] os [some (s, D.lst (List.map D.int ns)), some (iS a), some (Sh.im, D.int f), some (Sh.im, D.int z)])) (Q a_1)) (fun x os => wO (outsOf [3] 0 [(s, D.lst (List.map D.int ns)), iS a, iS f] (giveAs [Arg.val (Md.sh Sh.im, D.int (z + f * 1000003)), Arg.val (Md.sh Sh.im, D.int a)] os [some (s, D.lst (List.map D.int ns)), some (iS a), some (Sh.im, D.int f), some (Sh.im, D.int z)])) (X x)) [iS (z + f * 1000003), iS a] := by
      intro z
      refine mixed_w fun r => ?_
      simp
      exact h r
    simp [m1, m2]
    split <;> split <;> (try split) <;> (try split) <;> first | exact h _ | exact fin _
  by_cases h0 : 0 < ns.length
  · obtain ⟨z, hz⟩ := atI_map (i := a % ns.length) (ns := ns) (Int.emod_nonneg _ (by omega)) (Int.emod_lt_of_pos _ (by omega))
    simp only [wS_seq_z] at key ⊢
    simp [h0, hz] at key ⊢
    exact key z
  · have k0 := key 0
    simp only [wS_seq_z] at k0 ⊢
    simp [h0] at k0 ⊢
    exact k0
theorem atI0 {α : Type} {x : α} {l : List α} : atI (x :: l) 0 = some x := by simp [atI, ixN]
@[simp] theorem pl_len {ns : List Int} {a r f : Int} : (pl ns a r f).length = 4 := id rfl
@[simp] theorem pl0 {ns : List Int} {a r f : Int} : atI (pl ns a r f) 0 = some (.lst (ns.map .int)) := id rfl
@[simp] theorem pl1 {ns : List Int} {a r f : Int} : atI (pl ns a r f) 1 = some (.int a) := id rfl
@[simp] theorem pl2 {ns : List Int} {a r f : Int} : atI (pl ns a r f) 2 = some (.int r) := id rfl
@[simp] theorem pl3 {ns : List Int} {a r f : Int} : atI (pl ns a r f) 3 = some (.int f) := id rfl
@[simp] theorem ix40 : ixN 4 0 = some 0 := id rfl
@[simp] theorem ix41 : ixN 4 1 = some 1 := id rfl
@[simp] theorem ix42 : ixN 4 2 = some 2 := id rfl
@[simp] theorem ix43 : ixN 4 3 = some 3 := id rfl
@[simp] theorem ps1 {ns : List Int} {a r f b : Int} : (pl ns a r f).set 1 (.int b) = pl ns b r f := id rfl
@[simp] theorem ps2 {ns : List Int} {a r f b : Int} : (pl ns a r f).set 2 (.int b) = pl ns a b f := id rfl
@[simp] theorem ps3 {ns : List Int} {a r f b : Int} : (pl ns a r f).set 3 (.int b) = pl ns a r b := id rfl
theorem next_w {ns : List Int} {a r f : Int} (h : ∀ a r f : Int, Q (.sh .im, .non) [pS ns a r f]) : wF dp_next Q X [pS ns a r f] := by
  unfold dp_next; rw [wF_fn_z]; unfold bp_next
  simp
  refine rest_w fun r => ?_
  simp
  exact h _ _ _
theorem draw_w {ns : List Int} {a r f n : Int} (hn : 0 < n) (hl : n ≤ 1000000000000) (h : ∀ r f v : Int, 0 ≤ v → v < n → Q (.sh .im, .int v) [pS ns a r f, iS n]) : wF dp_draw Q X [pS ns a r f, iS n] := by
  have l2 : n.natAbs.log2 < 9000 := by
    have : n.natAbs < 2 ^ 200 := by
      have : (n.natAbs : Int) < (2 : Int) ^ 200 := by omega
      exact_mod_cast this
    have := log_lt this (by decide)
    omega
  have fin : ∀ r f : Int, Q (.sh .im, .int (r % n)) [pS ns a (r / n) f, iS n] := fun r f => h _ _ _ (Int.emod_nonneg _ (Int.ne_of_gt hn)) (Int.emod_lt_of_pos _ hn)
  unfold dp_draw; rw [wF_fn_z]; unfold bp_draw
  simp [hn, l2]
  split
  · refine rest_w fun r => ?_
    simp [hn, l2]
    exact fin _ _
  · exact fin _ _
theorem pick_w {s : Sh} {ns : List Int} {a r f : Int} {ds : List D} (hn : 0 < ds.length) (hl : ds.length ≤ 1000000000) (h : ∀ r f : Int, ∀ d ∈ ds, Q (.sh .im, d) [pS ns a r f, (.im, .lst ds)]) : wF dp_pick Q X [pS ns a r f, (s, .lst ds)] := by
  unfold dp_pick; rw [wF_fn_z]; unfold bp_pick
  have fin : ∀ r f v : Int, 0 ≤ v → v < ds.length → ∃ d, atI ds v = some d ∧ d ∈ ds := fun r f v h1 h2 => by
    refine ⟨ds[v.toNat]'(by omega), ?_, List.getElem_mem _⟩
    simp [atI, ixN, h1, h2]
  simp
  refine draw_w (by omega) (by omega) fun r f v h1 h2 => ?_
  obtain ⟨d, h3, h4⟩ := fin r f v h1 h2
  simp [h3]
  exact h _ _ _ h4
theorem pool_w {s : Sh} {ns : List Int} (h : ∀ a r f : Int, Q (.sh (.ow .im), .lst (pl ns a r f)) [(.im, .lst (ns.map .int))]) : wF dp_pool Q X [(s, .lst (ns.map .int))] := by
  unfold dp_pool; rw [wF_fn_z]; unfold bp_pool
  simp
  refine rest_w fun r => ?_
  simp [sizeLine]
  exact h 0 r 0
theorem rangeD_get {lo : Int} {n k : Nat} {d : D} (h : (rangeD lo n)[k]? = some d) : k < n ∧ d = .int (lo + k) := by
  unfold rangeD at h
  rw [List.getElem?_map] at h
  by_cases hk : k < n
  · simp [hk] at h; exact ⟨hk, h.symm⟩
  · simp [hk] at h
theorem atI_n {α : Type} {xs : List α} {k : Nat} {x : α} (h : xs[k]? = some x) : atI xs (k : Int) = some x := L2.atI_nat h
end Den

namespace Den
open PySem PySem.Spec PyProof.Rows L2
def bp_sameB (den : FDen) : DenS :=
  (sSeq (sIf (dOr (dTst (dBin true isOp (dVar 1) (dC .non))) (dOr (dTst (dBin true isOp (dVar 1) (dC (.bl true)))) (dTst (dBin true isOp (dVar 1) (dC (.bl false)))))) (sRet (dOrV (dAndV (dBin true isOp (dVar 1) (dC .non)) (dBin true isOp (dVar 0) (dC .non))) (dOrV (dAndV (dBin true isOp (dVar 1) (dC (.bl true))) (dBin true isOp (dVar 0) (dC (.bl true)))) (dAndV (dBin true isOp (dVar 1) (dC (.bl false))) (dBin true isOp (dVar 0) (dC (.bl false))))))) sNil) (sSeq (sIf (dTruth (dCall isiOp (dCons true (dVar 1) (dCons true (dC (.ty "int")) dNil)))) (sRet (dAndV (dCall isiOp (dCons true (dVar 0) (dCons true (dC (.ty "int")) dNil))) (dAndV (dNotV (dCall isiOp (dCons true (dVar 0) (dCons true (dC (.ty "bool")) dNil)))) (dBin true eqOp (dVar 0) (dVar 1))))) sNil) (sSeq (sIf (dTruth (dCall isiOp (dCons true (dVar 1) (dCons true (dC (.ty "str")) dNil)))) (sRet (dAndV (dCall isiOp (dCons true (dVar 0) (dCons true (dC (.ty "str")) dNil))) (dBin true eqOp (dVar 0) (dVar 1)))) sNil) (sSeq (sIf (dTruth (dCall isiOp (dCons true (dVar 1) (dCons true (dC (.ty "dict")) dNil)))) (sSeq (sIf (dOr (dNot (dTruth (dCall isiOp (dCons true (dVar 0) (dCons true (dC (.ty "dict")) dNil))))) (dTst (dBin true neOp (dCall lenOp (dCons true (dVar 0) dNil)) (dCall lenOp (dCons true (dVar 1) dNil))))) (sRet (dC (.bl false))) sNil) (sSeq (sFor (dItems (dVarF 1)) (gSet 3) (sIf (dOr (dTst (dBin true notInOp (dVar 3) (dVar 0))) (dNot (dTruth (dCallF 2 den (dAsC true (dIdx true (dVarF 0) (dVar 3)) (dAsC true (dIdx true (dVarF 1) (dVar 3)) dAsNil)))))) (sRet (dC (.bl false))) sNil)) (sRet (dC (.bl true))))) sNil) (sSeq (sIf (dAnd (dTruth (dCall isiOp (dCons true (dVar 1) (dCons true (dC (.ty "tuple")) dNil)))) (dNot (dTruth (dCall isiOp (dCons true (dVar 0) (dCons true (dC (.ty "tuple")) dNil)))))) (sRet (dC (.bl false))) sNil) (sSeq (sIf (dAnd (dTruth (dCall isiOp (dCons true (dVar 1) (dCons true (dC (.ty "list")) dNil)))) (dNot (dTruth (dCall isiOp (dCons true (dVar 0) (dCons true (dC (.ty "list")) dNil)))))) (sRet (dC (.bl false))) sNil) (sSeq (sIf (dTst (dBin true neOp (dCall lenOp (dCons true (dVar 0) dNil)) (dCall lenOp (dCons true (dVar 1) dNil)))) (sRet (dC (.bl false))) sNil) (sSeq (sFor (dRange (dCons true (dCall lenOp (dCons true (dVar 1) dNil)) dNil)) (gSet 2) (sIf (dNot (dTruth (dCallF 2 den (dAsC true (dIdx true (dVarF 0) (dVar 2)) (dAsC true (dIdx true (dVarF 1) (dVar 2)) dAsNil))))) (sRet (dC (.bl false))) sNil)) (sRet (dC (.bl true)))))))))))
def dp_sameB : Nat → FDen
  | 0 => fun _ => none
  | k + 1 => fnDen [2, 3] 2 4 (bp_sameB (dp_sameB k))
@[simp] theorem eq_ss {x y : Str} : eqOp (.str x) (.str y) = some (.s (.bl (x == y))) := id rfl
@[simp] theorem ne_ss {x y : Str} : neOp (.str x) (.str y) = some (.s (.bl (!(x == y)))) := id rfl
mutual
def D.plain : Nat → D → Bool
  | _, .non => true
  | _, .bl _ => true
  | _, .int _ => true
  | _, .str _ => true
  | 0, .lst _ => false
  | 0, .tup _ => false
  | n + 1, .lst xs => decide (xs.length ≤ sizeLine) && D.plains n xs
  | n + 1, .tup xs => decide (xs.length ≤ sizeLine) && D.plains n xs
  | _, _ => false
def D.plains : Nat → List D → Bool
  | _, [] => true
  | n, x :: xs => D.plain n x && D.plains n xs
end
theorem plains_mem : ∀ {n : Nat} {xs : List D} {d : D}, D.plains n xs = true → d ∈ xs → D.plain n d = true
  | n, x :: xs, d, h, hm => by
    rw [D.plains, Bool.and_eq_true] at h
    rcases List.mem_cons.1 hm with e | e
    · rw [e]; exact h.1
    · exact plains_mem h.2 e
variable {Q : DV → List (Sh × D) → Prop} {X : Exn → List (Sh × D) → Prop}
section
variable {N : Rho → Prop} {T : Rho → DV → Prop} {B C : Rho → Prop} {X : Rho → Exn → Prop} {ρ : Rho}
theorem seq_skip {c : Den Bool} {a b : DenS} (h : wE c (fun ρ' k => k = false ∧ ρ' = ρ) (fun _ _ => False) ρ) (hb : wS b N T B C X ρ) : wS (sSeq (sIf c a sNil) b) N T B C X ρ := by
  rw [wS_seq_z, wS_if_z]
  refine wE_imp h (fun ρ' k h => ?_) fun _ _ => False.elim
  obtain ⟨rfl, rfl⟩ := h; rw [Lz_2, if_neg Bool.false_ne_true, wS_nil]; exact hb
theorem seq_inv {a b : DenS} (I : Rho → Prop) (h : wS a I (fun _ _ => False) (fun _ => False) (fun _ => False) (fun _ _ => False) ρ) (hb : ∀ ρ', I ρ' → wS b N T B C X ρ') : wS (sSeq a b) N T B C X ρ := by
  rw [wS_seq_z]
  exact wS_imp h hb (fun _ _ => False.elim) (fun _ => False.elim) (fun _ => False.elim) (fun _ _ => False.elim)
theorem seq_op {a b : DenS} (P : Rho → Prop) (h : ∀ I : Rho → Prop, (∀ ρ', P ρ' → I ρ') → wS a I (fun _ _ => False) (fun _ => False) (fun _ => False) (fun _ _ => False) ρ) (hb : ∀ ρ', P ρ' → wS b N T B C X ρ') : wS (sSeq a b) N T B C X ρ := seq_inv P (h P fun _ => id) hb
theorem if_no {c : Den Bool} {a b : DenS} (h : wE c (fun ρ' k => k = false ∧ ρ' = ρ) (fun _ _ => False) ρ) (hb : wS b N T B C X ρ) : wS (sIf c a b) N T B C X ρ := by
  rw [wS_if_z]
  refine wE_imp h (fun ρ' k h => ?_) fun _ _ => False.elim
  obtain ⟨rfl, rfl⟩ := h; rw [Lz_2, if_neg Bool.false_ne_true]; exact hb
theorem if_yes {c : Den Bool} {a b : DenS} (h : wE c (fun ρ' k => k = true ∧ ρ' = ρ) (fun _ _ => False) ρ) (ha : wS a N T B C X ρ) : wS (sIf c a b) N T B C X ρ := by
  rw [wS_if_z]
  refine wE_imp h (fun ρ' k h => ?_) fun _ _ => False.elim
  obtain ⟨rfl, rfl⟩ := h; rw [Lz_2, if_pos rfl]; exact ha
theorem seq_take {c : Den Bool} {a b : DenS} (h : wE c (fun ρ' k => k = true ∧ ρ' = ρ) (fun _ _ => False) ρ) (ha : wS a (fun ρ => wS b N T B C X ρ) T B C X ρ) : wS (sSeq (sIf c a sNil) b) N T B C X ρ := by
  rw [wS_seq_z, wS_if_z]
  refine wE_imp h (fun ρ' k h => ?_) fun _ _ => False.elim
  obtain ⟨rfl, rfl⟩ := h; rw [Lz_2, if_pos rfl]; exact ha
end
theorem plains_ints {k : Nat} : ∀ ns : List Int, D.plains k (ns.map D.int) = true
  | [] => by cases k <;> rfl
  | n :: ns => by rw [List.map_cons, D.plains, plains_ints ns]; cases k <;> rfl
theorem plains_all {k : Nat} : ∀ {ds : List D}, (∀ d ∈ ds, D.plain k d = true) → D.plains k ds = true
  | [], _ => by cases k <;> rfl
  | d :: ds, h => by rw [D.plains, h d (List.mem_cons_self ..), plains_all fun e he => h e (List.mem_cons_of_mem _ he)]; rfl
theorem sameB_w : ∀ (k : Nat) (d : D), D.plain k d = true → ∀ (s s' : Sh) {Q : DV → List (Sh × D) → Prop} {X : Exn → List (Sh × D) → Prop}, (∀ s s', Q (.sh .im, .bl true) [(s, d), (s', d)]) → wF (dp_sameB (k + 1)) Q X [(s, d), (s', d)] := by
  intro k
  induction k with
  | zero =>
    intro d hd s s' Q X h
    unfold dp_sameB; rw [wF_fn_z]; unfold bp_sameB
    cases d <;> simp [D.plain] at hd
    · refine seq_take (by simp [isOp, isD]) ?_
      simp [isOp, isD]; exact h _ _
    · rename_i b
      cases b
      · refine seq_take (by simp [isOp, isD]) ?_
        simp [isOp, isD]; exact h _ _
      · refine seq_take (by simp [isOp, isD]) ?_
        simp [isOp, isD]; exact h _ _
    · refine seq_skip (by simp [isOp, isD]) ?_
      refine seq_take (by simp [isiOp, tyName, isiB]) ?_
      simp [isiOp, tyName, isiB]; exact h _ _
    · refine seq_skip (by simp [isOp, isD]) ?_
      refine seq_skip (by simp [isiOp, tyName, isiB]) ?_
      refine seq_take (by simp [isiOp, tyName, isiB]) ?_
      simp [isiOp, tyName, isiB]; exact h _ _
  | succ k ih =>
    intro d hd s s' Q X h
    unfold dp_sameB; rw [wF_fn_z]; unfold bp_sameB
    cases d with
    | non =>
      refine seq_take (by simp [isOp, isD]) ?_
      simp [isOp, isD]; exact h _ _
    | bl b =>
      cases b
      · refine seq_take (by simp [isOp, isD]) ?_
        simp [isOp, isD]; exact h _ _
      · refine seq_take (by simp [isOp, isD]) ?_
        simp [isOp, isD]; exact h _ _
    | int i =>
      refine seq_skip (by simp [isOp, isD]) ?_
      refine seq_take (by simp [isiOp, tyName, isiB]) ?_
      simp [isiOp, tyName, isiB]; exact h _ _
    | str x =>
      refine seq_skip (by simp [isOp, isD]) ?_
      refine seq_skip (by simp [isiOp, tyName, isiB]) ?_
      refine seq_take (by simp [isiOp, tyName, isiB]) ?_
      simp [isiOp, tyName, isiB]; exact h _ _
    | lst xs =>
      simp [D.plain] at hd
      refine seq_skip (by simp [isOp, isD]) ?_
      refine seq_skip (by simp [isiOp, tyName, isiB]) ?_
      refine seq_skip (by simp [isiOp, tyName, isiB]) ?_
      refine seq_skip (by simp [isiOp, tyName, isiB]) ?_
      refine seq_skip (by simp [isiOp, tyName, isiB]) ?_
      refine seq_skip (by simp [isiOp, tyName, isiB]) ?_
      refine seq_skip (by simp) ?_
      have hl : xs.length ≤ 16777216 := hd.1
      simp
      refine ⟨rngOk_n (by omega), ?_⟩
      refine loop_inv (I := fun _ ρ => ∃ s s' x, ρ = [some (s, .lst xs), some (s', .lst xs), x, none]) ⟨s, s', none, rfl⟩ ?_ ?_
      · intro j d ρ hj hI
        obtain ⟨s, s', x, rfl⟩ := hI
        obtain ⟨h1, rfl⟩ := rangeD_get hj
        have h2 : xs[j]? = some xs[j] := by simp [h1]
        simp [atI_n h2]
        refine ih _ (plains_mem hd.2 (List.getElem_mem h1)) .im .im fun s s' => ?_
        simp
      · intro ρ hI
        obtain ⟨s, s', x, rfl⟩ := hI
        simp
        exact h _ _
    | tup xs =>
      simp [D.plain] at hd
      refine seq_skip (by simp [isOp, isD]) ?_
      refine seq_skip (by simp [isiOp, tyName, isiB]) ?_
      refine seq_skip (by simp [isiOp, tyName, isiB]) ?_
      refine seq_skip (by simp [isiOp, tyName, isiB]) ?_
      refine seq_skip (by simp [isiOp, tyName, isiB]) ?_
      refine seq_skip (by simp [isiOp, tyName, isiB]) ?_
      refine seq_skip (by simp) ?_
      have hl : xs.length ≤ 16777216 := hd.1
      simp
      refine ⟨rngOk_n (by omega), ?_⟩
      refine loop_inv (I := fun _ ρ => ∃ s s' x, ρ = [some (s, .tup xs), some (s', .tup xs), x, none]) ⟨s, s', none, rfl⟩ ?_ ?_
      · intro j d ρ hj hI
        obtain ⟨s, s', x, rfl⟩ := hI
        obtain ⟨h1, rfl⟩ := rangeD_get hj
        have h2 : xs[j]? = some xs[j] := by simp [h1]
        simp [atI_n h2]
        refine ih _ (plains_mem hd.2 (List.getElem_mem h1)) .im .im fun s s' => ?_
        simp
      · intro ρ hI
        obtain ⟨s, s', x, rfl⟩ := hI
        simp
        exact h _ _
    | _ => simp [D.plain] at hd
end Den

/-! Methods, constants of a module, parts taken from the back, texts. -/
namespace Den
open PySem PySem.Spec PyProof.Rows L2
section
variable {α β γ δ : Type} {K : PySem.W.Frag} {mg : Str → Option Value} {W : WX} {A : List Nat} {rel : RelT α β} {rel' : RelT γ δ} {pu pa pb pc pd : Bool} {R R' R1 H H' H1 : Hp} {F F1 G : List Addr} {ρ ρ1 : Rho} {σ σ1 : L2.St} {Q : VK} {d : D} {ds : List D} {vs : List V} {p : Addr} {T : Ends} {X : Cx}
/-! ### a method of what is built in -/
def dMeth (pb : Bool) (k : D → Bool) (op : D → List D → Option OR) (da : Den DV) (das : Den (List DV)) : Den DV := dBind da fun a => if (!k a.2 || (isBo a && !pb)) = true then dFail else dBind das fun as => dLift (op a.2 (as.map (·.2))) fun o => if (!o.lent && (isBo a || as.any isBo)) = true then dFail else dRet o.val
def MethX (K : PySem.W.Frag) (op : D → List D → Option OR) (r : V → List V → Hp → VK → Prop) : Prop := ∀ d ds o v vs R H Q, op d ds = some o → Sub R H → At K (if o.lent = true then H else R) v d → AtAll K (if o.lent = true then H else R) vs ds → o.okS = true ∧ (o.wants K R H Q → r v vs H Q)
theorem AtAll.mono' (g : Sub R H) (h : AtAll K R vs ds) : AtAll K H vs ds := h.mono g
def tPM (P : V → Hp → Prop) (r : V → List V → Hp → VK → Prop) (te : TE) (ta : TA) : TE := fun σ H Q => te σ H fun x H1 => P x H1 ∧ ta σ H1 fun xs H2 => r x xs H2 Q
theorem meth_okP {P : V → Hp → Prop} {k : D → Bool} {op : D → List D → Option OR} {r : V → List V → Hp → VK → Prop} {da : Den DV} {das : Den (List DV)} (hk : ∀ H v d, k d = true → At K H v d → P v H) (hr : MethX K op r) (h : tE K mg W (pa && pb) (dMeth pb k op da das) σ H Q) :
    tPM P r (tE K mg W pa da) (tA K mg W pb das) σ H Q := by
  obtain ⟨ρ, R, F, res, hS, hden, hQ⟩ := h
  refine tG_bind hS hden hQ fun ρ1 a v H1 R1 F1 G1 e st q n s p => ?_
  split at e
  · cases e
  rename_i hc
  rw [Bool.or_eq_true, not_or] at hc
  have hka : k a.2 = true := by simpa using hc.1
  have hga : isBo a = true → pb = true := fun z => by
    cases hb : pb with
    | true => rfl
    | false => exact absurd (by rw [z, hb]; rfl) hc.2
  refine ⟨hk H1 v a.2 hka (q.at st.sub), ?_⟩
  have sl : Step R H F R1 H1 F1 := s.less fun x hx => List.mem_append_left _ hx
  have hQ1 := hQ.step sl fun z => p (Bool.and_eq_true_iff.mp z).1
  refine tG_bind st e hQ1 fun ρ2 as us H2 R2 F2 G2 e2 st2 q2 n2 s2 p2 => ?_
  obtain ⟨v2, hd⟩ := Frm.vok.behind q n s2 fun z => p2 (hga z)
  have nn : (F2 ++ (G1 ++ G2)).Nodup := by
    rw [List.nodup_append] at n n2 ⊢
    obtain ⟨a1, a2, a3⟩ := n
    obtain ⟨b1, b2, b3⟩ := n2
    refine ⟨b1, List.nodup_append.mpr ⟨a2, b2, fun x hx y hy => ?_⟩, fun x hx y hy => ?_⟩
    · rintro rfl; exact hd x hx (List.mem_append_right _ hy)
    · rcases List.mem_append.mp hy with hy | hy
      · rintro rfl; exact hd x hy (List.mem_append_left _ hx)
      · exact b3 x hx y hy
  have s12 : Step R H F R2 H2 (F2 ++ (G1 ++ G2)) := by
    refine ⟨(sl.trans s2).keep, (sl.trans s2).grow, (sl.trans s2).rnew, fun x hx => ?_, (sl.trans s2).there⟩
    rcases List.mem_append.mp hx with hx | hx
    · exact (sl.trans s2).fnew x (List.mem_append_left _ hx)
    · rcases List.mem_append.mp hx with hx | hx
      · exact s.fnew x (List.mem_append_right _ hx)
      · exact (sl.trans s2).fnew x (List.mem_append_right _ hx)
  have hQ2 := hQ.step s12 fun z => (p (Bool.and_eq_true_iff.mp z).1).trans (p2 (Bool.and_eq_true_iff.mp z).2)
  unfold dLift at e2
  split at e2
  · cases e2
  · rename_i o e1
    dsimp only at e2
    split at e2
    · cases e2
    · rename_i hb
      cases e2
      cases hl : o.lent with
      | true =>
        have hx := hr _ _ o v us R2 H2 Q e1 st2.sub (by rw [if_pos hl]; exact v2.at st2.sub) (by rw [if_pos hl]; exact q2.at st2.sub)
        exact hx.2 ((hQ2.step (.less .refl fun x hx => List.mem_append_left _ hx) fun _ => .refl).or st2 hx.1)
      | false =>
        rw [hl] at hb
        simp only [Bool.not_false, Bool.true_and, Bool.or_eq_true, not_or] at hb
        have st' := st2.freeze (nd_out nn)
        have q' := (v2.freeze st2.sub (not_bo (ff_of hb.1))).mono (ext_mono (G2 := G1 ++ G2) st2.sub fun x hx => List.mem_append_left _ hx)
        have q2' := q2.freeze (G := G1 ++ G2) st2.sub (fun x hx => List.mem_append_right _ hx) (ff_of hb.2)
        have hx := hr _ _ o v us (ext R2 H2 (G1 ++ G2)) H2 Q e1 st'.sub (by rw [hl]; exact q') (by rw [hl]; exact q2')
        exact hx.2 ((hQ2.step (.freeze st2.sub) fun _ => .refl).or st' hx.1)
theorem meth_ok {T : String} {k : D → Bool} {op : D → List D → Option OR} {r : V → List V → Hp → VK → Prop} {da : Den DV} {das : Den (List DV)} (hk : ∀ H v d, k d = true → At K H v d → tyV K T v H) (hr : MethX K op r) (h : tE K mg W (pa && pb) (dMeth pb k op da das) σ H Q) :
    tBM K T r (tE K mg W pa da) (tA K mg W pb das) σ H Q := meth_okP (P := fun x H => tyV K T x H) hk hr h
def isS : D → Bool
  | .str _ => true
  | _ => false
def isL : D → Bool
  | .lst _ => true
  | _ => false
theorem ty_S : ∀ H v d, isS d = true → At K H v d → tyV K "str" v H := fun H v d h q => by
  cases q <;> first | rfl | cases h
theorem ty_L : ∀ H v d, isL d = true → At K H v d → tyV K "list" v H := fun H v d h q => by
  cases q with
  | lst h1 h2 => exact .inl ⟨rfl, _, h1⟩
  | _ => cases h
/-! ### texts -/
def strsOf : List D → Option (List Str)
  | [] => some []
  | .str i :: ds => (strsOf ds).map (i :: ·)
  | _ => none
theorem strs_at : ∀ {ds : List D} {ns : List Str} {vs : List V}, strsOf ds = some ns → AtAll K R vs ds → vs = ns.map V.str
  | [], _, _, e, h => by cases e; cases h; rfl
  | d :: ds, ns, _, e, h => by
    cases h with | cons h1 h2 =>
    cases d with
    | str i =>
      obtain ⟨ms, e1, rfl⟩ := Option.map_eq_some_iff.mp (show (strsOf ds).map (i :: ·) = some ns from e)
      cases h1
      rw [strs_at e1 h2]; rfl
    | _ => cases e
def joinOp : D → List D → Option OR
  | .str a, [.lst ds] => (match strsOf ds with
    | some ys => if (ys.map (·.length)).sum + ys.length * a.length ≤ 16777216 then some (.s (.str (Txt.join a ys))) else none
    | none => none)
  | _, _ => none
theorem mx_join : MethX K joinOp (fun x xs H Q => ∃ a p, ∃ ys : List Str, x = .str a ∧ xs = [.ref p] ∧ (SqL K H p (ys.map V.str) ∨ SqT K H p (ys.map V.str)) ∧ (ys.map (·.length)).sum + ys.length * a.length ≤ 16777216 ∧ Q (.str (Txt.join a ys)) H) := by
  intro d ds o v vs R H Q ho hs hv hu
  unfold joinOp at ho
  split at ho
  · split at ho
    · rename_i ys e1
      split at ho
      · rename_i hz
        cases ho
        cases hv
        cases hu with | cons h1 h2 => cases h2; cases h1 with | lst a b =>
        exact ⟨rfl, fun w => ⟨_, _, ys, rfl, rfl, .inl (by rw [← strs_at e1 b]; exact a), hz, w.2⟩⟩
      · cases ho
    · cases ho
  · cases ho
def zfillOp : D → List D → Option OR
  | .str a, [.int i] => if PadOk i = true then some (.s (.str (Txt.zfill a i))) else none
  | _, _ => none
theorem mx_zfill : MethX K zfillOp (fun x xs H Q => ∃ (a : Str) (i : Int), x = .str a ∧ xs = [.int i] ∧ PadOk i = true ∧ Q (.str (Txt.zfill a i)) H) := by
  intro d ds o v vs R H Q ho hs hv hu
  unfold zfillOp at ho
  split at ho
  · split at ho
    · rename_i hz
      cases ho
      cases hv
      cases hu with | cons h1 h2 =>
      cases h2; cases h1
      exact ⟨rfl, fun w => ⟨_, _, rfl, rfl, hz, w.2⟩⟩
    · cases ho
  · cases ho
/-! ### the place of what is there -/
def firstD (d : D) : List D → Option Nat
  | [] => none
  | e :: es => if D.beq e d = true then some 0 else (firstD d es).map (· + 1)
def indexOp : D → List D → Option OR
  | .lst ds, [d] => if (D.shp 60 d && D.shps 60 ds) = true then (firstD d ds).map fun j => .s (.int (j : Nat)) else none
  | _, _ => none
theorem firstD_ok {n m : Nat} {d : D} (h : D.shp n d = true) : ∀ {ds : List D} {j : Nat}, D.shps m ds = true → firstD d ds = some j → ∃ z, (D.pys ds)[j]? = some z ∧ PyData.eqv z (D.py d) = true ∧ ∀ (k : Nat) (z' : PyData), k < j → (D.pys ds)[k]? = some z' → PyData.eqv z' (D.py d) = false
  | [], _, _, e => by cases e
  | x :: ds, j, hs, e => by
    have a : D.shp m x = true ∧ D.shps m ds = true := by simpa only [D.shps, Bool.and_eq_true] using hs
    unfold firstD at e
    split at e
    · rename_i hb
      cases e
      exact ⟨D.py x, rfl, by rw [D.eqv_beq a.1 h]; exact hb, fun k z' hk => absurd hk (Nat.not_lt_zero _)⟩
    · rename_i hb
      obtain ⟨j', e1, rfl⟩ := Option.map_eq_some_iff.mp e
      obtain ⟨z, h1, h2, h3⟩ := firstD_ok h a.2 e1
      refine ⟨z, h1, h2, fun k z' hk hz => ?_⟩
      cases k with
      | zero =>
        cases hz
        rw [D.eqv_beq a.1 h]; exact ff_of hb
      | succ k => exact h3 k z' (by omega) hz
theorem mx_index : MethX K indexOp (rIndexD K) := by
  intro d ds o v vs R H Q ho hs hv hu
  unfold indexOp at ho
  split at ho
  · rename_i xs d
    split at ho
    · rename_i c
      obtain ⟨j, e1, rfl⟩ := Option.map_eq_some_iff.mp ho
      rw [Bool.and_eq_true] at c
      cases hu with | cons h1 h2 =>
      cases h2
      have c2 := shp_lst c.2
      obtain ⟨z, g1, g2, g3⟩ := firstD_ok c.1 c.2 e1
      have hv2 := (D.shp_ok c2).2.2 hv
      cases hv with | lst a b =>
      exact ⟨rfl, fun w => ⟨_, _, D.py d, _, j, z, rfl, rfl, hv2, (D.shp_ok c.1).2.2 h1, D.shaped (by decide) c2, D.shaped (by decide) c.1, g1, g2, g3, w.2⟩⟩
    · cases ho
  · cases ho

/-! ### all of it, from the back -/
def revOp : D → Option OR
  | .lst ds => some (.l ds.reverse)
  | .tup ds => some (.a (.tup ds.reverse))
  | .str z => if z.length ≤ sizeLine then some (.s (.str ⟨z.cps.reverse⟩)) else none
  | _ => none
def rRevA (K : PySem.W.Frag) : V → Hp → VK → Prop := fun x H Q => (∃ a xs, x = .ref a ∧ SqL K H a xs ∧ ∀ p, H p = none → Q (.ref p) (upd H p (.lst xs.reverse))) ∨
  (∃ a xs, x = .ref a ∧ SqT K H a xs ∧ ∀ p, H p = none → Q (.ref p) (upd H p (.tup xs.reverse))) ∨ ∃ z, x = .str z ∧ z.length ≤ sizeLine ∧ Q (.str ⟨z.cps.reverse⟩) H
theorem AtAll.reverse : ∀ {vs : List V} {ds : List D}, AtAll K R vs ds → AtAll K R vs.reverse ds.reverse
  | _, _, .nil => .nil
  | _, _, .cons r t => by rw [List.reverse_cons, List.reverse_cons]; exact (AtAll.reverse t).append (.cons r .nil)
theorem ux_rev : UnX K revOp (rRevA K) := by
  intro d o v R H Q ho hs hv
  unfold revOp at ho
  split at ho
  · cases ho; cases hv with | lst a b =>
    exact ⟨rfl, fun w => .inl ⟨_, _, rfl, hs.sqL a, fun p hp => w _ p b.reverse hp⟩⟩
  · cases ho; cases hv with | tup a b =>
    exact ⟨rfl, fun w => .inr (.inl ⟨_, _, rfl, hs.sqT a, fun p hp => w.2 _ _ p rfl b.reverse hp⟩)⟩
  · split at ho
    · cases ho; cases hv
      exact ⟨rfl, fun w => .inr (.inr ⟨_, rfl, by assumption, w.2⟩)⟩
    · cases ho
  · cases ho
section
variable {prog : Program} {w : World} {A : Around} {E : Value → Shared → Prop} {s : Shared}
theorem sliceApplied_rev {sl : Addr} {vl vu vk : Value} {n : Nat} {Q : Int × Int × Nat → Shared → Prop} (hs : s.heap.IsSliceOf sl vl vu vk) (pl : IsPart vl none) (pu : IsPart vu none) (pk : IsPart vk (some (-1)))
    (h : Q ((n : Int) - 1, -1, n) s) : wpAny (model prog w) A (Builtin.Slice.sliceApplied (.ref sl) (pure (n : Int))) Q E s := by
  obtain ⟨os, hos, hcs, hds⟩ := id hs
  unfold Builtin.Slice.sliceApplied Builtin.Slice.sliceFields
  refine wpAny_bind (wpAny_bind (wpAny_field hos hds (x := vl) rfl (wpAny_bind (wpAny_field hos hds (x := vu) rfl (wpAny_bind (wpAny_field hos hds (x := vk) rfl (wpAny_pure ?_)))))))
  refine wpAny_bind (HT.slicePart_ pk ?_)
  show wpAny _ _ (if ((-1 : Int) == 0) = true then _ else _) _ _ s
  rw [if_neg (by decide)]
  refine wpAny_bind (HT.slicePart_ pl (wpAny_bind (HT.slicePart_ pu (wpAny_bind (wpAny_pure ?_)))))
  show wpAny _ _ (pure ((n : Int) - 1, (-1 : Int), Builtin.Slice.slicePlaces ((n : Int) - 1) (-1) (-1))) _ _ s
  have e : Builtin.Slice.slicePlaces ((n : Int) - 1) (-1) (-1) = n := by
    unfold Builtin.Slice.slicePlaces
    rw [if_neg (by decide), show (- -1 : Int) = 1 by decide, Int.ediv_one]
    split <;> omega
  rw [e]
  exact wpAny_pure h
theorem pick_rev (xs : Array Value) : ((List.range xs.size).filterMap fun (m : Nat) => xs[(((xs.size : Int) - 1) + (m : Int) * (-1)).toNat]?).toArray = xs.toList.reverse.toArray := by
  have e : (fun (m : Nat) => xs[(((xs.size : Int) - 1) + (m : Int) * (-1)).toNat]?) = (fun (k : Nat) => xs[k]?) ∘ fun (k : Nat) => (((xs.size : Int) - 1) + (k : Int) * (-1)).toNat := rfl
  rw [e, ← List.filterMap_map]
  have e2 : (List.range xs.size).map (fun (k : Nat) => (((xs.size : Int) - 1) + (k : Int) * (-1)).toNat) = (List.range xs.size).map fun k => xs.size - 1 - k := by
    apply List.map_congr_left
    intro k hk
    have := List.mem_range.1 hk
    omega
  rw [e2, PySem.W.krv_range, List.filterMap_reverse, PySem.W.krv_all]
end
theorem pe_revA {e : Expr} {te : TE} {k : Nat} {p1 p2 p3 pos : Pos} (he : PE X e te) : PE X (.Subscript e (.Slice none none (some (.UnaryOp .USub (.Constant (.int 1) k p1) p2)) p3) pos) (tUn (rRevA X.K) te) := by
  refine ⟨fun pins s σ H Q I h => ?_⟩
  refine Subscript_ (thn (he.run pins s σ H _ I h) fun v s1 ⟨x, H1, I1, r1, q1⟩ => ?_)
  have hst : PO X (some (.UnaryOp .USub (.Constant (.int 1) k p1) p2)) (tPart (tUn (rU fun i => .int (-i)) (tC (.int 1)))) := po_some (pe_un un_neg pe_int)
  refine wpAny_Slice (thn (po_none.run pins s1 σ H1 (fun o H2 => o = none ∧ H2 = H1) I1 ⟨rfl, rfl⟩) fun vl s2 ⟨l, H2, I2, pl, el, e2⟩ => ?_)
  subst el e2
  refine thn (po_none.run pins s2 σ H2 (fun o H3 => o = none ∧ H3 = H2) I2 ⟨rfl, rfl⟩) fun vu s3 ⟨u, H3, I3, pu, eu, e3⟩ => ?_
  subst eu e3
  refine thn (hst.run pins s3 σ H3 (fun o H4 => o = some (-1) ∧ H4 = H3) I3 ⟨1, rfl, -1, rfl, rfl, rfl⟩) fun vs s4 ⟨o, H4, I4, ps, eo, e4⟩ => ?_
  subst eo e4
  have I5 : Inv X pins σ H4 { s4 with heap := s4.heap.push { cls := .type "slice", data := .fields #[vl, vu, vs] } } := I4.kept (t' := s4.toks) fun b ob q => Heap.get?_push_of_some _ q
  show wpAny (model X.prog X.w) X.A (subscriptTail e (.Slice none none (some (.UnaryOp .USub (.Constant (.int 1) k p1) p2)) p3) v (.ref s4.heap.objs.size)) (EP X pins σ Q) X.xe { s4 with heap := s4.heap.push { cls := .type "slice", data := .fields #[vl, vu, vs] } }
  rcases q1 with ⟨a, xs, rfl, hx, q⟩ | ⟨a, xs, rfl, hx, q⟩ | ⟨z, rfl, hz, q⟩
  · cases r1
    obtain ⟨its, r, ht, hz⟩ := I5.list hx
    have hlen := r.length
    refine tail_any (ops := [.ref a, .ref s4.heap.objs.size]) ht.isList.typeIs (PySem.slot_list_getitem.lookup) ?_ (by with_unfolding_all rfl)
    refine wpAny_getItem_list_slice ht.isList (Heap.IsSliceOf.new _ vl vu vs) pl pu ps (by decide) ?_ (by rw [List.size_toArray]; omega)
    rw [PySem.W.krv_pick]
    refine ⟨.ref _, _, I5.laid (t' := s4.toks) (o := .lst xs.reverse) (fun b ob q => Heap.get?_push_of_some _ q) (Nat.le_refl _) ?_, rfl, q _ (I5.hok.fresh (Nat.le_refl _))⟩
    exact ⟨by rw [List.length_reverse]; exact hz, _, 0, r.reverse, Heap.get?_push_size _ rfl⟩
  · cases r1
    obtain ⟨its, r, ht, hz⟩ := I5.tuple hx
    have hlen : its.toArray.size = xs.length := by rw [List.size_toArray]; exact r.length.symm
    refine tail_any (ops := [.ref a, .ref s4.heap.objs.size]) ht.typeIs (PyProof.Rows.slot_tuple_getitem.lookup) ?_ (by with_unfolding_all rfl)
    have hs : ({ s4 with heap := s4.heap.push { cls := .type "slice", data := .fields #[vl, vu, vs] } } : Shared).heap.IsSliceOf s4.heap.objs.size vl vu vs := Heap.IsSliceOf.new _ vl vu vs
    obtain ⟨os, hos, hcs, hds⟩ := id hs
    have hTs : ({ s4 with heap := s4.heap.push { cls := .type "slice", data := .fields #[vl, vu, vs] } } : Shared).TypeIs (.ref s4.heap.objs.size) "slice" := ⟨os, hos, hcs⟩
    generalize ({ s4 with heap := s4.heap.push { cls := .type "slice", data := .fields #[vl, vu, vs] } } : Shared) = s5 at *
    unfold getItem
    try with_reducible refine wpAny_holding ?_
    first | refine wpAny_bind (wpAny_pure ?_) | skip
    refine wpAny_bind (wpAny_sequenceKey ht.typeIs (by decide) ?_)
    refine wpAny_bind (wpAny_callSpecial?_slot (name := Str.ofString "__getitem__") ht.typeIs PyProof.Rows.slot_tuple_getitem
      (wpAny_call_entry PyProof.Rows.slot_tuple_getitem ht.typeIs PyProof.Rows.entry_tuple_getitem ?_ (PyProof.Rows.args_tuple_getitem _ _)))
    show wpAny _ _ (Builtin.Tuple.tupleItemsOf (.ref a) >>= _) _ _ s5
    refine wpAny_bind (tupleItemsOf_ ht ?_)
    refine wpAny_bind (wpAny_typeOf hTs ?_)
    rw [if_pos (by decide)]
    refine wpAny_bind (sliceApplied_rev hs pl pu ps ?_)
    have hno : ¬ (((its.toArray.size : Int) - 1 == 0 && (-1 : Int) == 1 && its.toArray.size == its.toArray.size) = true) := by
      rw [show ((-1 : Int) == 1) = false by decide, Bool.and_false, Bool.false_and]; exact Bool.false_ne_true
    show wpAny _ _ (if ((its.toArray.size : Int) - 1 == 0 && (-1 : Int) == 1 && its.toArray.size == its.toArray.size) = true then _ else _) _ _ s5
    rw [if_neg hno, pick_rev]
    have fin : EP X pins σ Q (.ref s5.heap.objs.size) { s5 with heap := s5.heap.push { cls := .type "tuple", data := .seq its.toArray.toList.reverse.toArray } } := by
      refine ⟨.ref s5.heap.objs.size, _, I5.laid (t' := s5.toks) (o := .tup xs.reverse) (fun b ob q => Heap.get?_push_of_some _ q) (Nat.le_refl _) ?_, rfl, q _ (I5.hok.fresh (Nat.le_refl _))⟩
      exact ⟨by rw [List.length_reverse]; exact hz, _, r.reverse, IsTup.new _ _⟩
    have htake : its.toArray.toList.reverse.toArray.size ≤ sizeLine := by simp; rw [← r.length]; exact hz
    first
      | exact wpAny_bind (m := Builtin.Tuple.tupleExact _) (wpAny_newObj_type (wpAny_pure ⟨_, rfl, wpAny_pure fin⟩) htake)
      | exact wpAny_bind (m := Builtin.Tuple.tupleExact _) (wpAny_newObj_type (wpAny_bind (wpAny_pure (wpAny_pure ⟨_, rfl, wpAny_pure fin⟩))) htake)
      | exact wpAny_bind (wpAny_bind (m := Builtin.Tuple.tupleExact _) (wpAny_newObj_type (wpAny_pure (wpAny_pure ⟨_, rfl, wpAny_pure fin⟩)) htake))
      | exact wpAny_bind (wpAny_bind (m := Builtin.Tuple.tupleExact _) (wpAny_newObj_type (wpAny_pure ⟨_, rfl, wpAny_pure fin⟩) htake))
  · obtain ⟨t, rfl⟩ := r1
    obtain ⟨l, rfl, el⟩ := IsPart.raw pl
    obtain ⟨u, rfl, eu⟩ := IsPart.raw pu
    obtain ⟨st, rfl, est⟩ := IsPart.raw ps
    refine tail_any (ops := [.str z t, .ref s4.heap.objs.size]) (typeIs_str _ _ _) (F.slot_str_getitem.lookup) ?_ (by with_unfolding_all rfl)
    have hst1 : st.map (·.1) = some (-1) := est
    cases st with
    | none => cases hst1
    | some q =>
    obtain ⟨i, ti⟩ := q
    cases hst1
    have hl0 : l.map (·.1) = none := el
    have hu0 : u.map (·.1) = none := eu
    cases l with
    | some _ => cases hl0
    | none =>
    cases u with
    | some _ => cases hu0
    | none =>
    refine wpAny_getItem_str_slice (l := none) (u := none) (st := some (-1, ti)) ⟨_, Heap.get?_push_size _ rfl, rfl, rfl⟩ rfl ?_
    have ep : slicePicked z none none (some (-1, ti)) = (List.range z.length).map fun k => z.length - 1 - k := PySem.W.krv_sliceRange z.length
    have eq : (((List.range z.length).map fun k => z.length - 1 - k).filterMap (z.cps[·]?)).toArray = z.cps.reverse := by
      rw [PySem.W.krv_range, List.filterMap_reverse]
      have := PySem.W.krv_all z.cps
      rw [show z.cps.size = z.length from rfl] at this
      rw [this]; apply Array.ext'; simp
    unfold sliceMade
    rw [ep, eq, if_neg (by rw [show ((((some ((-1 : Int), ti)).map (·.1)).getD 1) == 1) = false from rfl, Bool.false_and]; exact Bool.false_ne_true)]
    exact ⟨by show z.cps.reverse.size ≤ sizeLine; rw [Array.size_reverse]; exact hz, .str _, H4, I5.tok _, ⟨_, rfl⟩, q⟩
theorem e_rev {a : Expr} {da : Den DV} {k : Nat} {p1 p2 p3 pos : Pos} (ha : RE X W pa a da) : RE X W pa (.Subscript a (.Slice none none (some (.UnaryOp .USub (.Constant (.int 1) k p1) p2)) p3) pos) (dUn revOp da) := (pe_revA ha).impD fun _ _ _ h => un_ok ux_rev h
/-! ### names of the module -/
theorem e_globS {x : Str} {z : Str} {t : Tok} {pos : Pos} (hg : Gl X x) (hm : X.mg x = some (.str z t)) (hd : (x == ("__debug__" : Str)) = false := by decide) : RE X W true (.Name x pos) (dC (.str z)) := (pe_glob (v := .str z) hg hm ⟨_, rfl⟩ hd).impD fun _ _ _ h => const_ok (d := .str z) rfl h
theorem e_globI {x : Str} {z : Int} {t : Tok} {pos : Pos} (hg : Gl X x) (hm : X.mg x = some (.int z t)) (hd : (x == ("__debug__" : Str)) = false := by decide) : RE X W true (.Name x pos) (dC (.int z)) := (pe_glob (v := .int z) hg hm ⟨_, rfl⟩ hd).impD fun _ _ _ h => const_ok (d := .int z) rfl h
/-! ### methods with one argument -/
theorem e_join {o e : Expr} {apos cpos : Pos} {da : Den DV} {das : Den (List DV)} (ho : RE X W pa o da) (ha : RA X W pb [e] das) (hbase : attributeBase o "join" X.env (eval o X.env) = eval o X.env := by rfl) (hline : (apos.endLine == cpos.line) = true := by rfl)
    (hfew : ((backTo cpos (starEach [e] X.env)).all (fun x => !x.1) && (backToKw cpos (keywordEach [] X.env)).all (fun x => x.1.isSome) && decide (([e] : List Expr).length + ([] : List Keyword).length + (if ([] : List Keyword).isEmpty then 0 else 1) < 30)) = true := by rfl)
    (hst : starEach [e] X.env = (false, eval e X.env) :: starEach [] X.env := by rfl) (hplain : (backTo cpos (starEach [] X.env)).any (·.1) = false := by rfl) :
    RE X W (pa && pb) (.Call (.Attribute o "join" apos) [e] [] cpos) (dMeth pb isS joinOp da das) := (pe_bm PySem.F.plainAttrs_str PySem.F.slot_str_join PySem.F.type_str_join mt_join ho ha hbase hfew hline hst hplain).impD fun _ _ _ h => meth_ok ty_S mx_join h
theorem e_zfill {o e : Expr} {apos cpos : Pos} {da : Den DV} {das : Den (List DV)} (ho : RE X W pa o da) (ha : RA X W pb [e] das) (hbase : attributeBase o "zfill" X.env (eval o X.env) = eval o X.env := by rfl) (hline : (apos.endLine == cpos.line) = true := by rfl)
    (hfew : ((backTo cpos (starEach [e] X.env)).all (fun x => !x.1) && (backToKw cpos (keywordEach [] X.env)).all (fun x => x.1.isSome) && decide (([e] : List Expr).length + ([] : List Keyword).length + (if ([] : List Keyword).isEmpty then 0 else 1) < 30)) = true := by rfl)
    (hst : starEach [e] X.env = (false, eval e X.env) :: starEach [] X.env := by rfl) (hplain : (backTo cpos (starEach [] X.env)).any (·.1) = false := by rfl) :
    RE X W (pa && pb) (.Call (.Attribute o "zfill" apos) [e] [] cpos) (dMeth pb isS zfillOp da das) := (pe_bm PySem.F.plainAttrs_str PySem.F.slot_str_zfill PySem.F.type_str_zfill mt_zfill ho ha hbase hfew hline hst hplain).impD fun _ _ _ h => meth_ok ty_S mx_zfill h
theorem e_index {o e : Expr} {apos cpos : Pos} {da : Den DV} {das : Den (List DV)} (hu : X.A.units + 65 < cLine) (ho : RE X W pa o da) (ha : RA X W pb [e] das) (hbase : attributeBase o "index" X.env (eval o X.env) = eval o X.env := by rfl) (hline : (apos.endLine == cpos.line) = true := by rfl)
    (hfew : ((backTo cpos (starEach [e] X.env)).all (fun x => !x.1) && (backToKw cpos (keywordEach [] X.env)).all (fun x => x.1.isSome) && decide (([e] : List Expr).length + ([] : List Keyword).length + (if ([] : List Keyword).isEmpty then 0 else 1) < 30)) = true := by rfl)
    (hst : starEach [e] X.env = (false, eval e X.env) :: starEach [] X.env := by rfl) (hplain : (backTo cpos (starEach [] X.env)).any (·.1) = false := by rfl) :
    RE X W (pa && pb) (.Call (.Attribute o "index" apos) [e] [] cpos) (dMeth pb isL indexOp da das) := (pe_bm PySem.F.plainAttrs_list PySem.F.slot_list_index PySem.F.type_list_index (mt_indexD hu) ho ha hbase hfew hline hst hplain).impD fun _ _ _ h => meth_ok ty_L mx_index h
/-! ### gcd -/
def gcdOp : List D → Option OR
  | [.int a, .int b] => some (.s (.int ((Nat.gcd a.natAbs b.natAbs : Nat) : Int)))
  | _ => none
theorem cx_gcd : CallX K gcdOp rGcd := by
  intro ds o vs R H Q ho hs hv
  unfold gcdOp at ho
  split at ho
  · cases ho
    cases hv with | cons h1 h2 => cases h2 with | cons h3 h4 =>
    cases h4; cases h1; cases h3
    exact ⟨rfl, fun w => ⟨_, _, rfl, w.2⟩⟩
  · cases ho
theorem e_callG {id : String} {r : List V → Hp → VK → Prop} {f : List D → Option OR} {x : Str} {p : Pos} {e : Expr} {es : List Expr} {pos : Pos} {das : Den (List DV)} (hc : CallR X (.builtin id) r) (hx : CallX X.K f r) (hg : Gl X x) (hm : X.mg x = some (.builtin id)) (ha : RA X W pa (e :: es) das) (hdb : (x == ("__debug__" : Str)) = false := by decide)
    (he : starEach (e :: es) X.env = (false, eval e X.env) :: starEach es X.env := by rfl) (hpl : (backTo pos (starEach es X.env)).any (·.1) = false := by rfl) : RE X W pa (.Call (.Name x p) (e :: es) [] pos) (dCall f das) := (pe_callBfun hc hg hm ha hdb he hpl).impD fun _ _ _ h => call_ok hx h
/-! ### texts repeated -/
def mulSOp : D → D → Option OR
  | .int i, .int j => mulOp (.int i) (.int j)
  | .str x, .int n => if 0 ≤ n ∧ n ≤ 1000 ∧ x.length ≤ 1000 then some (.s (.str (Txt.mul x n))) else none
  | _, _ => none
theorem mulOkS {x : Str} {n : Int} (h : 0 ≤ n ∧ n ≤ 1000 ∧ x.length ≤ 1000) : MulOk x n := by
  obtain ⟨h0, h1, h2⟩ := h
  refine ⟨by simp; omega, fun h3 _ h4 => ?_, fun h3 _ => ?_⟩
  · have : (1001 : Int) ≤ (2 ^ 63 - 1) / n := by
      apply Int.le_ediv_of_mul_le (by omega)
      have : 1001 * n ≤ 1001 * 1000 := by omega
      omega
    omega
  · unfold Builtin.Str.tooLong sizeLine
    have : x.length * n.toNat ≤ 1000 * 1000 := Nat.mul_le_mul h2 (by omega)
    simp; omega
def rMulS : R2 := fun x y H Q => rMul x y H Q ∨ ∃ i j, x = .str i ∧ y = .int j ∧ MulOk i j ∧ Q (.str (Txt.mul i j)) H
theorem or_mulS0 : OpR X (binaryOp .Mult) (fun x y H Q => ∃ i j, x = .str i ∧ y = .int j ∧ MulOk i j ∧ Q (.str (Txt.mul i j)) H) := by
  intro pins s σ H x y v u Q I rx ry h
  obtain ⟨i, j, rfl, rfl, hok, q⟩ := h
  obtain ⟨t, rfl⟩ := rx
  obtain ⟨t', rfl⟩ := ry
  exact PySem.SB.mul hok fun t' k => ⟨.str (Txt.mul i j), H, I.tok _, ⟨_, rfl⟩, q⟩
theorem or_mulS : OpR X (binaryOp .Mult) rMulS := or_mul.or or_mulS0
theorem ox_mulS : OpX K mulSOp rMulS := by
  intro d e o v u R H Q ho hs hv hu
  unfold mulSOp at ho
  split at ho
  · have := ox_mul _ _ _ v u R H Q ho hs hv hu
    exact ⟨this.1, fun w => .inl (this.2 w)⟩
  · split at ho
    · rename_i hz
      cases ho; cases hv; cases hu
      exact ⟨rfl, fun w => .inr ⟨_, _, rfl, rfl, mulOkS hz, w.2⟩⟩
    · cases ho
  · cases ho
theorem e_mulS {a b : Expr} {da db : Den DV} {pos : Pos} (ha : RE X W pa a da) (hb : RE X W pb b db) : RE X W (pa && pb) (.BinOp a .Mult b pos) (dBin pb mulSOp da db) := e_bin or_mulS ox_mulS ha hb
/-! ### list of a text -/
def listSOp : List D → Option OR
  | [.lst ds] => some (.l ds)
  | [.tup ds] => some (.l ds)
  | [.set ds] => some (.l ds)
  | [.str z] => if z.length ≤ sizeLine then some (.l (strItems z)) else none
  | _ => none
def rListS : List V → Hp → VK → Prop := fun xs H Q => ∃ z : Str, xs = [.str z] ∧ z.length ≤ sizeLine ∧ ∀ p, H p = none → Q (.ref p) (upd H p (.lst (z.cps.toList.map fun c => V.str ⟨#[c]⟩)))
theorem cr_listS0 (hc : X.calm = true) : CallR X (.type "list") rListS := by
  intro pins s σ H xs us Q I r h
  obtain ⟨z, rfl, hz, q⟩ := h
  obtain ⟨u, rfl, ru⟩ := vals1 r
  obtain ⟨t, rfl⟩ := ru
  refine call_list_str (I.ok.hd hc) z t (hn := hz) fun h' tk acc' c' hk hS' hacc => ?_
  refine ⟨.ref s.heap.objs.size, _, I.laid (t' := tk) (o := .lst (z.cps.toList.map fun c => V.str ⟨#[c]⟩)) hk (Nat.le_refl _) ?_, rfl, q _ (I.hok.fresh (Nat.le_refl _))⟩
  refine ⟨by rw [List.length_map]; exact hz, acc'.toList, c', ?_, by rw [hS']⟩
  have key : ∀ (l : List Nat) (vs : List Value), vs.length = l.length → (∀ (j : Nat) (v : Value), vs[j]? = some v → ∃ (c : Nat) (u : Tok), l[j]? = some c ∧ v = Value.str ⟨#[c]⟩ u) → Vals (l.map fun c => V.str ⟨#[c]⟩) vs := by
    intro l
    induction l with
    | nil => intro vs hl _; cases vs with
      | nil => exact .nil
      | cons _ _ => cases hl
    | cons c l ih => intro vs hl hv; cases vs with
      | nil => cases hl
      | cons v vs =>
        obtain ⟨c', u, h1, h2⟩ := hv 0 v rfl
        cases h1
        exact .cons ⟨u, h2⟩ (ih vs (by simpa using hl) fun j w hw => hv (j + 1) w hw)
  exact key _ _ (by simpa using hacc.1) fun j v hv => by
    obtain ⟨c, u, h1, h2⟩ := hacc.2 j v (by simpa using hv)
    exact ⟨c, u, by simpa using h1, h2⟩
def rListAS (K : PySem.W.Frag) : List V → Hp → VK → Prop := fun xs H Q => rListA K xs H Q ∨ rListS xs H Q
theorem cr_listS (hc : X.calm = true) : CallR X (.type "list") (rListAS X.K) := call_list_of.or (cr_listS0 hc)
theorem cx_listS : CallX K listSOp (rListAS K) := by
  intro ds o vs R H Q ho hs hv
  unfold listSOp at ho
  split at ho
  · rename_i ds
    have := cx_list [.lst ds] o vs R H Q ho hs hv
    exact ⟨this.1, fun w => .inl (this.2 w)⟩
  · rename_i ds
    have := cx_list [.tup ds] o vs R H Q ho hs hv
    exact ⟨this.1, fun w => .inl (this.2 w)⟩
  · rename_i ds
    have := cx_list [.set ds] o vs R H Q ho hs hv
    exact ⟨this.1, fun w => .inl (this.2 w)⟩
  · split at ho
    · rename_i hz
      cases ho
      cases hv with | cons h1 h2 =>
      cases h2; cases h1
      refine ⟨rfl, fun w => .inr ⟨_, rfl, hz, fun p hp => w _ p ?_ hp⟩⟩
      have key : ∀ l : List Nat, AtAll K R (l.map fun c => V.str ⟨#[c]⟩) (l.map fun c => D.str ⟨#[c]⟩) := fun l => by
        induction l with
        | nil => exact .nil
        | cons c l ih => exact .cons (At.str _) ih
      exact key _
    · cases ho
  · cases ho
/-! ### range with a step -/
def rangeC (a c : Int) (n : Nat) : List D := (List.range n).map fun i => .int (a + (i : Nat) * c)
theorem rangeC_len {a c : Int} {n : Nat} : (rangeC a c n).length = n := by simp [rangeC]
/-- how many turns; all ends small, the step above 0 -/
def turnsC (i j c : Int) : Option Nat := if -1000000000000 ≤ i ∧ i ≤ 1000000000000 ∧ -1000000000000 ≤ j ∧ j ≤ 1000000000000 ∧ 0 < c ∧ c ≤ 1000000 then some (if i < j then ((j - i - 1) / c + 1).toNat else 0) else none
theorem turns_ok {i j c : Int} {n : Nat} (h : turnsC i j c = some n) : RgC i j c n := by
  unfold turnsC at h
  split at h
  · rename_i hc
    obtain ⟨h1, h2, h3, h4, h5, h6⟩ := hc
    cases h
    have hd : i < j → 0 ≤ (j - i - 1) / c := fun z => Int.ediv_nonneg (by omega) (by omega)
    have hd2 : i < j → (j - i - 1) / c ≤ j - i - 1 := fun z => Int.ediv_le_self _ (by omega)
    have e : Builtin.Range.rangeSize i j c = ((if i < j then ((j - i - 1) / c + 1).toNat else 0 : Nat) : Int) := by
      unfold Builtin.Range.rangeSize
      rw [if_pos (show c > 0 from h5)]
      split
      · have := hd ‹_›; omega
      · rfl
    refine ⟨by omega, by omega, ?_, e⟩
    have hn : ((if i < j then ((j - i - 1) / c + 1).toNat else 0 : Nat) : Int) ≤ 2000000000001 := by
      split
      · have := hd ‹_›; have := hd2 ‹_›; omega
      · omega
    have hn0 : 0 ≤ ((if i < j then ((j - i - 1) / c + 1).toNat else 0 : Nat) : Int) := Int.natCast_nonneg _
    unfold Builtin.Range.small
    rw [e]
    generalize ((if i < j then ((j - i - 1) / c + 1).toNat else 0 : Nat) : Int) = n at hn hn0
    simp only [Builtin.Range.rangeFitsLong, Bool.and_eq_true, Bool.or_eq_true, decide_eq_true_eq, beq_iff_eq, show c > 0 from h5, if_true]
    omega
  · cases h
def rng3Of : List D → Option (List D)
  | [.int i, .int j, .int c] => (turnsC i j c).map fun n => rangeC i c n
  | _ => none
theorem feeds_rangeC {lo c : Int} {n : Nat} : Feeds K (Itc lo c n) R (rangeC lo c n) where
  stop := fun H i s hi => by rw [rangeC_len] at hi; exact hi
  go := fun H i s hi => by rw [rangeC_len] at hi; exact hi
  yld := fun H i x H' s hi y => by
    rw [rangeC_len] at hi
    obtain ⟨e, f⟩ := y
    exact ⟨.int (lo + i * c), by simp [rangeC, List.getElem?_map, List.getElem?_range hi], .inl ⟨e, by rw [f]; exact .int _⟩⟩
def dRange3 (da : Den (List DV)) : Den (List D) := dBind da fun as => dLift (rng3Of (as.map (·.2))) dRet
theorem range3_ok {da : Den (List DV)} {Q : It → Hp → Prop} (h : tI K mg W pa (dRange3 da) σ H Q) : iRng3 (tA K mg W pa da) σ H Q := by
  obtain ⟨ρ, R, F, res, hS, hden, hQ⟩ := h
  refine tG_bind hS hden hQ fun ρ1 a v H1 R1 F1 G1 e st q n s p => ?_
  obtain ⟨ds, e1, e2⟩ := lift_some e
  have qa := q.at st.sub
  unfold rng3Of at e1
  split at e1
  · rename_i i j c ej
    obtain ⟨n, e3, rfl⟩ := Option.map_eq_some_iff.mp e1
    cases e2
    rw [ej] at qa
    cases qa with | cons h1 h2 => cases h2 with | cons h3 h4 => cases h4 with | cons h5 h6 =>
    cases h6; cases h1; cases h3; cases h5
    exact ⟨i, j, c, n, rfl, turns_ok e3, (hQ.step s p).drop.ri st feeds_rangeC⟩
  · cases e1
theorem i_range3 {tg a b c : Expr} {p pos : Pos} {das : Den (List DV)} (hg : Gl X "range") (hm : X.mg "range" = none) (ha : RA X W pa [a, b, c] das) (hs : starEach [a, b, c] X.env = (false, eval a X.env) :: starEach [b, c] X.env := by rfl) (hpl : (backTo pos (starEach [b, c] X.env)).any (·.1) = false := by rfl) :
    RIt X W pa tg (.Call (.Name "range" p) [a, b, c] [] pos) (dRange3 das) := PI.imp (pi_range3 hg hm ha hs hpl) fun _ _ _ h => range3_ok h
/-! ### the place of a text in a text that has it -/
def sindexOp : D → List D → Option OR
  | .str a, [.str b] => (Txt.index0 a b).map fun k => .s (.int (k : Nat))
  | _, _ => none
theorem mx_sindex {σ : L2.St} : MethX K sindexOp (rIndexX W σ) := by
  intro d ds o v vs R H Q ho hs hv hu
  unfold sindexOp at ho
  split at ho
  · obtain ⟨k, e1, rfl⟩ := Option.map_eq_some_iff.mp ho
    cases hv
    cases hu with | cons h1 h2 =>
    cases h2; cases h1
    exact ⟨rfl, fun w => ⟨_, _, rfl, rfl, fun k' e => by rw [e1] at e; cases e; exact w.2, fun e => by rw [e1] at e; cases e⟩⟩
  · cases ho
theorem e_sindex {o e : Expr} {apos cpos : Pos} {da : Den DV} {das : Den (List DV)} (hc : X.calm = true) (tk : Takes X W) (ho : RE X W pa o da) (ha : RA X W pb [e] das) (hbase : attributeBase o "index" X.env (eval o X.env) = eval o X.env := by rfl) (hline : (apos.endLine == cpos.line) = true := by rfl)
    (hfew : ((backTo cpos (starEach [e] X.env)).all (fun x => !x.1) && (backToKw cpos (keywordEach [] X.env)).all (fun x => x.1.isSome) && decide (([e] : List Expr).length + ([] : List Keyword).length + (if ([] : List Keyword).isEmpty then 0 else 1) < 30)) = true := by rfl)
    (hst : starEach [e] X.env = (false, eval e X.env) :: starEach [] X.env := by rfl) (hplain : (backTo cpos (starEach [] X.env)).any (·.1) = false := by rfl) :
    RE X W (pa && pb) (.Call (.Attribute o "index" apos) [e] [] cpos) (dMeth pb isS sindexOp da das) := (pe_bmS PySem.F.plainAttrs_str PySem.F.slot_str_index PySem.F.type_str_index (mt_indexX hc tk) ho ha hbase hfew hline hst hplain).impD fun σ _ _ h => meth_ok (r := rIndexX W σ) ty_S mx_sindex h
end
section
variable {X : Cx} {W : WX}
theorem pe_callS0 {CX : CXT} {k : Nat} {f : Addr} {fd : FuncData} {ps : List Str} {sp : Sp} {E : L2.St → XK} {x : Str} {p pos : Pos} (F : FnOk X.prog X.w X.K X.mg X.base CX k f fd ps sp) (hr : Room k X.A) (hg : Gl X x) (hm : X.mg x = some (.ref f)) (hk : PySem.W.keepIn X.K (.ref f) = true) (hb : L2.Binds X.K fd ps []) (hx : ∀ σ, PassesAt CX X σ (E σ))
    (hdb : (x == ("__debug__" : Str)) = false := by decide) : PE X (.Call (.Name x p) [] [] pos) (tCallS sp E tNil) := by
  refine ⟨fun pins s σ H Q I h => ?_⟩
  refine wpAny_Call_Name_kw (ld_glob I hg hm ?_ hdb)
  exact PySem.W.callWith_K0 I.kIn hk (run_fnS (us := []) F hr hb (hx σ) I .nil h)
theorem e_call0 {k n : Nat} {f : Addr} {fd : FuncData} {ps : List Str} {fden : FDen} {x : Str} {p pos : Pos} (F : FnOk X.prog X.w X.K X.mg X.base (L2.CX X.prog X.w) k f fd ps (SpD X.K X.mg n fden)) (tk : Takes X W) (hr : Room k X.A) (hg : Gl X x) (hm : X.mg x = some (.ref f)) (hk : PySem.W.keepIn X.K (.ref f) = true) (hb : L2.Binds X.K fd ps [])
    (hdb : (x == ("__debug__" : Str)) = false := by decide) : RE X W false (.Call (.Name x p) [] [] pos) (dCallF n fden dAsNil) := (pe_callS0 F hr hg hm hk hb (fun σ => passAt tk σ) hdb).impD fun _ _ _ h => asNil_ok (callF_ok h)
end
/-! what is wanted of these -/
section
variable {Q : Rho → DV → Prop} {X : Rho → Exn → Prop} {ρ : Rho}
theorem uE_meth {pb : Bool} {k : D → Bool} {op : D → List D → Option OR} {da : Den DV} {das : Den (List DV)} : uE (dMeth pb k op da das) Q X ρ = uE da (fun ρ a => k a.2 = true ∧ (isBo a && !pb) = false ∧ uE das (fun ρ as => wO (op a.2 (as.map (·.2))) fun o => (!o.lent && (isBo a || !noBo as)) = false ∧ Q ρ o.val) X ρ) X ρ := by
  simp only [← noBo_eq]
  unfold dMeth; rw [uE_bind]; congr 1; funext ρ a
  rw [uE_ite]; split
  · rename_i h
    rw [Bool.or_eq_true] at h
    rcases h with h | h
    · simp at h; simp [h]
    · simp [h]
  · rename_i h
    rw [Bool.or_eq_true, not_or] at h
    have h1 : k a.2 = true := by simpa using h.1
    rw [eq_true h1, true_and, eq_true (Bool.eq_false_iff.2 h.2), true_and, uE_bind]; congr 1; funext ρ as; rw [uE_lift]; congr 1; funext o
    rw [uE_ite]; split
    · rename_i h; simp [h]
    · rename_i h; rw [eq_true (Bool.eq_false_iff.2 h), true_and]; rfl
@[simp ↓] theorem wE_meth_z {pb : Bool} {k : D → Bool} {op : D → List D → Option OR} {da : Den DV} {das : Den (List DV)} : wE (dMeth pb k op da das) Q X ρ = wE da (Lz (tgz fun ρ a => k a.2 = true ∧ (isBo a && !pb) = false ∧ wE das (Lz (tgz fun ρ as => wO (op a.2 (as.map (·.2))) (Lz (tgz fun o => (!o.lent && (isBo a || !noBo as)) = false ∧ Q ρ o.val)))) X ρ)) X ρ := by
  rewrite [feE]; exact uE_meth
@[simp ↓] theorem wE_range3_z {da : Den (List DV)} {Q : Rho → List D → Prop} : wE (dRange3 da) Q X ρ = wE da (Lz (tgz fun ρ as => wO (rng3Of (as.map (·.2))) (Q ρ))) X ρ := by
  rewrite [feE]; unfold dRange3; rw [uE_bind]; congr 1; funext ρ a; rw [uE_lift]; rfl
@[simp] theorem rev_l {xs : List D} : revOp (.lst xs) = some (.l xs.reverse) := id rfl
@[simp] theorem rev_t {xs : List D} : revOp (.tup xs) = some (.a (.tup xs.reverse)) := id rfl
@[simp] theorem isS_s {z : Str} : isS (.str z) = true := id rfl
@[simp] theorem isL_l {xs : List D} : isL (.lst xs) = true := id rfl
@[simp] theorem listS_l {xs : List D} : listSOp [.lst xs] = some (.l xs) := id rfl
@[simp] theorem listS_t {xs : List D} : listSOp [.tup xs] = some (.l xs) := id rfl
@[simp] theorem listS_s {z : Str} : listSOp [.str z] = if z.length ≤ sizeLine then some (.l (strItems z)) else none := id rfl
@[simp] theorem mulS_ii {i j : Int} : mulSOp (.int i) (.int j) = if mulOk i j = true then some (.s (.int (i * j))) else none := mul_ii
@[simp] theorem mulS_si {z : Str} {n : Int} : mulSOp (.str z) (.int n) = if 0 ≤ n ∧ n ≤ 1000 ∧ z.length ≤ 1000 then some (.s (.str (Txt.mul z n))) else none := id rfl
@[simp] theorem items_s {z : Str} : itemsOf (.str z) = some (strItems z) := id rfl
@[simp] theorem gcd_ii {i j : Int} : gcdOp [.int i, .int j] = some (.s (.int ((Nat.gcd i.natAbs j.natAbs : Nat) : Int))) := id rfl
end
theorem giveAs_valT {a : DV} {as : List Den.Arg} {os : List (Sh × D)} {ρ : Rho} : giveAs (.val a :: as) os ρ = giveAs as os.tail ρ := by
  cases os with
  | nil => cases as with
    | nil => rfl
    | cons b bs => cases b <;> rfl
  | cons o os => rfl
end Den

set_option maxHeartbeats 1000000
namespace Den
open PySem PySem.Spec PyProof.Rows L2
def bp_sameC (den : FDen) : DenS :=
  (sSeq (sIf (dTruth (dCall isiOp (dCons true (dVar 1) (dCons true (dC (.ty "dict")) dNil)))) (sSeq (sIf (dOr (dNot (dTruth (dCall isiOp (dCons true (dVar 0) (dCons true (dC (.ty "dict")) dNil))))) (dTst (dBin true neOp (dCall lenOp (dCons true (dVar 0) dNil)) (dCall lenOp (dCons true (dVar 1) dNil))))) (sRet (dC (.bl false))) sNil) (sRet (dCall allOp (dCons true (dComp [2] .im (dItems (dVarF 1)) (gSet 2) (dRet true) (dAndV (dBin true inOp (dVar 2) (dVar 0)) (dCallF 2 den (dAsC true (dIdx true (dVarF 0) (dVar 2)) (dAsC true (dIdx true (dVarF 1) (dVar 2)) dAsNil))))) dNil)))) sNil) (sSeq (sIf (dOr (dTruth (dCall isiOp (dCons true (dVar 1) (dCons true (dC (.ty "list")) dNil)))) (dTruth (dCall isiOp (dCons true (dVar 1) (dCons true (dC (.ty "tuple")) dNil))))) (sSeq (sIf (dOr (dTst (dBin true neOp (dCall isiOp (dCons true (dVar 1) (dCons true (dC (.ty "list")) dNil))) (dCall isiOp (dCons true (dVar 0) (dCons true (dC (.ty "list")) dNil))))) (dTst (dBin true neOp (dCall isiOp (dCons true (dVar 1) (dCons true (dC (.ty "tuple")) dNil))) (dCall isiOp (dCons true (dVar 0) (dCons true (dC (.ty "tuple")) dNil)))))) (sRet (dC (.bl false))) sNil) (sRet (dAndV (dBin true eqOp (dCall lenOp (dCons true (dVar 0) dNil)) (dCall lenOp (dCons true (dVar 1) dNil))) (dCall allOp (dCons true (dComp [3] .im (dRange (dCons true (dCall lenOp (dCons true (dVar 1) dNil)) dNil)) (gSet 3) (dRet true) (dCallF 2 den (dAsC true (dIdx true (dVarF 0) (dVar 3)) (dAsC true (dIdx true (dVarF 1) (dVar 3)) dAsNil)))) dNil))))) sNil) (sSeq (sIf (dTruth (dCall isiOp (dCons true (dVar 1) (dCons true (dC (.ty "str")) dNil)))) (sRet (dAndV (dCall isiOp (dCons true (dVar 0) (dCons true (dC (.ty "str")) dNil))) (dBin true eqOp (dVar 0) (dVar 1)))) sNil) (sSeq (sIf (dOr (dTst (dBin true isOp (dVar 1) (dC .non))) (dOr (dTst (dBin true isOp (dVar 1) (dC (.bl true)))) (dTst (dBin true isOp (dVar 1) (dC (.bl false)))))) (sRet (dOrV (dAndV (dBin true isOp (dVar 1) (dC .non)) (dBin true isOp (dVar 0) (dC .non))) (dOrV (dAndV (dBin true isOp (dVar 1) (dC (.bl true))) (dBin true isOp (dVar 0) (dC (.bl true)))) (dAndV (dBin true isOp (dVar 1) (dC (.bl false))) (dBin true isOp (dVar 0) (dC (.bl false))))))) sNil) (sRet (dAndV (dCall isiOp (dCons true (dVar 0) (dCons true (dC (.ty "int")) dNil))) (dAndV (dNotV (dCall isiOp (dCons true (dVar 0) (dCons true (dC (.ty "bool")) dNil)))) (dBin true eqOp (dVar 0) (dVar 1)))))))))
def dp_sameC : Nat → FDen
  | 0 => fun _ => none
  | k + 1 => fnDen [] 2 4 (bp_sameC (dp_sameC k))
theorem blsOf_map {ns : List Bool} : blsOf (ns.map D.bl) = some ns := by
  induction ns with
  | nil => rfl
  | cons n ns ih => rw [List.map_cons, blsOf, ih]; rfl
@[simp] theorem any_l {ns : List Bool} : anyOp [.lst (ns.map .bl)] = some (.s (.bl (ns.any id))) := by
  show (blsOf (ns.map .bl)).map _ = _
  rw [blsOf_map]; rfl
@[simp] theorem all_l {ns : List Bool} : allOp [.lst (ns.map .bl)] = some (.s (.bl (ns.all id))) := by
  show (blsOf (ns.map .bl)).map _ = _
  rw [blsOf_map]; rfl
theorem intsOf_map {ns : List Int} : intsOf (ns.map D.int) = some ns := by
  induction ns with
  | nil => rfl
  | cons n ns ih => rw [List.map_cons, intsOf, ih]; rfl
@[simp] theorem sum_l {ns : List Int} : sumOp [.lst (ns.map .int)] = some (.s (.int ns.sum)) := by
  show (intsOf (ns.map .int)).map _ = _
  rw [intsOf_map]; rfl
theorem strsOf_map {ns : List Str} : strsOf (ns.map D.str) = some ns := by
  induction ns with
  | nil => rfl
  | cons n ns ih => rw [List.map_cons, strsOf, ih]; rfl
theorem all_true {n : Nat} : allOp [.lst ((List.range n).map fun _ => D.bl true)] = some (.s (.bl true)) := by
  have : (List.range n).map (fun _ => D.bl true) = ((List.range n).map fun _ => true).map D.bl := by simp [Function.comp_def]
  rw [this, all_l]; simp
@[simp] theorem eq_bb {a b : Bool} : eqOp (.bl a) (.bl b) = some (.s (.bl (a == b))) := by cases a <;> cases b <;> rfl
@[simp] theorem ne_bb {a b : Bool} : neOp (.bl a) (.bl b) = some (.s (.bl (!(a == b)))) := by cases a <;> cases b <;> rfl
variable {Q : DV → List (Sh × D) → Prop} {X : Exn → List (Sh × D) → Prop}
theorem sameC_w : ∀ (k : Nat) (d : D), D.plain k d = true → ∀ (s s' : Sh) {Q : DV → List (Sh × D) → Prop} {X : Exn → List (Sh × D) → Prop}, (∀ s s', Q (.sh .im, .bl true) [(s, d), (s', d)]) → wF (dp_sameC (k + 1)) Q X [(s, d), (s', d)] := by
  intro k
  induction k with
  | zero =>
    intro d hd s s' Q X h
    unfold dp_sameC; rw [wF_fn_z]; unfold bp_sameC
    cases d <;> simp [D.plain] at hd
    · refine seq_skip (by simp [isiOp, tyName, isiB]) ?_
      refine seq_skip (by simp [isiOp, tyName, isiB]) ?_
      refine seq_skip (by simp [isiOp, tyName, isiB]) ?_
      refine seq_take (by simp [isOp, isD]) ?_
      simp [isOp, isD]; exact h _ _
    · rename_i b
      refine seq_skip (by simp [isiOp, tyName, isiB]) ?_
      refine seq_skip (by simp [isiOp, tyName, isiB]) ?_
      refine seq_skip (by simp [isiOp, tyName, isiB]) ?_
      refine seq_take (by cases b <;> simp [isOp, isD]) ?_
      cases b <;> (simp [isOp, isD]; exact h _ _)
    · refine seq_skip (by simp [isiOp, tyName, isiB]) ?_
      refine seq_skip (by simp [isiOp, tyName, isiB]) ?_
      refine seq_skip (by simp [isiOp, tyName, isiB]) ?_
      refine seq_skip (by simp [isOp, isD]) ?_
      simp [isiOp, tyName, isiB]; exact h _ _
    · refine seq_skip (by simp [isiOp, tyName, isiB]) ?_
      refine seq_skip (by simp [isiOp, tyName, isiB]) ?_
      refine seq_take (by simp [isiOp, tyName, isiB]) ?_
      simp [isiOp, tyName, isiB]; exact h _ _
  | succ k ih =>
    intro d hd s s' Q X h
    unfold dp_sameC; rw [wF_fn_z]; unfold bp_sameC
    cases d with
    | non =>
      refine seq_skip (by simp [isiOp, tyName, isiB]) ?_
      refine seq_skip (by simp [isiOp, tyName, isiB]) ?_
      refine seq_skip (by simp [isiOp, tyName, isiB]) ?_
      refine seq_take (by simp [isOp, isD]) ?_
      simp [isOp, isD]; exact h _ _
    | bl b =>
      refine seq_skip (by simp [isiOp, tyName, isiB]) ?_
      refine seq_skip (by simp [isiOp, tyName, isiB]) ?_
      refine seq_skip (by simp [isiOp, tyName, isiB]) ?_
      refine seq_take (by cases b <;> simp [isOp, isD]) ?_
      cases b <;> (simp [isOp, isD]; exact h _ _)
    | int i =>
      refine seq_skip (by simp [isiOp, tyName, isiB]) ?_
      refine seq_skip (by simp [isiOp, tyName, isiB]) ?_
      refine seq_skip (by simp [isiOp, tyName, isiB]) ?_
      refine seq_skip (by simp [isOp, isD]) ?_
      simp [isiOp, tyName, isiB]; exact h _ _
    | str x =>
      refine seq_skip (by simp [isiOp, tyName, isiB]) ?_
      refine seq_skip (by simp [isiOp, tyName, isiB]) ?_
      refine seq_take (by simp [isiOp, tyName, isiB]) ?_
      simp [isiOp, tyName, isiB]; exact h _ _
    | lst xs =>
      simp [D.plain] at hd
      have hl : xs.length ≤ 16777216 := hd.1
      refine seq_skip (by simp [isiOp, tyName, isiB]) ?_
      refine seq_take (by simp [isiOp, tyName, isiB]) ?_
      refine seq_skip (by simp [isiOp, tyName, isiB]) ?_
      simp [ownIm, wipeR]
      refine ⟨rngOk_n (by omega), ?_⟩
      refine wC_inv (I := fun j ρ acc => (∃ s s', ρ = [some (s, .lst xs), some (s', .lst xs), none, none]) ∧ acc = (List.range j).map fun _ => D.bl true) ⟨⟨_, _, rfl⟩, rfl⟩ ?_ ?_
      · intro j d ρ acc hj hI
        obtain ⟨⟨s, s', rfl⟩, rfl⟩ := hI
        obtain ⟨hk, rfl⟩ := rangeD_get hj
        have h2 : xs[j]? = some xs[j] := by simp [hk]
        simp [atI_n h2]
        refine ih _ (plains_mem hd.2 (List.getElem_mem hk)) .im .im fun s s' => ?_
        simp [wipeR, List.range_succ, sizeLine]
        omega
      · intro ρ acc hI
        obtain ⟨⟨s, s', rfl⟩, rfl⟩ := hI
        simp [rangeD_len, all_true, mergeR]
        exact h _ _
    | tup xs =>
      simp [D.plain] at hd
      have hl : xs.length ≤ 16777216 := hd.1
      refine seq_skip (by simp [isiOp, tyName, isiB]) ?_
      refine seq_take (by simp [isiOp, tyName, isiB]) ?_
      refine seq_skip (by simp [isiOp, tyName, isiB]) ?_
      simp [ownIm, wipeR]
      refine ⟨rngOk_n (by omega), ?_⟩
      refine wC_inv (I := fun j ρ acc => (∃ s s', ρ = [some (s, .tup xs), some (s', .tup xs), none, none]) ∧ acc = (List.range j).map fun _ => D.bl true) ⟨⟨_, _, rfl⟩, rfl⟩ ?_ ?_
      · intro j d ρ acc hj hI
        obtain ⟨⟨s, s', rfl⟩, rfl⟩ := hI
        obtain ⟨hk, rfl⟩ := rangeD_get hj
        have h2 : xs[j]? = some xs[j] := by simp [hk]
        simp [atI_n h2]
        refine ih _ (plains_mem hd.2 (List.getElem_mem hk)) .im .im fun s s' => ?_
        simp [wipeR, List.range_succ, sizeLine]
        omega
      · intro ρ acc hI
        obtain ⟨⟨s, s', rfl⟩, rfl⟩ := hI
        simp [rangeD_len, all_true, mergeR]
        exact h _ _
    | _ => simp [D.plain] at hd
def bp_sameA (den : FDen) : DenS :=
  (sSeq (sIf (dTruth (dCall isiOp (dCons true (dVar 0) (dCons true (dC (.ty "dict")) dNil)))) (sSeq (sIf (dOr (dNot (dTruth (dCall isiOp (dCons true (dVar 1) (dCons true (dC (.ty "dict")) dNil))))) (dTst (dBin true neOp (dCall lenOp (dCons true (dVar 0) dNil)) (dCall lenOp (dCons true (dVar 1) dNil))))) (sRet (dC (.bl false))) sNil) (sSeq (sFor (dItems (dVarF 0)) (gSet 2) (sIf (dOr (dTst (dBin true notInOp (dVar 2) (dVar 1))) (dNot (dTruth (dCallF 2 den (dAsC true (dIdx true (dVarF 0) (dVar 2)) (dAsC true (dIdx true (dVarF 1) (dVar 2)) dAsNil)))))) (sRet (dC (.bl false))) sNil)) (sRet (dC (.bl true))))) sNil) (sSeq (sIf (dOr (dTruth (dCall isiOp (dCons true (dVar 0) (dCons true (dC (.ty "list")) dNil)))) (dTruth (dCall isiOp (dCons true (dVar 0) (dCons true (dC (.ty "tuple")) dNil))))) (sSeq (sIf (dOr (dTst (dBin true neOp (dCall isiOp (dCons true (dVar 0) (dCons true (dC (.ty "list")) dNil))) (dCall isiOp (dCons true (dVar 1) (dCons true (dC (.ty "list")) dNil))))) (dTst (dBin true neOp (dCall isiOp (dCons true (dVar 0) (dCons true (dC (.ty "tuple")) dNil))) (dCall isiOp (dCons true (dVar 1) (dCons true (dC (.ty "tuple")) dNil)))))) (sRet (dC (.bl false))) sNil) (sRet (dAndV (dBin true eqOp (dCall lenOp (dCons true (dVar 0) dNil)) (dCall lenOp (dCons true (dVar 1) dNil))) (dCall allOp (dCons true (dComp [3] .im (dRange (dCons true (dCall lenOp (dCons true (dVar 0) dNil)) dNil)) (gSet 3) (dRet true) (dCallF 2 den (dAsC true (dIdx true (dVarF 0) (dVar 3)) (dAsC true (dIdx true (dVarF 1) (dVar 3)) dAsNil)))) dNil))))) sNil) (sSeq (sIf (dOr (dTst (dBin true isOp (dVar 0) (dC .non))) (dTst (dBin true isOp (dVar 1) (dC .non)))) (sRet (dAndV (dBin true isOp (dVar 0) (dC .non)) (dBin true isOp (dVar 1) (dC .non)))) sNil) (sSeq (sIf (dOr (dTruth (dCall isiOp (dCons true (dVar 0) (dCons true (dC (.ty "bool")) dNil)))) (dTruth (dCall isiOp (dCons true (dVar 1) (dCons true (dC (.ty "bool")) dNil))))) (sRet (dAndV (dCall isiOp (dCons true (dVar 0) (dCons true (dC (.ty "bool")) dNil))) (dAndV (dCall isiOp (dCons true (dVar 1) (dCons true (dC (.ty "bool")) dNil))) (dBin true eqOp (dVar 0) (dVar 1))))) sNil) (sSeq (sIf (dTruth (dCall isiOp (dCons true (dVar 0) (dCons true (dC (.ty "str")) dNil)))) (sRet (dAndV (dCall isiOp (dCons true (dVar 1) (dCons true (dC (.ty "str")) dNil))) (dBin true eqOp (dVar 0) (dVar 1)))) sNil) (sRet (dAndV (dCall isiOp (dCons true (dVar 1) (dCons true (dC (.ty "int")) dNil))) (dBin true eqOp (dVar 0) (dVar 1)))))))))
def dp_sameA : Nat → FDen
  | 0 => fun _ => none
  | k + 1 => fnDen [2] 2 4 (bp_sameA (dp_sameA k))
theorem sameA_w : ∀ (k : Nat) (d : D), D.plain k d = true → ∀ (s s' : Sh) {Q : DV → List (Sh × D) → Prop} {X : Exn → List (Sh × D) → Prop}, (∀ s s', Q (.sh .im, .bl true) [(s, d), (s', d)]) → wF (dp_sameA (k + 1)) Q X [(s, d), (s', d)] := by
  intro k
  induction k with
  | zero =>
    intro d hd s s' Q X h
    unfold dp_sameA; rw [wF_fn_z]; unfold bp_sameA
    cases d <;> simp [D.plain] at hd
    · refine seq_skip (by simp [isiOp, tyName, isiB]) ?_
      refine seq_skip (by simp [isiOp, tyName, isiB]) ?_
      refine seq_take (by simp [isOp, isD]) ?_
      simp [isOp, isD]; exact h _ _
    · rename_i b
      refine seq_skip (by simp [isiOp, tyName, isiB]) ?_
      refine seq_skip (by simp [isiOp, tyName, isiB]) ?_
      refine seq_skip (by cases b <;> simp [isOp, isD]) ?_
      refine seq_take (by simp [isiOp, tyName, isiB]) ?_
      cases b <;> (simp [isiOp, tyName, isiB]; exact h _ _)
    · refine seq_skip (by simp [isiOp, tyName, isiB]) ?_
      refine seq_skip (by simp [isiOp, tyName, isiB]) ?_
      refine seq_skip (by simp [isOp, isD]) ?_
      refine seq_skip (by simp [isiOp, tyName, isiB]) ?_
      refine seq_skip (by simp [isiOp, tyName, isiB]) ?_
      simp [isiOp, tyName, isiB]; exact h _ _
    · refine seq_skip (by simp [isiOp, tyName, isiB]) ?_
      refine seq_skip (by simp [isiOp, tyName, isiB]) ?_
      refine seq_skip (by simp [isOp, isD]) ?_
      refine seq_skip (by simp [isiOp, tyName, isiB]) ?_
      refine seq_take (by simp [isiOp, tyName, isiB]) ?_
      simp [isiOp, tyName, isiB]; exact h _ _
  | succ k ih =>
    intro d hd s s' Q X h
    unfold dp_sameA; rw [wF_fn_z]; unfold bp_sameA
    cases d with
    | non =>
      refine seq_skip (by simp [isiOp, tyName, isiB]) ?_
      refine seq_skip (by simp [isiOp, tyName, isiB]) ?_
      refine seq_take (by simp [isOp, isD]) ?_
      simp [isOp, isD]; exact h _ _
    | bl b =>
      refine seq_skip (by simp [isiOp, tyName, isiB]) ?_
      refine seq_skip (by simp [isiOp, tyName, isiB]) ?_
      refine seq_skip (by cases b <;> simp [isOp, isD]) ?_
      refine seq_take (by simp [isiOp, tyName, isiB]) ?_
      cases b <;> (simp [isiOp, tyName, isiB]; exact h _ _)
    | int i =>
      refine seq_skip (by simp [isiOp, tyName, isiB]) ?_
      refine seq_skip (by simp [isiOp, tyName, isiB]) ?_
      refine seq_skip (by simp [isOp, isD]) ?_
      refine seq_skip (by simp [isiOp, tyName, isiB]) ?_
      refine seq_skip (by simp [isiOp, tyName, isiB]) ?_
      simp [isiOp, tyName, isiB]; exact h _ _
    | str x =>
      refine seq_skip (by simp [isiOp, tyName, isiB]) ?_
      refine seq_skip (by simp [isiOp, tyName, isiB]) ?_
      refine seq_skip (by simp [isOp, isD]) ?_
      refine seq_skip (by simp [isiOp, tyName, isiB]) ?_
      refine seq_take (by simp [isiOp, tyName, isiB]) ?_
      simp [isiOp, tyName, isiB]; exact h _ _
    | lst xs =>
      simp [D.plain] at hd
      have hl : xs.length ≤ 16777216 := hd.1
      refine seq_skip (by simp [isiOp, tyName, isiB]) ?_
      refine seq_take (by simp [isiOp, tyName, isiB]) ?_
      refine seq_skip (by simp [isiOp, tyName, isiB]) ?_
      simp [ownIm, wipeR]
      refine ⟨rngOk_n (by omega), ?_⟩
      refine wC_inv (I := fun j ρ acc => (∃ s s', ρ = [some (s, .lst xs), some (s', .lst xs), none, none]) ∧ acc = (List.range j).map fun _ => D.bl true) ⟨⟨_, _, rfl⟩, rfl⟩ ?_ ?_
      · intro j d ρ acc hj hI
        obtain ⟨⟨s, s', rfl⟩, rfl⟩ := hI
        obtain ⟨hk, rfl⟩ := rangeD_get hj
        have h2 : xs[j]? = some xs[j] := by simp [hk]
        simp [atI_n h2]
        refine ih _ (plains_mem hd.2 (List.getElem_mem hk)) .im .im fun s s' => ?_
        simp [wipeR, List.range_succ, sizeLine]
        omega
      · intro ρ acc hI
        obtain ⟨⟨s, s', rfl⟩, rfl⟩ := hI
        simp [rangeD_len, all_true, mergeR]
        exact h _ _
    | tup xs =>
      simp [D.plain] at hd
      have hl : xs.length ≤ 16777216 := hd.1
      refine seq_skip (by simp [isiOp, tyName, isiB]) ?_
      refine seq_take (by simp [isiOp, tyName, isiB]) ?_
      refine seq_skip (by simp [isiOp, tyName, isiB]) ?_
      simp [ownIm, wipeR]
      refine ⟨rngOk_n (by omega), ?_⟩
      refine wC_inv (I := fun j ρ acc => (∃ s s', ρ = [some (s, .tup xs), some (s', .tup xs), none, none]) ∧ acc = (List.range j).map fun _ => D.bl true) ⟨⟨_, _, rfl⟩, rfl⟩ ?_ ?_
      · intro j d ρ acc hj hI
        obtain ⟨⟨s, s', rfl⟩, rfl⟩ := hI
        obtain ⟨hk, rfl⟩ := rangeD_get hj
        have h2 : xs[j]? = some xs[j] := by simp [hk]
        simp [atI_n h2]
        refine ih _ (plains_mem hd.2 (List.getElem_mem hk)) .im .im fun s s' => ?_
        simp [wipeR, List.range_succ, sizeLine]
        omega
      · intro ρ acc hI
        obtain ⟨⟨s, s', rfl⟩, rfl⟩ := hI
        simp [rangeD_len, all_true, mergeR]
        exact h _ _
    | _ => simp [D.plain] at hd
end Den

namespace Den
open PySem PySem.Spec PyProof.Rows L2
section
variable {Q : Rho → DV → Prop} {X : Rho → Exn → Prop} {ρ : Rho}
theorem uE_chain {op op' : D → D → Option OR} {da db dc : Den DV} : uE (dChain op op' da db dc) Q X ρ = uE da (fun ρ a => a.2.scal = true ∧ uE db (fun ρ b => b.2.scal = true ∧ wO (boolOf (op a.2 b.2)) fun k => if k = true then uE dc (fun ρ c => c.2.scal = true ∧ wO (boolOf (op' b.2 c.2)) fun k => Q ρ (.sh .im, .bl k)) X ρ else Q ρ (.sh .im, .bl false)) X ρ) X ρ := by
  unfold dChain; rw [uE_bind]; congr 1; funext ρ a
  rw [uE_ite]; split
  · rename_i h; rw [eq_true h, true_and, uE_bind]; congr 1; funext ρ b
    rw [uE_ite]; split
    · rename_i h; rw [eq_true h, true_and, uE_lift]; congr 1; funext k
      rw [uE_ite]; split
      · rw [uE_bind]; congr 1; funext ρ c
        rw [uE_ite]; split
        · rename_i h; rw [eq_true h, true_and, uE_lift]; rfl
        · rename_i h; rw [eq_false h, false_and]; rfl
      · rfl
    · rename_i h; rw [eq_false h, false_and]; rfl
  · rename_i h; rw [eq_false h, false_and]; rfl
@[simp ↓] theorem wE_chain_z {op op' : D → D → Option OR} {da db dc : Den DV} : wE (dChain op op' da db dc) Q X ρ = wE da (Lz (tgz fun ρ a => a.2.scal = true ∧ wE db (Lz (tgz fun ρ b => b.2.scal = true ∧ wO (boolOf (op a.2 b.2)) (Lz (tgz fun k => if k = true then wE dc (Lz (tgz fun ρ c => c.2.scal = true ∧ wO (boolOf (op' b.2 c.2)) (Lz (tgz fun k => Q ρ (.sh .im, .bl k))))) X ρ else Q ρ (.sh .im, .bl false))))) X ρ)) X ρ := by
  rewrite [feE]; exact uE_chain
end
@[simp] theorem boolOf_bl {k : Bool} : boolOf (some (.s (.bl k))) = some k := id rfl
@[simp] theorem scal_int {i : Int} : D.scal (.int i) = true := id rfl
@[simp] theorem scal_str {i : Str} : D.scal (.str i) = true := id rfl
@[simp] theorem max_ii {i j : Int} : maxOp [.int i, .int j] = some (.s (.int (max i j))) := id rfl
@[simp] theorem min_ii {i j : Int} : minOp [.int i, .int j] = some (.s (.int (min i j))) := id rfl
@[simp] theorem truth_t {xs : List D} : truthD (.tup xs) = some (!xs.isEmpty) := id rfl
@[simp] theorem truth_l {xs : List D} : truthD (.lst xs) = some (!xs.isEmpty) := id rfl
/-- a function of the numbers of a range -/
def ofI (g : Nat → D) : D → D
  | .int i => g i.toNat
  | _ => .non
@[simp] theorem ofI_n {g : Nat → D} {n : Nat} : ofI g (.int (n : Nat)) = g n := id rfl
theorem range_ofI {g : Nat → D} {s n : Nat} : (rangeD (s : Nat) n).map (ofI g) = (List.range n).map fun i => g (s + i) := by
  unfold rangeD
  rw [List.map_map]
  apply List.map_congr_left
  intro i _
  show g ((s : Int) + (i : Int)).toNat = _
  congr 1
theorem range_ofI0 {g : Nat → D} {n : Nat} : (rangeD 0 n).map (ofI g) = (List.range n).map g := by
  have := range_ofI (g := g) (s := 0) (n := n)
  rw [show ((0 : Nat) : Int) = 0 from rfl] at this
  rw [this]; simp
theorem mem_rangeD {s n : Nat} {d : D} (h : d ∈ rangeD (s : Nat) n) : ∃ j, s ≤ j ∧ j < s + n ∧ d = .int (j : Nat) := by
  unfold rangeD at h
  obtain ⟨j, hj, rfl⟩ := List.mem_map.1 h
  have := List.mem_range.1 hj
  exact ⟨s + j, by omega, by omega, rfl⟩
theorem mem_rangeD0 {n : Nat} {d : D} (h : d ∈ rangeD 0 n) : ∃ j, j < n ∧ d = .int (j : Nat) := by
  obtain ⟨j, _, h2, h3⟩ := mem_rangeD (s := 0) h
  exact ⟨j, by omega, h3⟩
theorem sIx_n {n k : Nat} : HT.sIx n n (some (k : Int)) = min k n := by simp [HT.sIx]; omega
theorem sIx_0 {n k : Nat} : HT.sIx n 0 (some (k : Int)) = min k n := by simp [HT.sIx]; omega
theorem cut_from {α : Type} {xs : List α} {k : Nat} : Den.cutD xs (some (k : Int)) none = xs.drop k := by
  unfold Den.cutD
  rw [sIx_0]
  have : HT.sIx xs.length xs.length none = xs.length := rfl
  rw [this]
  by_cases h : k ≤ xs.length
  · rw [Nat.min_eq_left h, List.take_of_length_le (by simp)]
  · rw [Nat.min_eq_right (by omega), List.drop_of_length_le (Nat.le_refl _), List.drop_of_length_le (by omega)]; simp
theorem cut_to {α : Type} {xs : List α} {k : Nat} : Den.cutD xs none (some (k : Int)) = xs.take k := by
  unfold Den.cutD
  rw [sIx_n]
  have : HT.sIx xs.length 0 none = 0 := rfl
  rw [this, List.drop_zero, Nat.sub_zero]
  by_cases h : k ≤ xs.length
  · rw [Nat.min_eq_left h]
  · rw [Nat.min_eq_right (by omega), List.take_of_length_le (Nat.le_refl _), List.take_of_length_le (by omega)]
theorem cut_mid {α : Type} {xs : List α} {j k : Nat} : Den.cutD xs (some (j : Int)) (some (k : Int)) = (xs.take k).drop j := by
  unfold Den.cutD
  rw [sIx_n, sIx_0, List.drop_take]
  by_cases h : j ≤ xs.length
  · rw [Nat.min_eq_left h]
    by_cases h2 : k ≤ xs.length
    · rw [Nat.min_eq_left h2]
    · rw [Nat.min_eq_right (Nat.le_of_not_le h2), List.take_of_length_le (by simp), List.take_of_length_le (by simp; omega)]
  · rw [Nat.min_eq_right (Nat.le_of_not_le h), List.drop_of_length_le (Nat.le_refl _), List.drop_of_length_le (Nat.le_of_not_le h)]; simp
@[simp] theorem slice_l {xs : List D} {lo hi : Option Int} : sliceOp (.lst xs) lo hi = some (.l (Den.cutD xs lo hi)) := id rfl
@[simp] theorem slice_t {xs : List D} {lo hi : Option Int} : sliceOp (.tup xs) lo hi = some (.a (.tup (Den.cutD xs lo hi))) := id rfl
theorem cut_map {α β : Type} {f : α → β} {xs : List α} {lo hi : Option Int} : Den.cutD (xs.map f) lo hi = (Den.cutD xs lo hi).map f := by
  simp [Den.cutD, List.map_drop, List.map_take]
end Den

/-! texts by their codes -/
namespace Den
open PySem PySem.Spec PyProof.Rows L2
def S (l : List Nat) : Str := ⟨l.toArray⟩
@[simp] theorem S_len {a : List Nat} : (S a).length = a.length := by show a.toArray.size = _; simp
theorem S_inj {a b : List Nat} : S a = S b ↔ a = b := ⟨fun h => by have := congrArg (fun s => s.cps.toList) h; simpa [S] using this, fun h => by rw [h]⟩
@[simp] theorem S_beq {a b : List Nat} : (S a == S b) = decide (a = b) := by
  rw [Bool.eq_iff_iff, beq_iff_eq, decide_eq_true_eq, S_inj]
@[simp] theorem S_app {a b : List Nat} : S a ++ S b = S (a ++ b) := by
  show Str.append _ _ = _
  unfold Str.append S; simp
theorem S_of (z : Str) : z = S z.cps.toList := by cases z; simp [S]
@[simp] theorem add_S {a b : List Nat} : addOp (.str (S a)) (.str (S b)) = if a.length + b.length ≤ sizeLine then some (.s (.str (S (a ++ b)))) else none := by
  rw [add_ss, S_len, S_len, S_app]
@[simp] theorem len_S {a : List Nat} : lenOp [.str (S a)] = if a.length ≤ sizeLine then some (.s (.int a.length)) else none := by
  rw [len_s, S_len]
@[simp] theorem slice_S {a : List Nat} {lo hi : Option Int} : sliceOp (.str (S a)) lo hi = if a.length ≤ sizeLine then some (.s (.str (S (Den.cutD a lo hi)))) else none := by
  show (if (S a).length ≤ sizeLine then some (OR.s (.str (cutS (S a) lo hi))) else none) = _
  rw [S_len]
  have : cutS (S a) lo hi = S (Den.cutD a lo hi) := by
    unfold cutS Den.cutD S
    simp only [List.toList_toArray]
    rfl
  rw [this]
@[simp] theorem idx_S {a : List Nat} {i : Int} : idxD (.str (S a)) (.int i) = if a.length ≤ sizeLine then (atI a i).map fun c => .str (S [c]) else none := by
  show (if (S a).length ≤ sizeLine then (atI (S a).cps.toList i).map fun c => D.str ⟨#[c]⟩ else none) = _
  rw [S_len]; simp [S]
@[simp] theorem eq_S {a b : List Nat} : eqOp (.str (S a)) (.str (S b)) = some (.s (.bl (decide (a = b)))) := by rw [eq_ss, S_beq]
@[simp] theorem ne_S {a b : List Nat} : neOp (.str (S a)) (.str (S b)) = some (.s (.bl (!decide (a = b)))) := by rw [ne_ss, S_beq]
@[simp] theorem strItems_S {a : List Nat} : strItems (S a) = a.map fun c => D.str (S [c]) := by unfold strItems S; simp
@[simp] theorem items_S {a : List Nat} : itemsOf (.str (S a)) = some (a.map fun c => .str (S [c])) := by rw [items_s]; unfold strItems S; simp
@[simp] theorem rev_S {a : List Nat} : revOp (.str (S a)) = if a.length ≤ sizeLine then some (.s (.str (S a.reverse))) else none := by
  show (if (S a).length ≤ sizeLine then some (OR.s (.str ⟨(S a).cps.reverse⟩)) else none) = _
  rw [S_len]
  have : (⟨(S a).cps.reverse⟩ : Str) = S a.reverse := by unfold S; simp
  rw [this]
@[simp] theorem in_S {c : Nat} {a : List Nat} : inOp (.str (S [c])) (.str (S a)) = some (.s (.bl (decide (c ∈ a)))) := by
  show some (OR.s (.bl (strIn (S [c]) (S a)))) = _
  unfold strIn S; simp
@[simp] theorem listS_S {a : List Nat} : listSOp [.str (S a)] = if a.length ≤ sizeLine then some (.l (a.map fun c => .str (S [c]))) else none := by
  rw [listS_s, S_len]; unfold strItems S; simp
@[simp] theorem isS_S {a : List Nat} : isS (.str (S a)) = true := id rfl
theorem strsOf_S {ls : List (List Nat)} : strsOf (ls.map fun l => D.str (S l)) = some (ls.map S) := by
  have := strsOf_map (ns := ls.map S)
  rw [List.map_map] at this; exact this
/-- what join puts together -/
def glueL (sep : List Nat) : List (List Nat) → List Nat
  | [] => []
  | x :: ls => x ++ (ls.map fun l => sep ++ l).flatten
theorem glue_fold {sep : List Nat} : ∀ (ls : List (List Nat)) (A : Array Nat), (ls.map S).foldl (fun acc p => acc ++ (S sep).cps ++ p.cps) A = (A.toList ++ (ls.map fun l => sep ++ l).flatten).toArray
  | [], A => by simp
  | l :: ls, A => by
    rw [List.map_cons, List.foldl_cons, glue_fold ls]
    simp [S]
theorem join_S {sep : List Nat} {ls : List (List Nat)} : Txt.join (S sep) (ls.map S) = S (glueL sep ls) := by
  show Builtin.Str.glued _ _ = _
  unfold Builtin.Str.glued
  cases ls with
  | nil => rfl
  | cons x ls =>
    simp only [List.map_cons, List.drop_succ_cons, List.drop_zero, List.headD_cons]
    rw [glue_fold]
    simp [S, glueL]
theorem glue0 : ∀ {ls : List (List Nat)}, glueL [] ls = ls.flatten
  | [] => rfl
  | x :: ls => by simp [glueL]
@[simp] theorem joinOp_S {sep : List Nat} {ls : List (List Nat)} : joinOp (.str (S sep)) [.lst (ls.map fun l => D.str (S l))] = if ((ls.map List.length).sum + ls.length * sep.length ≤ 16777216) then some (.s (.str (S (glueL sep ls)))) else none := by
  simp only [joinOp]
  rw [strsOf_S]
  simp only [join_S, S_len, List.length_map, List.map_map]
  have : (List.map ((fun x => x.length) ∘ S) ls) = ls.map List.length := by
    apply List.map_congr_left; intro l _; exact S_len
  rw [this]
def natsD (os : List Nat) : List D := os.map fun k => .int (k : Nat)
theorem shps_nats {k : Nat} : ∀ os : List Nat, D.shps k (natsD os) = true
  | [] => by cases k <;> rfl
  | n :: os => by show (D.shp k (.int n) && D.shps k (natsD os)) = true; rw [shps_nats os]; cases k <;> rfl
theorem beqs_nats : ∀ {os ns : List Nat}, D.beqs (natsD os) (natsD ns) = decide (os = ns)
  | [], [] => by simp [natsD, D.beqs]
  | [], _ :: _ => by simp [natsD, D.beqs]
  | _ :: _, [] => by simp [natsD, D.beqs]
  | t :: ts, u :: us => by
    show (D.beq (.int t) (.int u) && D.beqs (natsD ts) (natsD us)) = _
    rw [beqs_nats]
    have : D.beq (.int t) (.int u) = decide (t = u) := by
      show ((t : Int) == (u : Int)) = _
      rw [Bool.eq_iff_iff]; simp; omega
    rw [this]; simp
@[simp] theorem eq_nats {os ns : List Nat} : eqOp (.lst (natsD os)) (.lst (natsD ns)) = some (.s (.bl (decide (os = ns)))) := by
  unfold eqOp eqOk
  rw [show D.shp 60 (.lst (natsD os)) = true from shps_nats (k := 59) os, show D.shp 60 (.lst (natsD ns)) = true from shps_nats (k := 59) ns, show D.beq (.lst (natsD os)) (.lst (natsD ns)) = decide (os = ns) from beqs_nats]
  simp
@[simp] theorem eq_nats0 {os : List Nat} : eqOp (.lst (natsD os)) (.lst []) = some (.s (.bl (decide (os = [])))) := eq_nats (ns := [])
@[simp] theorem natsD_len {os : List Nat} : (natsD os).length = os.length := by simp [natsD]
theorem natsD_app {os ns : List Nat} : natsD (os ++ ns) = natsD os ++ natsD ns := by simp [natsD]
theorem mem_nats {os : List Nat} {d : D} (h : d ∈ natsD os) : ∃ k ∈ os, d = .int (k : Nat) := by
  obtain ⟨k, hk, rfl⟩ := List.mem_map.1 h; exact ⟨k, hk, rfl⟩
theorem all_const {α : Type} {xs : List α} : allOp [.lst (xs.map fun _ => D.bl true)] = some (.s (.bl true)) := by
  have : (xs.map fun _ => D.bl true) = (xs.map fun _ => true).map D.bl := by simp [Function.comp_def]
  rw [this, all_l]; simp
end Den

namespace Den
open PySem PySem.Calls PySem.Spec PyProof.Rows L2 PySem.W
variable {K : PySem.W.Frag} {R H : Hp}
/-- data by Python's order -/
def leD (d e : D) : Bool := dataLe false D.py d e
def alikeL (ds : List D) : Bool := ds.all fun d => ds.all fun e => PySem.W.alike (D.py d) (D.py e)
def tupsL (ds : List D) : Bool := ds.all fun d => match d with
  | .tup (_ :: _) => true
  | _ => false
def plainL (ds : List D) : Bool := ds.all fun d => match d with
  | .int _ => true
  | .str _ => true
  | .bl _ => true
  | .lst _ => true
  | _ => false
def sortedOp : List D → Option OR
  | [.lst ds] => if ds.length ≤ 1 then some (.l ds) else if (decide (ds.length ≤ sizeLine) && D.shps 60 ds && alikeL ds && (tupsL ds || plainL ds)) = true then some (.l (ds.mergeSort leD)) else none
  | _ => none
def rSortD (K : PySem.W.Frag) : List V → Hp → VK → Prop := fun xs H Q => (∃ a vs, xs = [.ref a] ∧ SqL K H a vs ∧ vs.length ≤ 1 ∧ ∀ p, H p = none → Q (.ref p) (upd H p (.lst vs))) ∨
  ∃ (a : Addr) (bs : List (V × D)), xs = [.ref a] ∧ SqL K H a (bs.map (·.1)) ∧ (∀ b ∈ bs, Dp K H b.1 (D.py b.2)) ∧ AllAlike (bs.map fun b => D.py b.2) ∧ Sortable (bs.map fun b => D.py b.2) ∧ bs.length ≤ sizeLine ∧ (∀ b ∈ bs, (D.py b.2).depth ≤ 60) ∧
    ∀ p, H p = none → Q (.ref p) (upd H p (.lst ((bs.mergeSort fun b c => leD b.2 c.2).map (·.1))))
theorem atAll_zip : ∀ {vs : List V} {ds : List D}, AtAll K R vs ds → ∃ bs : List (V × D), bs.map (·.1) = vs ∧ bs.map (·.2) = ds ∧ ∀ b ∈ bs, At K R b.1 b.2
  | _, _, .nil => ⟨[], rfl, rfl, fun b hb => by cases hb⟩
  | _, _, .cons (v := v) (d := d) h t => by
    obtain ⟨bs, h1, h2, h3⟩ := atAll_zip t
    refine ⟨(v, d) :: bs, by simp [h1], by simp [h2], fun b hb => ?_⟩
    rcases List.mem_cons.1 hb with rfl | hb
    · exact h
    · exact h3 b hb
theorem atAll_map : ∀ {bs : List (V × D)}, (∀ b ∈ bs, At K R b.1 b.2) → AtAll K R (bs.map (·.1)) (bs.map (·.2))
  | [], _ => .nil
  | b :: bs, h => .cons (h b (List.mem_cons_self ..)) (atAll_map fun c hc => h c (List.mem_cons_of_mem _ hc))
theorem shps_mem {n : Nat} : ∀ {ds : List D}, D.shps n ds = true → ∀ d ∈ ds, D.shp n d = true
  | d :: ds, h, e, he => by
    have h' : D.shp n d = true ∧ D.shps n ds = true := by simpa only [D.shps, Bool.and_eq_true] using h
    rcases List.mem_cons.1 he with rfl | he
    · exact h'.1
    · exact shps_mem h'.2 e he
theorem cx_sorted : CallX K sortedOp (rSortD K) := by
  intro ds o vs R H Q ho hs hv
  unfold sortedOp at ho
  split at ho
  · rename_i es
    split at ho
    · rename_i h1
      cases ho
      cases hv with | cons q1 q2 => cases q2; cases q1 with | lst a b =>
      exact ⟨rfl, fun w => .inl ⟨_, _, rfl, hs.sqL a, by rw [b.length]; exact h1, fun p hp => w _ p b hp⟩⟩
    · split at ho
      · rename_i h1 h2
        cases ho
        simp only [Bool.and_eq_true, decide_eq_true_eq] at h2
        obtain ⟨⟨⟨hz, hsh⟩, hal⟩, hk⟩ := h2
        cases hv with | cons q1 q2 => cases q2; cases q1 with | lst a b =>
        obtain ⟨bs, e1, e2, e3⟩ := atAll_zip b
        subst e1 e2
        refine ⟨rfl, fun w => .inr ⟨_, bs, rfl, hs.sqL a, fun c hc => ?_, ?_, ?_, by simpa using hz, fun c hc => ?_, fun p hp => ?_⟩⟩
        · have m := shps_mem hsh c.2 (List.mem_map_of_mem hc)
          exact (D.shp_ok m).2.2 (At.mono hs (show At K R c.1 c.2 from e3 c hc))
        · intro d hd d' hd'
          obtain ⟨b, hb, rfl⟩ := List.mem_map.1 hd
          obtain ⟨b', hb', rfl⟩ := List.mem_map.1 hd'
          unfold alikeL at hal
          rw [List.all_eq_true] at hal
          have := hal b.2 (List.mem_map_of_mem hb)
          rw [List.all_eq_true] at this
          exact this b'.2 (List.mem_map_of_mem hb')
        · rw [Bool.or_eq_true] at hk
          rcases hk with hk | hk
          · refine .inl fun d hd => ?_
            obtain ⟨b, hb, rfl⟩ := List.mem_map.1 hd
            unfold tupsL at hk
            rw [List.all_eq_true] at hk
            have := hk b.2 (List.mem_map_of_mem hb)
            cases hbd : b.2 with
            | tup xs => rw [hbd] at this; cases xs with
              | nil => simp at this
              | cons x r => exact ⟨D.py x, D.pys r, by simp only [D.py, D.pys]⟩
            | _ => rw [hbd] at this; simp at this
          · refine .inr fun d hd => ?_
            obtain ⟨b, hb, rfl⟩ := List.mem_map.1 hd
            unfold plainL at hk
            rw [List.all_eq_true] at hk
            have := hk b.2 (List.mem_map_of_mem hb)
            cases hbd : b.2 with
            | int _ => exact ⟨by simp [D.py], by simp [D.py]⟩
            | str _ => exact ⟨by simp [D.py], by simp [D.py]⟩
            | bl _ => exact ⟨by simp [D.py], by simp [D.py]⟩
            | lst _ => exact ⟨by simp [D.py], by simp [D.py]⟩
            | _ => rw [hbd] at this; simp at this
        · have m := shps_mem hsh c.2 (List.mem_map_of_mem hc)
          exact (D.shp_ok (K := []) (R := fun _ => none) m).2.1
        · have e4 : (bs.map (·.2)).mergeSort leD = (bs.mergeSort fun b c => leD b.2 c.2).map (·.2) := (List.map_mergeSort (f := fun x : V × D => x.2) (r := fun b c => leD b.2 c.2) (s := leD) (l := bs) (fun _ _ _ _ => rfl)).symm
          refine w _ p ?_ hp
          rw [e4]
          exact atAll_map fun c hc => e3 c ((List.mergeSort_perm _ _).mem_iff.1 hc)
      · cases ho
  · cases ho
theorem each_of {X : Cx} {pins : List (Addr × Obj)} {s : Shared} {σ : L2.St} {H : Hp} (I : Inv X pins σ H s) : ∀ {bs : List (V × D)} {us : List Value}, Vals (bs.map (·.1)) us → (∀ b ∈ bs, Dp X.K H b.1 (D.py b.2)) →
    EachIs (fun u (b : V × D) => RelV b.1 u) us bs ∧ EachIs (fun u (b : V × D) => ∃ as, Reads s.heap u (D.py b.2) as) us bs
  | [], _, r, _ => by cases r; exact ⟨.nil, .nil⟩
  | b :: bs, _, r, h => by
    cases r with
    | cons r rr =>
      obtain ⟨h1, h2⟩ := each_of I rr fun c hc => h c (List.mem_cons_of_mem _ hc)
      exact ⟨.cons r h1, .cons (Dp.reads I _ _ _ (h b (List.mem_cons_self ..)) r) h2⟩
theorem vals_each : ∀ {us : List Value} {bs : List (V × D)}, EachIs (fun u (b : V × D) => RelV b.1 u) us bs → Vals (bs.map (·.1)) us
  | _, _, .nil => .nil
  | _, _, .cons r h => .cons r (vals_each h)
theorem cr_sortD {X : Cx} (hu : X.A.units + 64 < cLine) : CallR X (.builtin "sorted") (rSortD X.K) := by
  intro pins s σ H vs us Q I r h
  rcases h with ⟨a, xs, rfl, hs, h1, q⟩ | ⟨a, bs, rfl, hs, hd, hal, hk, hz, hdp, q⟩
  · obtain ⟨its, rv, hl, _⟩ := I.list hs
    rw [Vals.ref1 r]
    have hl1 : its.length ≤ 1 := by rw [← rv.length]; exact h1
    refine Srt.sorted_any hl.isList (Nat.le_trans hl1 (by unfold sizeLine; omega)) (fun h2 => by omega) fun out hp => ?_
    have e : out = its := by
      cases its with
      | nil => exact List.perm_nil.1 hp
      | cons x t => cases t with
        | nil => exact List.perm_singleton.1 hp
        | cons => simp at hl1
    subst e
    obtain ⟨ep, he'⟩ := PyProof.Rows.sortedAll_at s.heap out out.toArray
    exact ⟨.ref _, upd H (s.heap.objs.size + 1) (.lst xs), I.laid (t' := s.toks) (fun _ _ => PyProof.Rows.sortedAll_old) (Nat.le_succ _) ⟨by unfold sizeLine; omega, out, ep, rv, by simpa using he'⟩, rfl, q _ (I.hok.fresh (Nat.le_succ _))⟩
  · obtain ⟨its, rv, hl, _⟩ := I.list hs
    rw [Vals.ref1 r]
    obtain ⟨e1, e2⟩ := each_of I rv hd
    refine sorted_data (enc := fun b : V × D => D.py b.2) hl.isList e1 e2 hal hk hz (fun b hb => by have := hdp b hb; omega) fun out ho eo => ?_
    obtain ⟨ep, he'⟩ := PyProof.Rows.sortedAll_at s.heap its out.toArray
    have rv2 := vals_each eo
    exact ⟨.ref _, upd H (s.heap.objs.size + 1) (.lst ((bs.mergeSort fun b c => leD b.2 c.2).map (·.1))), I.laid (t' := s.toks) (fun _ _ => PyProof.Rows.sortedAll_old) (Nat.le_succ _) ⟨by rw [List.length_map, List.length_mergeSort]; exact hz, out, ep, rv2, by simpa using he'⟩, rfl, q _ (I.hok.fresh (Nat.le_succ _))⟩
end Den

/-! dicts: the empty display, a copy, and what simp knows of them -/
namespace Den
open PySem PySem.Spec PyProof.Rows L2
def dDic0 : Den DV := dRet (.sh (.ow .im), .dic [])
section
variable {K : PySem.W.Frag} {mg : Str → Option Value} {W : WX} {H : Hp} {σ : L2.St} {Q : VK}
theorem dic0_ok (h : tE K mg W true dDic0 σ H Q) : tDNewK σ H Q := by
  obtain ⟨ρ, R, F, res, hS, hden, hQ⟩ := h
  cases hden
  exact fun p hp => hQ.newD (ks := []) (vs := []) hS rfl .nil hp
end
theorem e_dic0 {X : Cx} {W : WX} {pos : Pos} : RE X W true (.Dict [] [] pos) dDic0 := pe_dnewK.impD fun _ _ _ h => dic0_ok h
section
variable {kds : List (D × D)} {c : D}
@[simp] theorem idx_dic : idxD (.dic kds) c = getK kds c := by
  unfold idxD; split <;> simp_all
@[simp] theorem len_dic : lenOp [.dic kds] = some (.s (.int kds.length)) := id rfl
@[simp] theorem dict_dic : dictOp [.dic kds] = some (.k kds) := id rfl
@[simp] theorem truth_dic : truthD (.dic kds) = some (!kds.isEmpty) := id rfl
@[simp] theorem in_dicS {s : Str} : inOp (.str s) (.dic kds) = some (.s (.bl (getK kds (.str s)).isSome)) := id rfl
@[simp] theorem in_dicI {i : Int} : inOp (.int i) (.dic kds) = some (.s (.bl (getK kds (.int i)).isSome)) := id rfl
@[simp] theorem notIn_dicS {s : Str} : notInOp (.str s) (.dic kds) = some (.s (.bl (!(getK kds (.str s)).isSome))) := id rfl
@[simp] theorem notIn_dicI {i : Int} : notInOp (.int i) (.dic kds) = some (.s (.bl (!(getK kds (.int i)).isSome))) := id rfl
@[simp] theorem val_k : (OR.k kds).val = (.sh (.ow .im), .dic kds) := id rfl
@[simp] theorem lent_k : (OR.k kds).lent = false := id rfl
end
section
variable {Q : Rho → DV → Prop} {X : Rho → Exn → Prop} {ρ : Rho}
@[simp ↓] theorem wE_dic0_z : wE dDic0 Q X ρ = Q ρ (.sh (.ow .im), .dic []) := by
  unfold dDic0; rw [wE_ret]
end
end Den

/-! d[k] = v, d a name with an owned dict of plain members -/
namespace Den
open PySem PySem.Spec PyProof.Rows L2
variable {K : PySem.W.Frag} {R H : Hp}
theorem any_key {k : Key} : ∀ {kds : List (D × D)} {ks : List Key} {xs : List V}, kds.map (·.1) = ks.map kD → AtAll K R xs (kds.map (·.2)) → (kds.any fun p => keyEq p.1 (kD k)) = ((ks.zip xs).any fun kv => decide (kv.1 = k))
  | [], ks, xs, h1, h2 => by
    cases ks with
    | nil => rfl
    | cons => simp at h1
  | p :: kds, ks, xs, h1, h2 => by
    cases ks with
    | nil => simp at h1
    | cons q ks =>
      simp at h1
      cases h2 with
      | cons a b => rw [List.any_cons, List.zip_cons_cons, List.any_cons, any_key h1.2 b, h1.1, keyEq_kD]
theorem map_key {k : Key} {v : V} {d : D} (hv : At K R v d) : ∀ {kds : List (D × D)} {ks : List Key} {xs : List V}, kds.map (·.1) = ks.map kD → AtAll K R xs (kds.map (·.2)) →
    ∃ xs' : List V, (kds.map (fun p => if keyEq p.1 (kD k) = true then (p.1, d) else p)).map (·.1) = ks.map kD ∧ AtAll K R xs' ((kds.map (fun p => if keyEq p.1 (kD k) = true then (p.1, d) else p)).map (·.2)) ∧ (ks.zip xs).map (fun kv => if kv.1 = k then (kv.1, v) else kv) = ks.zip xs'
  | [], ks, xs, h1, h2 => by
    cases ks with
    | nil => cases h2; exact ⟨[], rfl, .nil, rfl⟩
    | cons => simp at h1
  | p :: kds, ks, xs, h1, h2 => by
    cases ks with
    | nil => simp at h1
    | cons q ks =>
      simp only [List.map_cons, List.cons.injEq] at h1
      cases h2 with
      | cons a b =>
        rename_i x xs
        obtain ⟨xs', e1, e2, e3⟩ := map_key hv h1.2 b
        by_cases c : q = k
        · have kc : keyEq p.1 (kD k) = true := by rw [h1.1, keyEq_kD]; simp [c]
          refine ⟨v :: xs', ?_, ?_, ?_⟩
          · rw [List.map_cons, List.map_cons, e1, if_pos kc, List.map_cons, h1.1]
          · rw [List.map_cons, List.map_cons, if_pos kc]; exact .cons hv e2
          · rw [List.zip_cons_cons, List.map_cons, e3, List.zip_cons_cons, if_pos c]
        · have kc : ¬ keyEq p.1 (kD k) = true := by rw [h1.1, keyEq_kD]; simp [c]
          refine ⟨x :: xs', ?_, ?_, ?_⟩
          · rw [List.map_cons, List.map_cons, e1, if_neg kc, List.map_cons, h1.1]
          · rw [List.map_cons, List.map_cons, if_neg kc]; exact .cons a e2
          · rw [List.zip_cons_cons, List.map_cons, e3, List.zip_cons_cons, if_neg c]
theorem put_at {k : Key} {v : V} {d : D} {kds : List (D × D)} {ks : List Key} {xs : List V} (hv : At K R v d) (h1 : kds.map (·.1) = ks.map kD) (h2 : AtAll K R xs (kds.map (·.2))) :
    ∃ (ks' : List Key) (xs' : List V), (putD kds (kD k) d).map (·.1) = ks'.map kD ∧ AtAll K R xs' ((putD kds (kD k) d).map (·.2)) ∧ putK (ks.zip xs) k v = ks'.zip xs' := by
  unfold putD putK
  rw [any_key h1 h2]
  obtain ⟨l1, l2, _⟩ := dk_len h1 h2
  split
  · obtain ⟨xs', e1, e2, e3⟩ := map_key (k := k) hv h1 h2
    exact ⟨ks, xs', e1, e2, e3⟩
  · refine ⟨ks ++ [k], xs ++ [v], by simp [h1], ?_, ?_⟩
    · rw [List.map_append]; exact h2.append (.cons hv .nil)
    · rw [List.zip_append (by omega)]; rfl
def rSetDc : TSet := fun o i v H Q => ∃ a kvs k, o = .ref a ∧ H a = some (.dK kvs) ∧ i = kV k ∧ kvs.length < sizeLine ∧ Q (upd H a (.dK (putK kvs k v)))
theorem set_dic {X : Cx} (hu : X.A.units + 1 < cLine) : PSet X rSetDc := by
  intro pins s σ H o i v ov iv u Q I ro ri rv h
  obtain ⟨a, kvs, k, rfl, e, rfl, hl, q⟩ := h
  cases ro
  exact d_setItem hu I (DPut.k e hl) ri rv fun s' I' => ⟨_, I', q⟩
end Den

namespace Den
open PySem PySem.Spec PyProof.Rows L2
section
variable {K : PySem.W.Frag} {mg : Str → Option Value} {W : WX} {A : List Nat} {R R' H : Hp} {F : List Addr} {ρ : Rho} {σ : L2.St} {p : Addr} {pa pb : Bool}
theorem Step.reput {F' : List Addr} {o' : HO} (hp : p ∈ F) (g : Sub R R') (hn : ∀ x o, R' x = some o → R x = some o ∨ x ∈ F) (hf : ∀ x ∈ F', x ∈ F) {o : HO} (hH : H p = some o) : Step R H F R' (upd H p o') F' where
  keep := fun a u e n => by
    have z : a ≠ p := fun z => n (z ▸ hp)
    rw [upd_ne z]; exact e
  grow := g
  rnew := fun a u e => (hn a u e).imp id .inl
  fnew := fun a ha => .inl (hf a ha)
  there := fun a u e => by
    by_cases z : a = p
    · subst z; exact ⟨_, upd_same⟩
    · exact ⟨u, by rw [upd_ne z]; exact e⟩
theorem Sta.rekey {i : Nat} {kds : List (D × D)} (hS : Sta K R H ρ σ F) (e : ρ[i]? = some (some (.ow .im, .dic kds))) :
    ∃ (p : Addr) (ks : List Key) (vs : List V), σ[i]? = some (some (.ref p)) ∧ H p = some (.dK (ks.zip vs)) ∧ kds.map (·.1) = ks.map kD ∧ AtAll K R vs (kds.map (·.2)) ∧
      ∀ (kds' : List (D × D)) (ks' : List Key) (vs' : List V), kds'.map (·.1) = ks'.map kD → AtAll K R vs' (kds'.map (·.2)) → ∃ F', Sta K R (upd H p (.dK (ks'.zip vs'))) (ρ.set i (some (.ow .im, .dic kds'))) σ F' ∧ Step R H F R (upd H p (.dK (ks'.zip vs'))) F' := by
  obtain ⟨v, F1, Fr, h1, h2, h3, h4⟩ := hS.slots.pick e
  obtain ⟨p, ks, vs, Fk, rfl, rfl, hk, hp, hn, hO⟩ := h2
  obtain ⟨rfl, q⟩ := kids_im hO
  have nd := h4.nodup_iff.mp hS.nd
  have mem : ∀ x, x ∈ F ↔ x ∈ p :: [] ++ Fr := fun x => h4.mem_iff
  have hpr : p ∉ Fr := fun hy => (List.nodup_append.mp nd).2.2 p (by simp) p hy rfl
  refine ⟨p, ks, vs, h1, hp, hk, q, fun kds' ks' vs' he ha => ?_⟩
  have st : Sta K R (upd H p (.dK (ks'.zip vs'))) (ρ.set i none) σ Fr := by
    refine ⟨h3.frame .refl (fun a ha => upd_ne fun z => hpr (z ▸ ha)) (fun x hx => (hS.slots.foot x ((mem x).mpr (by simp [hx]))).2), fun a o q => ?_, (List.nodup_append.mp nd).2.1⟩
    have : a ≠ p := fun z => by subst z; rw [hn] at q; cases q
    rw [upd_ne this]; exact hS.sub a o q
  have hi : i < (ρ.set i none).length := by rw [List.length_set]; exact (List.getElem?_eq_some_iff.mp e).1
  obtain ⟨F', p1, p2, p3⟩ := st.slots.put (s := .ow .im) (d := .dic kds') (v := .ref p) (G := p :: []) hi ⟨p, ks', vs', [], rfl, rfl, he, upd_same, hn, kids_of ha⟩
  rw [set_set, set_self h1] at p1
  have sub' : ∀ x ∈ F', x ∈ F := fun x hx => by
    rcases p2 x hx with z | z
    · rcases List.mem_cons.mp z with z | z
      · exact z ▸ (mem p).mpr (by simp)
      · cases z
    · exact (mem x).mpr (by simp [z])
  refine ⟨F', ⟨p1, st.sub, p3 (List.nodup_append.mpr ⟨by simp, st.nd, fun a ha b hb => ?_⟩)⟩, .reput ((mem p).mpr (by simp)) .refl (fun x o q => .inl q) sub' hp⟩
  rintro rfl
  rcases List.mem_cons.mp ha with z | z
  · exact hpr (z ▸ hb)
  · cases z
/-- d[e] = v, d a name with an owned dict of plain members -/
def sSetKey (i : Nat) (da dx : Den DV) : DenS := sBind da fun a => if isBo a = true then (fun _ => none) else fun ρ1 => match ρ1[i]? with
  | some (some (.ow _, .dic _)) => sBind dx (fun b ρ2 => match ρ2[i]? with
    | some (some (.ow .im, .dic kds)) => if isKey b.2 = true ∧ kds.length < sizeLine then some (.nx (ρ2.set i (some (.ow .im, .dic (putD kds b.2 a.2))))) else none
    | _ => none) ρ1
  | _ => none
theorem setKey_ok {T : Ends} {i : Nat} {da dx : Den DV} (h : tS K mg W A (sSetKey i da dx) T σ H) : tAsg (tE K mg W pa da) (gSub (tVar i) (tE K mg W pb dx) rSetDc) T σ H := by
  obtain ⟨ρ, R, F, o, hS, hden, hQ⟩ := h
  refine tS_bind hS hden hQ fun ρ1 a v H1 R1 F1 G1 e st q n s pp => ?_
  cases hb : isBo a with
  | true => rw [if_pos hb] at e; cases e
  | false =>
  rw [if_neg (by rw [hb]; exact Bool.false_ne_true)] at e
  have st' := st.freeze (nd_out n)
  have q' := q.freeze st.sub (not_bo hb)
  have hQ1 := hQ.step (s.trans (.freeze st.sub)) .refl
  split at e
  rotate_left
  · cases e
  rename_i k0 ds0 e0
  obtain ⟨v0, La, Lb, a1, a2, _⟩ := st'.slots.pick e0
  refine ⟨v0, a1, ?_⟩
  refine tS_bind st' e hQ1 fun ρ2 b u H2 R2 F2 G2 e2 st2 q2 n2 s2 p2 => ?_
  split at e2
  rotate_left
  · cases e2
  rename_i kds e1
  split at e2
  rotate_left
  · cases e2
  rename_i c
  cases e2
  obtain ⟨k, hk⟩ := key_of c.1
  have hu := key_at hk (q2.at st2.sub)
  obtain ⟨p, ks, vs, h1, h2, h3, h4, put⟩ := st2.rekey e1
  rw [a1] at h1; cases h1
  obtain ⟨ks', vs', g1, g2, g3⟩ := put_at (k := k) (q'.mono s2.grow) h3 h4
  obtain ⟨F', st3, s3⟩ := put (putD kds b.2 a.2) ks' vs' (by rw [hk]; exact g1) (by rw [hk]; exact g2)
  refine ⟨p, _, k, rfl, h2, hu, by rw [(dk_len h3 h4).2.2]; exact c.2, ?_⟩
  rw [g3]
  exact (hQ1.step s2 .refl).drop σ _ _ F' st3 .refl s3
end
theorem s_setKey {X : Cx} {W : WX} {A : List Nat} {pa pb : Bool} {pos : Pos} {e : Expr} {da db : Den DV} (hu : X.A.units + 65 < cLine) {i : Nat} {x : Str} {px tpos : Pos} {ix : Expr} (h : PE X (.Name x px) (tVar i)) (hi : RE X W pb ix db) (he : RE X W pa e da) (hs : swapsWithSole [.Subscript (.Name x px) ix tpos] e pos.line X.env = pure false := by rfl) (hw : swappedStores [.Subscript (.Name x px) ix tpos] e X.env = pure none := by rfl)
    (h1 : (assignEach [.Subscript (.Name x px) ix tpos] X.env).map (·.2) = [assign (.Subscript (.Name x px) ix tpos) X.env] := by rfl) (hsub : ∀ v, assign (.Subscript (.Name x px) ix tpos) X.env v = (do
      let ov ← holding [v] (eval (.Name x px) X.env)
      let iv ← holding [v, ov] (eval ix X.env)
      standAt tpos
      holding [v, ov, iv] (setItem ov iv v)
      release [v, ov, iv] []) := by intro _; rfl) : RS X W A (.Assign [.Subscript (.Name x px) ix tpos] e pos) (sSetKey i da db) := (ps_asg he (pg_sub h hi (set_dic (by omega)) hsub) hs hw h1).impD fun _ _ _ h => setKey_ok h
end Den

namespace Den
open PySem PySem.Spec PyProof.Rows L2
section
variable {N : Rho → Prop} {T : Rho → DV → Prop} {B C : Rho → Prop} {X : Rho → Exn → Prop} {ρ : Rho}
/-- a slot that holds an owned dict of plain members -/
def wDicI (x : Option Slot) (f : List (D × D) → Prop) : Prop := match x with
  | some (some (.ow .im, .dic kds)) => f kds
  | _ => False
def wDic (x : Option Slot) (P : Sh → List (D × D) → Prop) : Prop := match x with
  | some (some (.ow k, .dic kds)) => P k kds
  | _ => False
@[simp] theorem wDicI_ow {kds : List (D × D)} {f : List (D × D) → Prop} : wDicI (some (some (.ow .im, .dic kds))) f = f kds := id rfl
@[simp] theorem wDic_ow {kds : List (D × D)} {k : Sh} {P : Sh → List (D × D) → Prop} : wDic (some (some (.ow k, .dic kds))) P = P k kds := id rfl
theorem uS_setKey {i : Nat} {da dx : Den DV} : uS (sSetKey i da dx) N T B C X ρ = uE da (fun ρ a => isBo a = false ∧ wDic ρ[i]? (fun _ _ => uE dx (fun ρ b => wDicI ρ[i]? fun kds => (isKey b.2 = true ∧ kds.length < sizeLine) ∧ N (ρ.set i (some (.ow .im, .dic (putD kds b.2 a.2))))) X ρ)) X ρ := by
  unfold sSetKey; rw [uS_bind]; congr 1; funext ρ a; cases h0 : isBo a
  · simp only [if_neg Bool.false_ne_true, true_and]; unfold wDic; split
    · rename_i k ds h
      rw [uS_congr (s' := sBind dx (fun b ρ2 => match ρ2[i]? with
        | some (some (.ow .im, .dic kds)) => if isKey b.2 = true ∧ kds.length < sizeLine then some (.nx (ρ2.set i (some (.ow .im, .dic (putD kds b.2 a.2))))) else none
        | _ => none)) (by simp only [h] <;> rfl), uS_bind]
      congr 1; funext ρ b; unfold wDicI; split
      · rename_i kds h2
        by_cases c : isKey b.2 = true ∧ kds.length < sizeLine
        · rw [uS_some (ρ' := ρ.set i (some (.ow .im, .dic (putD kds b.2 a.2)))) (by simp only [h2]; rw [if_pos c])]
          exact propext ⟨fun z => ⟨c, z⟩, fun z => z.2⟩
        · rw [uS_none (by simp only [h2]; rw [if_neg c])]
          exact propext ⟨False.elim, fun z => c z.1⟩
      · rename_i h2; rw [uS_none]; split
        · rename_i h; exact absurd h (h2 _)
        · rfl
    · rename_i h; rw [uS_none]; split
      · rename_i h2; exact absurd h2 (h _ _)
      · rfl
  · simp only [if_true, Bool.true_eq_false, false_and]; rfl
end
section
variable {N : Rho → Prop} {T : Rho → DV → Prop} {B C : Rho → Prop} {X : Rho → Exn → Prop} {ρ : Rho}
theorem wS_setKey {i : Nat} {da dx : Den DV} : wS (sSetKey i da dx) N T B C X ρ = wE da (fun ρ a => isBo a = false ∧ wDic ρ[i]? (fun _ _ => wE dx (fun ρ b => wDicI ρ[i]? fun kds => (isKey b.2 = true ∧ kds.length < sizeLine) ∧ N (ρ.set i (some (.ow .im, .dic (putD kds b.2 a.2))))) X ρ)) X ρ := by
  (try rewrite [feE]); (try rewrite [feS]); exact uS_setKey
@[simp ↓] theorem wS_setKey_z {i : Nat} {da dx : Den DV} : wS (sSetKey i da dx) N T B C X ρ = wE da (Lz (tgz fun ρ a => isBo a = false ∧ wDic ρ[i]? (Lz (tgz fun _ _ => wE dx (Lz (tgz fun ρ b => wDicI ρ[i]? (Lz (tgz fun kds => (isKey b.2 = true ∧ kds.length < sizeLine) ∧ N (ρ.set i (some (.ow .im, .dic (putD kds b.2 a.2)))))))) X ρ)))) X ρ := wS_setKey
@[simp] theorem isKey_i {j : Int} : isKey (.int j) = true := id rfl
@[simp] theorem isKey_s {z : Str} : isKey (.str z) = true := id rfl
end
end Den

/-! list(range(..)), xs.extend(..), dict(pairs), sorted(dict) -/
namespace Den
open PySem PySem.Spec PyProof.Rows L2
section
variable {K : PySem.W.Frag} {mg : Str → Option Value} {W : WX} {A : List Nat} {R H : Hp} {ρ : Rho} {σ : L2.St} {Q : VK} {pa pb : Bool} {T : Ends}
/-! list(range(i, j)) -/
def rgSm (i j : Int) : Bool := decide (-1000000000 ≤ i ∧ i ≤ 1000000000 ∧ -1000000000 ≤ j ∧ j ≤ 1000000000 ∧ (j - i).toNat ≤ 16777216)
def listRgOp : D → D → Option OR
  | .int i, .int j => if rgSm i j = true then some (.l (rangeD i (j - i).toNat)) else none
  | _, _ => none
def rListRg : R2 := fun x y H Q => ∃ i j, x = .int i ∧ y = .int j ∧ RgOk i j ∧ ∀ q, H q = none → Q (.ref q) (upd H q (.lst (rgV i j)))
theorem atAll_rg {i j : Int} : AtAll K R (rgV i j) (rangeD i (j - i).toNat) := by
  unfold rgV rangeD
  have key : ∀ l : List Nat, AtAll K R (l.map fun z => V.int (i + (z : Nat))) (l.map fun z => D.int (i + (z : Nat))) := fun l => by
    induction l with
    | nil => exact .nil
    | cons c l ih => exact .cons (At.int _) ih
  exact key _
theorem ox_listRg : OpX K listRgOp rListRg := by
  intro d e o v u R H Q ho hs hv hu
  unfold listRgOp at ho
  split at ho
  · split at ho
    · rename_i i j hc
      cases ho
      unfold rgSm at hc
      rw [decide_eq_true_eq] at hc
      cases hv; cases hu
      exact ⟨rfl, fun w => ⟨i, j, rfl, rfl, ⟨by omega, by omega, by omega, by omega, by have := hc.2.2.2.2; omega⟩, fun q hq => w _ q atAll_rg hq⟩⟩
    · cases ho
  · cases ho
/-! dict(list of pairs) -/
def pairOf : D → Option (D × D)
  | .tup [k, v] => if isKey k = true then some (k, v) else none
  | _ => none
def pairsOf : List D → Option (List (D × D))
  | [] => some []
  | d :: ds => match pairOf d, pairsOf ds with
    | some p, some r => some (p :: r)
    | _, _ => none
def mergeD (kds more : List (D × D)) : List (D × D) := more.foldl (fun acc p => putD acc p.1 p.2) kds
def dictAOp : List D → Option OR
  | [.dic kds] => some (.k kds)
  | [.lst ds] => (pairsOf ds).map fun ps => .k (mergeD [] ps)
  | _ => none
def rDictP (K : PySem.W.Frag) : List V → Hp → VK → Prop := fun xs H Q => ∃ (a : Addr) (ps : List Addr) (kvs : List (Key × V)), xs = [.ref a] ∧ SqL K H a (ps.map V.ref) ∧ Paired (fun p kv => SqT K H p [kV kv.1, kv.2]) ps kvs ∧
    ∀ p, H p = none → Q (.ref p) (upd H p (.dK (mergeK [] kvs)))
def rDictA (K : PySem.W.Frag) : List V → Hp → VK → Prop := fun xs H Q => rDictC xs H Q ∨ rDictP K xs H Q
theorem cr_dictA {X : Cx} (hc : X.calm = true) : CallR X (.type "dict") (rDictA X.K) := call_dictD.or (call_dictP hc)
theorem paired_imp {α β : Type} {P Q : α → β → Prop} (i : ∀ a b, P a b → Q a b) : ∀ {as : List α} {bs : List β}, Paired P as bs → Paired Q as bs
  | _, _, .nil => .nil
  | _, _, .cons h t => .cons (i _ _ h) (paired_imp i t)
theorem pairs_at : ∀ {ds : List D} {vs : List V} {kds : List (D × D)}, AtAll K R vs ds → pairsOf ds = some kds →
    ∃ (ps : List Addr) (ks : List Key) (xs : List V), vs = ps.map V.ref ∧ kds.map (·.1) = ks.map kD ∧ AtAll K R xs (kds.map (·.2)) ∧ Paired (fun p (kv : Key × V) => SqT K R p [kV kv.1, kv.2]) ps (ks.zip xs)
  | [], _, _, .nil, h => by cases h; exact ⟨[], [], [], rfl, rfl, .nil, .nil⟩
  | d :: ds, _, kds, .cons (v := v) h1 h2, h => by
    unfold pairsOf at h
    split at h
    · rename_i p r e1 e2
      cases h
      obtain ⟨ps, ks, xs, g1, g2, g3, g4⟩ := pairs_at h2 e2
      unfold pairOf at e1
      split at e1
      · rename_i k w
        split at e1
        · rename_i hk
          cases e1
          obtain ⟨kk, rfl⟩ := key_of hk
          cases h1 with | tup a b =>
          cases b with | cons b1 b2 =>
          cases b2 with | cons b2 b3 =>
          cases b3
          rename_i q vk vw
          have := key_at rfl b1
          subst this
          exact ⟨q :: ps, kk :: ks, vw :: xs, by simp [g1], by simp [g2], .cons b2 g3, .cons a g4⟩
        · cases e1
      · cases e1
    · cases h
theorem merge_at : ∀ {ks : List Key} {xs : List V} {more : List (D × D)} {kds : List (D × D)} {ks0 : List Key} {xs0 : List V}, more.map (·.1) = ks.map kD → AtAll K R xs (more.map (·.2)) → kds.map (·.1) = ks0.map kD → AtAll K R xs0 (kds.map (·.2)) →
    ∃ (ks' : List Key) (xs' : List V), (mergeD kds more).map (·.1) = ks'.map kD ∧ AtAll K R xs' ((mergeD kds more).map (·.2)) ∧ mergeK (ks0.zip xs0) (ks.zip xs) = ks'.zip xs'
  | [], xs, [], kds, ks0, xs0, h1, h2, h3, h4 => ⟨ks0, xs0, h3, h4, rfl⟩
  | _ :: _, _, [], _, _, _, h1, _, _, _ => by simp at h1
  | [], _, _ :: _, _, _, _, h1, _, _, _ => by simp at h1
  | k :: ks, xs, m :: more, kds, ks0, xs0, h1, h2, h3, h4 => by
    cases h2 with | cons a b =>
    rename_i v xs
    simp only [List.map_cons, List.cons.injEq] at h1
    obtain ⟨ks1, xs1, g1, g2, g3⟩ := put_at (k := k) a h3 h4
    rw [← h1.1] at g1 g2
    obtain ⟨ks', xs', e1, e2, e3⟩ := merge_at h1.2 b g1 g2
    refine ⟨ks', xs', e1, e2, ?_⟩
    rw [← e3, ← g3]
    rfl
theorem cx_dictA : CallX K dictAOp (rDictA K) := by
  intro ds o vs R H Q ho hs hv
  unfold dictAOp at ho
  split at ho
  · have := cx_dict [.dic _] o vs R H Q (by exact ho) hs hv
    exact ⟨this.1, fun w => .inl (this.2 w)⟩
  · obtain ⟨kds, e, rfl⟩ := Option.map_eq_some_iff.mp ho
    cases hv with | cons h1 h2 => cases h2; cases h1 with | lst a b =>
    obtain ⟨ps, ks, xs, g1, g2, g3, g4⟩ := pairs_at b e
    obtain ⟨ks', xs', e1, e2, e3⟩ := merge_at (ks0 := []) (xs0 := []) (kds := []) g2 g3 rfl .nil
    subst g1
    refine ⟨rfl, fun w => .inr ⟨_, ps, _, rfl, hs.sqL a, paired_imp (fun _ _ h => hs.sqT h) g4, fun p hp => ?_⟩⟩
    have e3' : mergeK [] (ks.zip xs) = ks'.zip xs' := e3
    rw [e3']
    exact w ks' xs' p e1 e2 hp
  · cases ho
/-! extend -/
def sExtend (i : Nat) (da : Den DV) : DenS := fun ρ => match ρ[i]? with
  | some (some (.ow _, .lst _)) => sBind da (fun a ρ1 => match a, ρ1[i]? with
    | (.sh (.ow .im), .lst es), some (some (.ow .im, .lst ds)) => if ds.length + es.length ≤ sizeLine then some (.nx (ρ1.set i (some (.ow .im, .lst (ds ++ es))))) else none
    | _, _ => none) ρ
  | _ => none
theorem extend_ok {i : Nat} {da : Den DV} (h : tS K mg W A (sExtend i da) T σ H) : tDrop (tBM K "list" rExtend (tVar i) (tCons (tE K mg W pa da) tNil)) T σ H := by
  obtain ⟨ρ, R, F, o, hS, hden, hQ⟩ := h
  unfold sExtend at hden
  split at hden
  rotate_left
  · cases hden
  rename_i k0 ds0 e0
  obtain ⟨v0, La, Lb, a1, a2, _⟩ := hS.slots.pick e0
  refine ⟨v0, a1, ?_, ?_⟩
  · obtain ⟨p, vs, F2, rfl, _, h, _⟩ := a2
    exact .inl ⟨rfl, vs, SqL.of h⟩
  refine tS_bind hS hden hQ fun ρ1 a v H1 R1 F1 G1 e st q n s pp => ?_
  split at e
  rotate_left
  · cases e
  rename_i es ds e1
  split at e
  rotate_left
  · cases e
  rename_i hl
  cases e
  obtain ⟨b, ws, F2, rfl, rfl, hb, hn, hO⟩ := q
  obtain ⟨rfl, qb⟩ := kids_im hO
  obtain ⟨p, vs, h1, h2, h3, put⟩ := st.recast e1
  rw [a1] at h1; cases h1
  obtain ⟨F', st', s'⟩ := put (ds ++ es) (vs ++ ws) (h3.append qb)
  refine ⟨p, b, vs, ws, rfl, rfl, h2, hb, by rw [h3.length, qb.length]; exact hl, ?_⟩
  exact (hQ.step s .refl).drop σ _ _ F' st' .refl s'
end
section
variable {X : Cx} {W : WX} {A : List Nat} {pa pb : Bool}
theorem e_listRg {a b : Expr} {da db : Den DV} {p p2 pos pos2 : Pos} (hc : X.calm = true) (hg : Gl X "list") (hm : X.mg "list" = none) (hg2 : Gl X "range") (hm2 : X.mg "range" = none) (ha : RE X W pa a da) (hb : RE X W pb b db)
    (na : starEach [a, b] X.env = (false, eval a X.env) :: starEach [b] X.env := by rfl) (nb : starEach [b] X.env = (false, eval b X.env) :: starEach [] X.env := by rfl) (hp : (backTo pos2 (starEach [b] X.env)).any (·.1) = false := by rfl)
    (ne : starEach [.Call (.Name "range" p2) [a, b] [] pos2] X.env = (false, eval (.Call (.Name "range" p2) [a, b] [] pos2) X.env) :: starEach [] X.env := by rfl) :
    RE X W (pa && pb) (.Call (.Name "list" p) [.Call (.Name "range" p2) [a, b] [] pos2] [] pos) (dBin pb listRgOp da db) :=
  (pe_listRg hc hg hm (prg_2 hg2 hm2 ha hb na nb hp) ne).impD fun _ _ _ h => bin_ok ox_listRg h
theorem s_extend {i : Nat} {x : Str} {px apos cpos pos : Pos} {e : Expr} {da : Den DV} (h : PE X (.Name x px) (tVar i)) (ha : RE X W pa e da) (hline : (apos.endLine == cpos.line) = true := by rfl)
    (hbase : attributeBase (.Name x px) "extend" X.env (eval (.Name x px) X.env) = eval (.Name x px) X.env := by rfl) (hfew : ((backTo cpos (starEach [e] X.env)).all (fun x => !x.1) && (backToKw cpos (keywordEach [] X.env)).all (fun x => x.1.isSome) && decide (([e] : List Expr).length + ([] : List Keyword).length + (if ([] : List Keyword).isEmpty then 0 else 1) < 30)) = true := by rfl)
    (hst : starEach [e] X.env = (false, eval e X.env) :: starEach [] X.env := by rfl) (hplain : (backTo cpos (starEach [] X.env)).any (·.1) = false := by rfl) (hs : swapsWith (.Call (.Attribute (.Name x px) "extend" apos) [e] [] cpos) none pos.line X.env = pure false := by rfl) :
    RS X W A (.Expr (.Call (.Attribute (.Name x px) "extend" apos) [e] [] cpos) pos) (sExtend i da) :=
  (ps_expr (pe_bm PySem.F.plainAttrs_list PySem.F.slot_list_extend PySem.F.type_list_extend mt_extend h (pa_cons ha pa_nil hst) hbase hfew hline hst hplain) hs).impD fun _ _ _ h => extend_ok h
end
section
variable {N : Rho → Prop} {T : Rho → DV → Prop} {B C : Rho → Prop} {X : Rho → Exn → Prop} {ρ : Rho} {Q : Rho → DV → Prop}
/-- a new list of plain members -/
def wNewL (a : DV) (f : List D → Prop) : Prop := match a with
  | (.sh (.ow .im), .lst es) => f es
  | _ => False
@[simp] theorem wNewL_ow {es : List D} {f : List D → Prop} : wNewL (.sh (.ow .im), .lst es) f = f es := id rfl
theorem uS_extend {i : Nat} {da : Den DV} : uS (sExtend i da) N T B C X ρ = wLst ρ[i]? (fun _ _ => uE da (fun ρ a => wNewL a fun es => wLstI ρ[i]? fun ds => ds.length + es.length ≤ sizeLine ∧ N (ρ.set i (some (.ow .im, .lst (ds ++ es))))) X ρ) := by
  unfold wLst; split
  · rename_i k ds h
    rw [uS_congr (s' := sBind da (fun a ρ1 => match a, ρ1[i]? with
      | (.sh (.ow .im), .lst es), some (some (.ow .im, .lst ds)) => if ds.length + es.length ≤ sizeLine then some (.nx (ρ1.set i (some (.ow .im, .lst (ds ++ es))))) else none
      | _, _ => none)) (by unfold sExtend; simp only [h] <;> rfl), uS_bind]
    congr 1; funext ρ a; unfold wNewL; split
    · rename_i es
      unfold wLstI; split
      · rename_i ds h2
        by_cases c : ds.length + es.length ≤ sizeLine
        · rw [uS_some (ρ' := ρ.set i (some (.ow .im, .lst (ds ++ es)))) (by simp only [h2]; rw [if_pos c])]
          exact propext ⟨fun z => ⟨c, z⟩, fun z => z.2⟩
        · rw [uS_none (by simp only [h2]; rw [if_neg c])]
          exact propext ⟨False.elim, fun z => c z.1⟩
      · rename_i h2; rw [uS_none]; split
        · rename_i h3 h; exact absurd h (h2 _)
        · rfl
    · rename_i h2; rw [uS_none]; split
      · exact absurd rfl (h2 _)
      · rfl
  · rename_i h; rw [uS_none]; unfold sExtend; split
    · rename_i h2; exact absurd h2 (h _ _)
    · rfl
theorem wS_extend {i : Nat} {da : Den DV} : wS (sExtend i da) N T B C X ρ = wLst ρ[i]? (fun _ _ => wE da (fun ρ a => wNewL a fun es => wLstI ρ[i]? fun ds => ds.length + es.length ≤ sizeLine ∧ N (ρ.set i (some (.ow .im, .lst (ds ++ es))))) X ρ) := by
  (try rewrite [feE]); (try rewrite [feS]); exact uS_extend
@[simp ↓] theorem wS_extend_z {i : Nat} {da : Den DV} : wS (sExtend i da) N T B C X ρ = wLst ρ[i]? (Lz (tgz fun _ _ => wE da (Lz (tgz fun ρ a => wNewL a (Lz (tgz fun es => wLstI ρ[i]? (Lz (tgz fun ds => ds.length + es.length ≤ sizeLine ∧ N (ρ.set i (some (.ow .im, .lst (ds ++ es)))))))))) X ρ)) := wS_extend
@[simp] theorem listRg_ii {i j : Int} : listRgOp (.int i) (.int j) = if rgSm i j = true then some (.l (rangeD i (j - i).toNat)) else none := id rfl
@[simp] theorem dictA_d {kds : List (D × D)} : dictAOp [.dic kds] = some (.k kds) := id rfl
@[simp] theorem dictA_l {ds : List D} : dictAOp [.lst ds] = (pairsOf ds).map fun ps => .k (mergeD [] ps) := id rfl
end
end Den

/-! texts in order: what sorted makes of lists of texts -/
namespace Den
open PySem PySem.Calls PySem.Spec PyProof.Rows L2 PySem.W
theorem cps_inj {a b : Str} (h : a.cps.toList = b.cps.toList) : a = b := by
  obtain ⟨x⟩ := a; obtain ⟨y⟩ := b
  have : x = y := Array.toList_inj.1 h
  rw [this]
def sLe (a b : Str) : Bool := decide (a.cps.toList ≤ b.cps.toList)
theorem leD_str (a b : Str) : leD (.str a) (.str b) = sLe a b := by
  have e := congrFun (congrFun (dataLe_str (fun x : Str => x)) a) b
  exact e
theorem sLe_refl (a : Str) : sLe a a = true := decide_eq_true (List.le_refl _)
theorem sLe_trans (a b c : Str) (h : sLe a b = true) (h2 : sLe b c = true) : sLe a c = true := by
  unfold sLe at *; rw [decide_eq_true_eq] at *; exact List.le_trans h h2
theorem sLe_total (a b : Str) : (sLe a b || sLe b a) = true := by
  unfold sLe; rw [Bool.or_eq_true, decide_eq_true_eq, decide_eq_true_eq]; exact List.le_total _ _
theorem sLe_antisymm {a b : Str} (h : sLe a b = true) (h2 : sLe b a = true) : a = b := by
  unfold sLe at *; rw [decide_eq_true_eq] at *; exact cps_inj (List.le_antisymm h h2)
def sSort (l : List Str) : List Str := l.mergeSort sLe
theorem sSort_perm (l : List Str) : (sSort l).Perm l := List.mergeSort_perm _ _
theorem sSort_pw (l : List Str) : (sSort l).Pairwise fun a b => sLe a b = true := List.pairwise_mergeSort sLe_trans sLe_total l
theorem sSort_uniq {l m : List Str} (hl : l.Pairwise fun a b => sLe a b = true) (hm : m.Pairwise fun a b => sLe a b = true) (p : l.Perm m) : l = m :=
  p.eq_of_pairwise (fun _ _ _ _ => sLe_antisymm) hl hm
theorem sSort_of {l m : List Str} (hl : l.Pairwise fun a b => sLe a b = true) (p : l.Perm m) : l = sSort m := sSort_uniq hl (sSort_pw m) (p.trans (sSort_perm m).symm)
theorem sSort_congr {l m : List Str} (p : l.Perm m) : sSort l = sSort m := sSort_of (sSort_pw l) ((sSort_perm l).trans p)
theorem sSort_mem {l : List Str} {x : Str} : x ∈ sSort l ↔ x ∈ l := (sSort_perm l).mem_iff
theorem sSort_len (l : List Str) : (sSort l).length = l.length := (sSort_perm l).length_eq
theorem sSort_idem (l : List Str) : sSort (sSort l) = sSort l := sSort_congr (sSort_perm l)
theorem sorted_strs (ks : List Str) : (ks.map D.str).mergeSort leD = (sSort ks).map D.str :=
  (List.map_mergeSort (f := D.str) (r := sLe) (s := leD) (l := ks) (fun a _ b _ => (leD_str a b).symm)).symm
theorem rising_pw : ∀ (p : Str) (l : List Str), risingS p l = true → (p :: l).Pairwise fun a b => sLe a b = true
  | p, [], _ => by simp
  | p, x :: r, h => by
    have h' : (!ltCps x.cps.toList p.cps.toList && risingS x r) = true := h
    rw [Bool.and_eq_true, ltCps_eq] at h'
    have ih := rising_pw x r h'.2
    have hx : sLe p x = true := by
      unfold sLe; rw [decide_eq_true_eq]; exact List.not_lt.1 (by simpa using h'.1)
    refine List.pairwise_cons.2 ⟨fun y hy => ?_, ih⟩
    rcases List.mem_cons.1 hy with rfl | hy
    · exact hx
    · exact sLe_trans _ _ _ hx ((List.pairwise_cons.1 ih).1 y hy)
theorem sortedS_eq {ys ks : List Str} (p : ys.Perm ks) (s : sortedS ys = true) : ys = sSort ks := by
  refine sSort_of ?_ p
  cases ys with
  | nil => exact .nil
  | cons x r => exact rising_pw x r s
theorem shps_ss {k : Nat} : ∀ {l : List Str}, (∀ x ∈ l, PyData.strOk x = true) → D.shps k (l.map D.str) = true
  | [], _ => by cases k <;> rfl
  | x :: r, h => by
    rw [List.map_cons]; unfold D.shps; rw [shps_ss fun y hy => h y (List.mem_cons_of_mem _ hy), Bool.and_true]
    have := h x (List.mem_cons_self ..)
    cases k <;> exact this
theorem sortedOp_strs {l : List Str} (h : l.length ≤ sizeLine) (ho : ∀ x ∈ l, PyData.strOk x = true) : sortedOp [.lst (l.map D.str)] = some (.l ((sSort l).map D.str)) := by
  unfold sortedOp
  simp only [List.length_map]
  split
  · rename_i h1
    have : sSort l = l := by
      match l, h1 with
      | [], _ => simp [sSort]
      | [x], _ => simp [sSort]
    rw [this]
  · rw [if_pos, sorted_strs]
    simp only [Bool.and_eq_true, decide_eq_true_eq]
    refine ⟨⟨⟨h, shps_ss ho⟩, ?_⟩, ?_⟩
    · unfold alikeL; rw [List.all_eq_true]; intro d hd; rw [List.all_eq_true]; intro e he
      obtain ⟨a, _, rfl⟩ := List.mem_map.1 hd; obtain ⟨b, _, rfl⟩ := List.mem_map.1 he; rfl
    · rw [Bool.or_eq_true]; right; unfold plainL; rw [List.all_eq_true]; intro d hd
      obtain ⟨a, _, rfl⟩ := List.mem_map.1 hd; rfl
/-! sorted(d), d a dict with keys that are texts -/
def keysS : List (D × D) → Option (List Str)
  | [] => some []
  | (.str s, _) :: r => (keysS r).map (s :: ·)
  | _ => none
def sortedAOp : List D → Option OR
  | [.dic kds] => match keysS kds with
    | some ks => if ks.length < 64 then some (.l ((sSort ks).map D.str)) else none
    | none => none
  | ds => sortedOp ds
def rSortDic : List V → Hp → VK → Prop := fun xs H Q => ∃ (a : Addr) (kvs : List (Key × V)) (ks : List Str), xs = [.ref a] ∧ Rd H a (.dK kvs) ∧ kvs.map (·.1) = ks.map Sum.inr ∧ ks.length < 64 ∧
    ∀ ys p, ys.Perm ks → sortedS ys = true → H p = none → Q (.ref p) (upd H p (.lst (ys.map V.str)))
def rSortA (K : PySem.W.Frag) : List V → Hp → VK → Prop := fun xs H Q => rSortD K xs H Q ∨ rSortDic xs H Q
theorem cr_sortA {X : Cx} (hc : X.calm = true) (hu : X.A.units + 64 < cLine) : CallR X (.builtin "sorted") (rSortA X.K) := (cr_sortD hu).or (call_sortedD hc)
theorem keysS_eq : ∀ {kds : List (D × D)} {ks : List Str} {kk : List Key}, keysS kds = some ks → kds.map (·.1) = kk.map kD → kk = ks.map Sum.inr
  | [], _, kk, h, e => by
    cases h; cases kk with
    | nil => rfl
    | cons => simp at e
  | (d, v) :: r, ks, kk, h, e => by
    unfold keysS at h
    split at h
    · rename_i h1; cases h1
    · rename_i s w r' h1
      cases h1
      obtain ⟨ks', h2, rfl⟩ := Option.map_eq_some_iff.1 h
      cases kk with
      | nil => simp at e
      | cons k kk =>
        simp only [List.map_cons, List.cons.injEq] at e
        rw [keysS_eq h2 e.2, List.map_cons]
        congr 1
        cases k with
        | inl i => simp [kD] at e
        | inr t => have := e.1; simp only [kD, D.str.injEq] at this; rw [this]
    · cases h
theorem cx_sortA {K : PySem.W.Frag} : CallX K sortedAOp (rSortA K) := by
  intro ds o vs R H Q ho hs hv
  unfold sortedAOp at ho
  split at ho
  · split at ho
    · rename_i kds ks hk
      split at ho
      · rename_i h64
        cases ho
        cases hv with | cons h1 h2 => cases h2; cases h1 with | dic a b c =>
        rename_i ad kk xs
        have e := keysS_eq hk b
        refine ⟨rfl, fun w => .inr ⟨_, _, ks, rfl, hs.rd a, ?_, h64, fun ys p hp hy hf => ?_⟩⟩
        · rw [List.map_fst_zip (by rw [(dk_len b c).1, (dk_len b c).2.1]; exact Nat.le_refl _), e]
        · rw [sortedS_eq hp hy]
          refine w _ p ?_ hf
          have key : ∀ l : List Str, AtAll K R (l.map V.str) (l.map D.str) := fun l => by
            induction l with
            | nil => exact .nil
            | cons c l ih => exact .cons (At.str _) ih
          exact key _
      · cases ho
    · cases ho
  · have := cx_sorted ds o vs R H Q ho hs hv
    exact ⟨this.1, fun w => .inl (this.2 w)⟩
@[simp] theorem sortedA_l {ds : List D} : sortedAOp [.lst ds] = sortedOp [.lst ds] := id rfl
end Den

/-! t.index(x), t a tuple of texts -/
namespace Den
open PySem PySem.Spec PyProof.Rows L2
def isT : D → Bool
  | .set _ => true
  | _ => false
@[simp] theorem isT_t {xs : List D} : isT (.set xs) = true := id rfl
/-- a tuple that is known as an object: by tuple(xs) -/
def Tx (H : Hp) (x : V) : Prop := ∃ a o xs, x = .ref a ∧ H a = some (.frz o (.tup xs)) ∧ o.cls = .type "tuple" ∧ o.dict = none
theorem tx_of {K : PySem.W.Frag} {H : Hp} {v : V} {d : D} (h : isT d = true) (q : At K H v d) : Tx H v := by
  cases q with
  | tux h1 h2 h3 h4 => exact ⟨_, _, _, rfl, h1, h2, h3⟩
  | _ => cases h
section
variable {X : Cx} {e o : Expr} {es : List Expr} {te : TE} {ta : TA} {r : V → List V → Hp → VK → Prop} {name : Str} {id : String} {apos cpos pos : Pos}
def tTM (r : V → List V → Hp → VK → Prop) (te : TE) (ta : TA) : TE := fun σ H Q => te σ H fun x H1 => Tx H1 x ∧ ta σ H1 fun xs H2 => r x xs H2 Q
theorem pe_tm (slot : PySem.Slot "tuple" name id) (hty : typeOf (.builtin id) = pure (.type "method_descriptor")) (hm : MtR X id r) (ho : PE X o te) (ha : PA X (e :: es) ta)
    (hbase : attributeBase o name X.env (eval o X.env) = eval o X.env := by rfl)
    (hfew : ((backTo cpos (starEach (e :: es) X.env)).all (fun x => !x.1) && (backToKw cpos (keywordEach [] X.env)).all (fun x => x.1.isSome) && decide ((e :: es).length + ([] : List Keyword).length + (if ([] : List Keyword).isEmpty then 0 else 1) < 30)) = true := by rfl)
    (hline : (apos.endLine == cpos.line) = true := by rfl) (hs : starEach (e :: es) X.env = (false, eval e X.env) :: starEach es X.env := by rfl) (hplain : (backTo cpos (starEach es X.env)).any (·.1) = false := by rfl) :
    PE X (.Call (.Attribute o name apos) (e :: es) [] cpos) (tTM r te ta) := by
  constructor
  intro pins s σ H Q I h
  apply wpAny_Call_method_late hbase hfew hline rfl
  apply thn (ho.run pins s σ H _ I h)
  rintro v s1 ⟨x, H1, I1, r1, ⟨a, ob, vs, rfl, e1, e2, e3⟩, q1⟩
  cases r1
  have g := (I1.hok a _ e1).1
  refine ⟨"tuple", id, PySem.F.plainAttrs_tuple, slot, hty, ⟨ob, g, e2⟩, (fun b z => by cases z; exact ⟨ob, g, e3⟩), ?_⟩
  have w := ha.run cpos pins s1 σ H1 _ I1 q1
  rw [hs] at w ⊢
  apply Calls.callWith_builtin (by show (false || (backTo cpos (starEach es X.env)).any (·.1)) = false; simp [hplain])
  apply Calls.evalArgs_plain
  exact thn w fun us s2 z => by
    obtain ⟨ws, H2, I2, r2, q2⟩ := z
    exact hm pins s2 σ H2 (.ref a) ws (.ref a) us Q I2 rfl r2 q2
/-- tuple(xs) as an object of its own -/
def rTupX (K : PySem.W.Frag) : List V → Hp → VK → Prop := fun vs H Q => ∃ a xs, vs = [.ref a] ∧ SqL K H a xs ∧ ∀ p o, o.cls = .type "tuple" → o.dict = none → H p = none → Q (.ref p) (upd H p (.frz o (.tup xs)))
theorem cr_tupX : CallR X (.type "tuple") (rTupX X.K) := by
  intro pins s σ H vs us Q I r h
  obtain ⟨a, xs, rfl, hq, q⟩ := h
  rw [Vals.ref1 r]
  obtain ⟨its, r', pl, hz⟩ := I.list hq
  have hl := r'.length
  refine call_tuple_list pl.isList (fun h' kp => ?_) ?_
  · skip
    have I1 : Inv X pins σ H { s with heap := h' } := I.kept (t' := s.toks) kp
    have nw : ObjOk X.prog X.w (upd H h'.objs.size (.frz { cls := .type "tuple", data := .seq its.toArray } (.tup xs))) (h'.push { cls := .type "tuple", data := .seq its.toArray }) h'.objs.size (.frz { cls := .type "tuple", data := .seq its.toArray } (.tup xs)) :=
      ⟨Heap.get?_push_size _ rfl, hz, its, r', IsTup.new _ _⟩
    have I2 := I1.laid (t' := s.toks) (fun b o z => Heap.get?_push_of_some _ z) (Nat.le_refl _) nw
    exact ⟨.ref h'.objs.size, _, I2, rfl, q _ _ rfl rfl (I1.hok.fresh (Nat.le_refl _))⟩
  · rw [List.size_toArray]; omega
end
def firstS (z : Str) : List Str → Option Nat
  | [] => none
  | y :: ys => if y = z then some 0 else (firstS z ys).map (· + 1)
def tindexOp : D → List D → Option OR
  | .set ds, [.str z] => (strsOf ds).bind fun ys => (firstS z ys).map fun j => .s (.int (j : Nat))
  | _, _ => none
theorem firstS_ok {z : Str} : ∀ {ys : List Str} {j : Nat}, firstS z ys = some j → ys[j]? = some z ∧ ∀ m, m < j → ys[m]? ≠ some z
  | [], _, h => by cases h
  | y :: ys, j, h => by
    unfold firstS at h
    split at h
    · rename_i e
      cases h
      exact ⟨by simp [e], fun m hm => absurd hm (Nat.not_lt_zero _)⟩
    · rename_i e
      obtain ⟨k, h1, rfl⟩ := Option.map_eq_some_iff.1 h
      obtain ⟨h2, h3⟩ := firstS_ok h1
      refine ⟨by simpa using h2, fun m hm => ?_⟩
      cases m with
      | zero => simpa using e
      | succ m => simpa using h3 m (by omega)
theorem firstS_mem {z : Str} : ∀ {ys : List Str}, z ∈ ys → ∃ j, firstS z ys = some j ∧ j < ys.length
  | y :: ys, h => by
    unfold firstS
    by_cases e : y = z
    · exact ⟨0, by rw [if_pos e], by simp⟩
    · rw [if_neg e]
      obtain ⟨j, h1, h2⟩ := firstS_mem (z := z) (ys := ys) (by
        rcases List.mem_cons.1 h with rfl | h
        · exact absurd rfl e
        · exact h)
      exact ⟨j + 1, by rw [h1]; rfl, by simpa using h2⟩
theorem mx_tindex {K : PySem.W.Frag} : MethX K tindexOp (fun x xs H Q => ∃ p, ∃ ys : List Str, ∃ z j, x = .ref p ∧ xs = [.str z] ∧ SqT K H p (ys.map V.str) ∧ ys[j]? = some z ∧ (∀ m, m < j → ys[m]? ≠ some z) ∧ Q (.int (j : Nat)) H) := by
  intro d ds o v vs R H Q ho hs hv hu
  unfold tindexOp at ho
  split at ho
  · obtain ⟨ys, e1, e2⟩ := Option.bind_eq_some_iff.1 ho
    obtain ⟨j, e3, rfl⟩ := Option.map_eq_some_iff.1 e2
    obtain ⟨h1, h2⟩ := firstS_ok e3
    cases hv with | tux a _ _ b =>
    cases hu with | cons c1 c2 =>
    cases c2
    have z1 := c1.scal rfl
    subst z1
    exact ⟨rfl, fun w => ⟨_, ys, _, j, rfl, rfl, by rw [← strs_at e1 b]; exact .inl (.inr ⟨_, a⟩), h1, h2, w.2⟩⟩
  · cases ho
section
variable {X : Cx} {W : WX} {pa pb : Bool}
theorem e_tindex {o e : Expr} {apos cpos : Pos} {da : Den DV} {das : Den (List DV)} (ho : RE X W pa o da) (ha : RA X W pb [e] das) (hbase : attributeBase o "index" X.env (eval o X.env) = eval o X.env := by rfl) (hline : (apos.endLine == cpos.line) = true := by rfl)
    (hfew : ((backTo cpos (starEach [e] X.env)).all (fun x => !x.1) && (backToKw cpos (keywordEach [] X.env)).all (fun x => x.1.isSome) && decide (([e] : List Expr).length + ([] : List Keyword).length + (if ([] : List Keyword).isEmpty then 0 else 1) < 30)) = true := by rfl)
    (hst : starEach [e] X.env = (false, eval e X.env) :: starEach [] X.env := by rfl) (hplain : (backTo cpos (starEach [] X.env)).any (·.1) = false := by rfl) :
    RE X W (pa && pb) (.Call (.Attribute o "index" apos) [e] [] cpos) (dMeth pb isT tindexOp da das) := (pe_tm PySem.F.slot_tuple_index PySem.F.type_tuple_index mt_tup_index ho ha hbase hfew hline hst hplain).impD fun _ _ _ h => meth_okP (P := fun x H => Tx H x) (fun _ _ _ => tx_of) mx_tindex h
end
def tupXOp : List D → Option OR
  | [.lst ds] => some (.x ds)
  | _ => none
theorem cx_tupX {K : PySem.W.Frag} : CallX K tupXOp (rTupX K) := by
  intro ds o vs R H Q ho hs hv
  unfold tupXOp at ho
  split at ho
  · cases ho
    cases hv with | cons h1 h2 => cases h2; cases h1 with | lst a b =>
    exact ⟨rfl, fun w => ⟨_, _, rfl, hs.sqL a, fun p o e1 e2 hp => w _ p o e1 e2 b hp⟩⟩
  · cases ho
@[simp] theorem tupX_l {ds : List D} : tupXOp [.lst ds] = some (.x ds) := id rfl
@[simp] theorem lent_x {ds : List D} : OR.lent (.x ds) = false := id rfl
@[simp] theorem val_x {ds : List D} : OR.val (.x ds) = (.sh .im, .set ds) := id rfl
@[simp] theorem idx_x {ds : List D} {i : Int} : idxD (.set ds) (.int i) = atI ds i := id rfl
@[simp] theorem len_x {ds : List D} : lenOp [.set ds] = some (.s (.int ds.length)) := id rfl
@[simp] theorem listS_x {ds : List D} : listSOp [.set ds] = some (.l ds) := id rfl
@[simp] theorem items_x {ds : List D} : itemsOf (.set ds) = some ds := id rfl
@[simp] theorem tindex_ts {ys : List Str} {z : Str} : tindexOp (.set (ys.map D.str)) [.str z] = (firstS z ys).map fun j => .s (.int (j : Nat)) := by
  show (strsOf (ys.map D.str)).bind _ = _
  rw [strsOf_map]; rfl
end Den

set_option maxHeartbeats 2000000
/-! An own exception class whose __init__ calls super().__init__ and keeps its arguments as fields: the def's promise. -/
namespace Den
open PySem PySem.Spec PyProof.Rows L2 NdefX

/-- the super-call's words -/
structure SupT (P : Program) (K : PySem.W.Frag) (C f cc cda : Addr) (qual : Str) : Prop where
  cod : PySem.W.codeIn K (.ref cda) qual = true
  cobj : ∃ (cl : Value) (d : Option Addr) (sl : Array (Option Value)) (vs : Array Value) (file : Str) (tf : Tok), K.lookup cda = some ⟨cl, d, .fields vs, sl⟩ ∧ vs[2]? = some (.str file tf) ∧ ((P.main.file : Str) == file) = true
  cel : ∃ (cl : Value) (d : Option Addr) (sl : Array (Option Value)), K.lookup cc = some ⟨cl, d, .cell (some (.ref C)), sl⟩
  own : PySem.W.mroIn K C (.ref C) = some true
  sup : PySem.W.ks_superIn K C C "__init__" = some (some (.builtin "ValueError.__init__"))
  thi : PySem.W.nsIn K cStatics "thirdparty.any" = some none
  ve : PySem.W.subIn K (.ref C) (.type "ValueError") = some true
  top : (P.main.scope.names.lookup ("super" : Str)).isSome = false

theorem cls_here {K : PySem.W.Frag} {h : Heap} {C : Addr} {cd : ClassData} (Y : K.In h) (e : PySem.W.clsIn K C = some cd) : ∃ o, h.get? C = some o ∧ o.data = .cls cd := by
  unfold PySem.W.clsIn at e
  split at e
  · rename_i c d cd' sl ho
    cases e
    exact ⟨_, Y _ _ ho, rfl⟩
  · cases e
section
variable {X : Cx} {pins : List (Addr × Obj)} {σ : L2.St} {H : Hp} {s : Shared} {a C : Addr}
/-- the bound ValueError.__init__, called -/
theorem bound_init {u : Addr} {us : List Value} {Q : Value → Shared → Prop} {E : Value → Shared → Prop} {A : Around} (T : OexC X.K C) (I : Inv X pins σ H s) (e : H a = some (exo a C none)) (hu : s.heap.get? u = some (PySem.W.kxs_mw "ValueError.__init__" a)) (hl : us.length ≤ sizeLine)
    (h : ∀ s', Inv X pins σ H s' → Q .none s') : wpAny (model X.prog X.w) A (call (.ref u) us) Q E s := by
  obtain ⟨nm, q, N, bs, bm, sn, sub, ab, col, dd, k0, k1, k2, k3, k5, hC, hbm⟩ := T.cls
  obtain ⟨t1, ho⟩ := exo_at I.hok e
  obtain ⟨hp, g, d, t, os⟩ := s
  have nx : ∀ z : Value, (z == Value.type "method" || z == Value.type "builtin_function_or_method" || z == Value.type "method-wrapper") = true → True := fun _ _ => trivial
  refine wpAny_call (codeAny_of_tree ?_)
  show wpAny _ A.in1 (callAny (.ref u) ⟨us, []⟩) _ _ _; simp only [callAny]
  refine wpAny_bind (wpAny_load hu ?_); simp only [PySem.W.kxs_mw, show (Value.type "method-wrapper" == Value.type "method" || Value.type "method-wrapper" == Value.type "builtin_function_or_method" || Value.type "method-wrapper" == Value.type "method-wrapper") = true from by decide, if_true]
  refine PySem.W.KFB.if_so (by decide) (wpAny_bind (PySem.W.check_bound_init F.excBase_ValueError.toExcCallFacts (I.kIn _ _ hC) ho rfl (wpAny_bind (wpAny_pure (wpAny_pure ?_)))))
  refine ⟨plainId_quiet F.excBase_ValueError.init.plain _, codeAny_builtin F.excBase_ValueError.initEntry ?_⟩
  refine PySem.W.exc_init_tree (cls := .ref C) (t0 := t1) (dv := none) (c2 := .none) (c3 := .none) (b4 := .bool false) ho hl fun h' k hx _ => ?_
  have J := I.write (t' := t) (x := a) (e := a) (o := exo a C none) (by rw [e]; exact True.intro) (.inl rfl) k ⟨_, hx⟩ (exo_ok hx)
  have eu : upd H a (exo a C none) = H := by
    funext b
    by_cases hb : b = a
    · rw [hb, upd_same]; exact e.symm
    · exact upd_ne hb
  rw [eu] at J
  exact h _ J
end

theorem args_go {X : Cx} {pins : List (Addr × Obj)} {σ : L2.St} {H : Hp} {s : Shared} {e0 : Expr} {es : List Expr} {ta : TA} {Q : List V → Hp → Prop} {pos : Pos} (ha : PA X (e0 :: es) ta) (he : starEach (e0 :: es) X.env = (false, eval e0 X.env) :: starEach es X.env) (I : Inv X pins σ H s) (q : ta σ H Q) :
    wpAny (model X.prog X.w) X.A (spliced (backTo pos ((false, eval e0 X.env) :: starEach es X.env))) (AP X pins σ Q) X.xe s := by
  have z := ha.run pos pins s σ H Q I q
  rw [he] at z
  exact z
section
variable {P : Program} {w : World} {K : PySem.W.Frag} {mg : Str → Option Value} {base : Heap} {CX : CXT}
theorem init_ok {k : Nat} {f C cc cda : Addr} {qual : Str} {params : Arguments} {rest : List Stmt} {e0 : Expr} {es : List Expr} {p0 p1 p2 p3 p4 : Pos} {scope : Scope} {dV kV doc pm ct oc : Value} {an od : Option Addr} {osl : Array (Option Value)} {ar : PySem.Arg} {N ps : List Str} {sp : Sp}
    (lk : K.lookup f = some ⟨oc, od, .func (PySem.W.ksFn "__init__" qual params (.Expr (.Call (.Attribute (.Call (.Name "super" p0) [] [] p1) "__init__" p2) (e0 :: es) [] p3) p4 :: rest) scope dV kV doc pm an (.ref cda) ct cc), osl⟩)
    (U : SupT P K C f cc cda qual) (T : OexC K C) (S : NScope N ps ["__class__"] scope) (hpar : (params.posonlyargs ++ params.args).head? = some ar) (hself : ps[0]? = some ar.arg) (hks : scope.names.lookup ("super" : Str) = some .globalImplicit)
    (hsup : mg "super" = none) (len : ∀ vs H Q E, sp vs H Q E → vs.length = ps.length)
    (he : ∀ env : Env, starEach (e0 :: es) env = (false, eval e0 env) :: starEach es env) (hpl : ∀ (pos : Pos) (env : Env), (backTo pos (starEach es env)).any (·.1) = false)
    (hsw : ∀ env : Env, swapsWith (.Call (.Attribute (.Call (.Name "super" p0) [] [] p1) "__init__" p2) (e0 :: es) [] p3) none p4.line env = pure false)
    (hint : ∀ L : Addr, interactive (envF ⟨"__init__", qual, params, [], scope, [("__class__", cc)], cda⟩ f L) = false)
    (hcall : ∀ env : Env, ∃ pl : Sem Bool, eval (.Call (.Attribute (.Call (.Name "super" p0) [] [] p1) "__init__" p2) (e0 :: es) [] p3) env = (do
      let ov ← attributeBase (.Call (.Name "super" p0) [] [] p1) "__init__" env (eval (.Call (.Name "super" p0) [] [] p1) env)
      standAt p2.atName
      let (f, first) ← holding [ov] (getMethod ov "__init__" pl)
      callWith p3 f first (backTo p3 (starEach (e0 :: es) env)) []))
    (hbody : ∀ (F : NF) (A : Around) (outer : List Env) (s : Shared) (H : Hp) (vs : List V) (Q : VK) (E : XK), F.scope = scope → F.qual = qual → Room k (A.deeper (envF F f s.heap.objs.size)) → sp vs H Q E →
      ∃ (a : Addr) (ws : List V) (ta : TA) (t : TS), vs = .ref a :: ws ∧ H a = some (exo a C none) ∧ PA (ncx (L2.CX P w) P w K mg base N F f A outer s H E) (e0 :: es) ta ∧ PSs (ncx (L2.CX P w) P w K mg base N F f A outer s H E) rest t ∧
        ta (startF N vs [none]) H (fun us H1 => us.length ≤ 1000 ∧ H1 a = some (exo a C none) ∧ t { nx := fun _ H' => Q .non H', rt := Q } (startF N vs [none]) H1)) :
    FnOk P w K mg base (L2.CX P w) (k + 1) f (PySem.W.ksFn "__init__" qual params (.Expr (.Call (.Attribute (.Call (.Name "super" p0) [] [] p1) "__init__" p2) (e0 :: es) [] p3) p4 :: rest) scope dV kV doc pm an (.ref cda) ct cc) ps sp := by
  refine ⟨len, fun A outer s H args us vs Q E hr e0' hb r hsp => ?_⟩
  have hl := len _ _ _ _ hsp
  have KY : K.In s.heap := e0'.mod.kin.keeps fun b o e => (e0'.bs b o e).1
  have lim : s.heap.NoLimit := e0'.mod.nolimit.keeps fun b o e => (e0'.bs b o e).1
  obtain ⟨cl1, d1, sl1, vs1, file, tf, hco, hvs, hfile⟩ := U.cobj
  obtain ⟨cl2, d2, sl2, hce⟩ := U.cel
  obtain ⟨Fn, hFn⟩ : ∃ Fn : NF, Fn = ⟨"__init__", qual, params, (.Expr (.Call (.Attribute (.Call (.Name "super" p0) [] [] p1) "__init__" p2) (e0 :: es) [] p3) p4 :: rest), scope, [("__class__", cc)], cda⟩ := ⟨_, rfl⟩
  obtain ⟨a, ws, ta, t, hv, ha, hpa, hps, q⟩ := hbody Fn A outer s H vs Q E (by rw [hFn]) (by rw [hFn]) (hr.deeper _) hsp
  subst hv
  have hcell : ∀ {h : Heap}, K.In h → h.IsCell cc (some (.ref C)) := fun {h} Y => ⟨_, Y _ _ hce, rfl⟩
  have CA : CellsAt Fn.cl ["__class__"] [none] s.heap H := by
    subst hFn
    refine ⟨rfl, fun y c e => ?_, fun x y c h1 h2 => ?_, fun i y h => ?_⟩
    · simp only [List.lookup] at e
      split at e
      · cases e
        exact ⟨(e0'.bs cc _ (e0'.mod.kin _ _ hce)).2, _, hcell KY⟩
      · cases e
    · simp only [List.lookup] at h1 h2
      split at h1
      · rename_i z1
        split at h2
        · rename_i z2
          rw [beq_iff_eq.mp z1, beq_iff_eq.mp z2]
        · cases h2
      · cases h1
    · cases i with
      | zero =>
        cases h
        exact ⟨cc, rfl, fun v z => by cases z⟩
      | succ i => simp at h
  cases r with
  | @cons _ u0 _ ur ra rr =>
  obtain rfl : u0 = Value.ref a := ra
  refine codeAny_call_function hr.depth (KY _ _ lk) rfl S.co S.gen rfl (PySem.W.codeRec_of KY U.cod) (hb _ _ _ _ ?_)
  refine wpAny_newFunctionEnv S.nocell (fun ⟨n, _⟩ hy => S.par n (List.of_mem_zip hy).1) (fun h₁ hns hsb => ⟨lim.fresh _ hsb, ?_⟩) S.kind
  have kp : ∀ b o, s.heap.get? b = some o → h₁.get? b = some o := fun b o e => hsb.extBut b o (Nat.ne_of_lt (Heap.lt_size e)) (Heap.get?_push_of_some _ e)
  have Sc : NScope N ps ["__class__"] Fn.scope := by rw [hFn]; exact S
  have I : Inv (ncx (L2.CX P w) P w K mg base N Fn f A outer s H E) [] (startF N (V.ref a :: ws) [none]) H { s with heap := h₁, toks := s.toks + (ps.zip (Value.ref a :: ur)).length } := inv_startN Sc hr.hd e0' hl (.cons rfl rr) CA hns kp
  subst hFn
  obtain ⟨env, henv⟩ : ∃ env : Env, env = envF ⟨"__init__", qual, params, (.Expr (.Call (.Attribute (.Call (.Name "super" p0) [] [] p1) "__init__" p2) (e0 :: es) [] p3) p4 :: rest), scope, [("__class__", cc)], cda⟩ f s.heap.objs.size := ⟨_, rfl⟩
  show codeAny _ _ (.func _ (envF ⟨"__init__", qual, params, (.Expr (.Call (.Attribute (.Call (.Name "super" p0) [] [] p1) "__init__" p2) (e0 :: es) [] p3) p4 :: rest), scope, [("__class__", cc)], cda⟩ f s.heap.objs.size)) _ _
  refine PySem.ks_codeAny_funcAt ?_
  rw [← henv]
  obtain ⟨pl, hcl⟩ := hcall env
  have KY1 : K.In h₁ := KY.keeps kp
  obtain ⟨nm, q0, N0, bs, bm, sn, sub, ab, col, dd, k0, k1, k2, k3, k5, hC, hbm⟩ := T.cls
  have hcd : PySem.W.clsIn K C = some { name := nm, bases := bs, mro := .ref C :: bm, ns := N0, qualname := q0, hasDict := true, slotNames := sn, subclasses := sub, abstract := ab, collection := col, hasDel := false } := by unfold PySem.W.clsIn; rw [hC] <;> rfl
  obtain ⟨oD, hD1, hD2⟩ := cls_here KY1 hcd
  obtain ⟨t1, hx⟩ := exo_at I.hok ha
  have hI : PySem.W.InstAt h₁ a { cls := .ref C, dict := none, data := .fields #[.ref t1, .none, .none, .none, .bool false, .none] } C none := ⟨hx, rfl, rfl, trivial⟩
  have hxC := PySem.W.ks_ne KY1 hI hcd
  have hal := U.sup
  unfold PySem.W.ks_superIn at hal
  rw [hcd] at hal
  have hmro : PySem.W.Looks (model P w) h₁ (mroOf (.ref C)) (.ref C :: bm) := fun A Q E s k q => wpAny_bind ((PySem.W.looks_clsIn KY1 hcd) A _ E s k (wpAny_pure q))
  refine PySem.ks_wpAt_execs_cons (PySem.ks_wpAt_Expr_any (PySem.ks_wpAt_MethodCall (PySem.ks_wpAt_super_base (f := f) (cc := cda) (ar := ar) (by rw [henv]; exact hks) (by rw [henv]; exact S.frk _ (by simp)) rfl (by rw [henv]) (KY1 _ _ lk) rfl hpar (by rw [henv]) (KY1 _ _ hco) rfl hvs hfile U.top ?_) hcl) (by rw [henv]; exact hint _) (hsw env))
  have hke : env.scope.kind = .function := by rw [henv]; exact S.kind
  obtain ⟨mb, b1, b2⟩ := e0'.mod.blt
  have K0 : ∀ b o, base.get? b = some o → h₁.get? b = some o := fun b o e => kp b o (e0'.bs b o e).1
  refine PySem.W.ks_loadName_global hke (by rw [henv]; exact hks) (Calls.loadGlobal_builtin (mg := mg) (mb := mb) (by rw [henv]; exact e0'.mod.glob.keeps K0) hsup (by rw [henv]; exact b1.keeps K0) ((b2 _ (by decide)).trans (show bootBuiltins "super" = some (.type "super") by decide +kernel)) ⟨rfl, ?_⟩)
  refine wpAny_loadName_free hke (by rw [henv]; exact S.frk _ (by simp)) (by rw [henv]; rfl) (hcell KY1) ?_
  have ndP : ps.Nodup := by
    have z := S.nd.sublist (List.take_sublist (ps.length + 1) N)
    rw [show N.take (ps.length + 1) = ps ++ [("__class__" : Str)] from S.pre] at z
    exact (List.nodup_append.mp z).1
  refine wpAny_loadName_local (m := fun y => (ps.zip (Value.ref a :: ur)).reverse.lookup y) (v := .ref a) hke (by rw [henv]; exact S.par _ (List.mem_of_getElem? hself)) (by rw [henv]; exact hns) (zip_look (i := 0) ndP hself rfl) ?_
  refine PySem.ks_wpAny_isType_cls hD1 hD2 ⟨rfl, ?_⟩
  refine PySem.ks_wpAny_call_super hD1 hD2 hx rfl (fun c z => by cases z) (PySem.W.looks_mroIn KY1 U.own) fun h2 hso k2 => ?_
  have KY2 := KY1.keeps k2
  refine PySem.W.kxs_getMethod PySem.W.kxs_ValueError hso (PySem.W.looks_opaque KY2 U.thi) (hmro.keeps k2) rfl KY2 hal ((PySem.W.InstAt.type (od := none) ⟨k2 _ _ hx, rfl, rfl, trivial⟩).andThen (PySem.W.looks_subIn KY2 U.ve)) hxC (by decide) ?_
  have k3 : ∀ b o, h₁.get? b = some o → (h2.push (PySem.W.kxs_mw "ValueError.__init__" a)).get? b = some o := fun b o e => Heap.get?_push_of_some _ (k2 b o e)
  have hu : (h2.push (PySem.W.kxs_mw "ValueError.__init__" a)).get? h2.objs.size = some (PySem.W.kxs_mw "ValueError.__init__" a) := Heap.get?_push_at rfl rfl
  have I2 := I.kept (t' := s.toks + (ps.zip (Value.ref a :: ur)).length + 1) k3
  have I1 := I.kept (t' := s.toks + (ps.zip (Value.ref a :: ur)).length) k2
  have I3 : Inv (ncx (L2.CX P w) P w K mg base N ⟨"__init__", qual, params, (.Expr (.Call (.Attribute (.Call (.Name "super" p0) [] [] p1) "__init__" p2) (e0 :: es) [] p3) p4 :: rest), scope, [("__class__", cc)], cda⟩ f A outer s H E) [(h2.objs.size, PySem.W.kxs_mw "ValueError.__init__" a)] (startF N (V.ref a :: ws) [none]) H
      ⟨h2.push (PySem.W.kxs_mw "ValueError.__init__" a), s.gens, s.drawn, s.toks + (ps.zip (Value.ref a :: ur)).length + 1, s.os⟩ := I2.pins_of fun p hp => by
    rw [List.mem_singleton.mp hp]
    exact ⟨hu, I1.hok.fresh (Nat.le_refl _), Nat.ne_of_gt I1.lt, I1.nofs (Nat.le_refl _), fun v z => by cases z⟩
  have hnp : (backTo p3 (starEach es env)).any (·.1) = false := hpl p3 env
  rw [he env]
  subst henv
  refine PySem.W.kxs_callWith (i := "ValueError.__init__") (x := a) (by show (false || _) = false; exact hnp) (PySem.Calls.evalArgs_plain (thn (args_go hpa (he _) I3 q) fun xs s3 ⟨us2, H3, I4, r4, hz, hH3, hq⟩ => ⟨(I4.pin _ (List.mem_append_right _ (List.mem_singleton.mpr rfl))).1, ?_⟩))
  refine bound_init (X := ncx (L2.CX P w) P w K mg base N ⟨"__init__", qual, params, (.Expr (.Call (.Attribute (.Call (.Name "super" p0) [] [] p1) "__init__" p2) (e0 :: es) [] p3) p4 :: rest), scope, [("__class__", cc)], cda⟩ f A outer s H E) T I4 hH3 (I4.pin _ (List.mem_append_right _ (List.mem_singleton.mpr rfl))).1 (by show xs.length ≤ sizeLine; rw [← Paired.length r4, sizeLine_eq]; omega) fun s4 J => ?_
  have J0 := J.pins_of (pins' := []) fun _ z => nomatch z
  refine PySem.wpAt_of_wpAny ?_
  refine wpAny_mono (hps.run [] s4 _ H3 _ J0 hq) (fun fl s' hs => ?_) fun e s' hs => hs
  have fin : ∀ {σ' : L2.St} {H' : Hp} {v : V} {u : Value}, Inv (ncx (L2.CX P w) P w K mg base N ⟨"__init__", qual, params, (.Expr (.Call (.Attribute (.Call (.Name "super" p0) [] [] p1) "__init__" p2) (e0 :: es) [] p3) p4 :: rest), scope, [("__class__", cc)], cda⟩ f A outer s H E) [] σ' H' s' → L2.RelV v u → Q v H' → CE outer P w H s Q u s' :=
    fun {σ' H' v u} J rv q => ⟨v, H', J.os, J.bare, J.base, J.hok, rv, q⟩
  cases fl with
  | ret u =>
    obtain ⟨v, σ', H', J, rv, q⟩ := hs; exact fin J rv q
  | next =>
    obtain ⟨σ', H', J, q⟩ := hs; exact fin (v := V.non) (u := Value.none) J rfl q
  | brk => obtain ⟨_, _, _, q⟩ := hs; exact q.elim
  | cont => obtain ⟨_, _, _, q⟩ := hs; exact q.elim
end
end Den

set_option maxHeartbeats 2000000
/-! Own exceptions by their meanings: raise C(..); a caught exception's field. -/
namespace Den
open PySem PySem.Spec PyProof.Rows L2 NdefX

/-- what C's __init__ promises: the fields ns hold what it was called with -/
def spX (C : Addr) (ns : List Str) : Sp := fun vs H Q _ => ∃ (a : Addr) (ws : List V), vs = .ref a :: ws ∧ ws.length = ns.length ∧ H a = some (exo a C none) ∧
  ∀ dx H', H dx = none → dx ≠ a → H' a = some (exo a C (some dx)) → H' dx = some (exd dx (ns.zip ws).reverse) → (∀ b, b ≠ a → b ≠ dx → H' b = H b) → Q .non H'
/-- an own exception class with the fields ns, each a parameter of its __init__ -/
structure XcT (P : Program) (K : PySem.W.Frag) (mg : Str → Option Value) (x : Str) (ns : List Str) : Prop where
  ex : ∃ (C fI : Addr) (fd : FuncData), mg x = some (.ref C) ∧ OexC K C ∧ XfC K C ∧ PySem.W.findIn K (.ref C) "__init__" = some (some (.ref fI)) ∧ PySem.W.typeIn K (.ref fI) = some (.type "function") ∧ L2.Binds K fd ("self" :: ns) [] ∧
    (∀ f ∈ ns, PySem.W.findIn K (.ref C) f = some none) ∧ ∀ (w : World) (base : Heap), FnOk P w K mg base (L2.CX P w) 1 fI fd ("self" :: ns) (spX C ns)

/-! ### raise C(..) -/
def sRaise (c : Str) (ns : List Str) (da : Den (List DV)) : DenS := sBind da fun as => if as.any isBo = true then fun _ => none else if as.length = ns.length ∧ ns.length ≤ 10 then fun ρ => some (.ex ρ ⟨c, (ns.zip (as.map (·.2))).reverse⟩) else fun _ => none
theorem fsOk_app {K : PySem.W.Frag} {R : Hp} : ∀ {fs : List (Str × D)} {vs : List (Str × V)} {n : Str} {d : D} {v : V}, FsOk K R fs vs → At K R v d → FsOk K R (fs ++ [(n, d)]) (vs ++ [(n, v)])
  | [], _, n, d, v, h, q => by cases h; exact ⟨v, [], rfl, q, rfl⟩
  | _ :: _, _, n, d, v, ⟨u, vr, e, a, t⟩, q => by subst e; exact ⟨u, _, rfl, a, fsOk_app t q⟩
theorem fsOk_rev {K : PySem.W.Frag} {R : Hp} : ∀ {ns : List Str} {ds : List D} {vs : List V}, AtAll K R vs ds → FsOk K R (ns.zip ds).reverse (ns.zip vs).reverse
  | [], _, _, _ => rfl
  | _ :: _, _, _, .nil => rfl
  | n :: ns, _, _, .cons h t => by
    rw [List.zip_cons_cons, List.zip_cons_cons, List.reverse_cons, List.reverse_cons]
    exact fsOk_app (fsOk_rev t) h
section
variable {X : Cx} {W : WX} {A : List Nat} {pa : Bool} {e : Expr} {es : List Expr} {das : Den (List DV)} {x : Str} {ns : List Str} {p pos pos' : Pos}
theorem s_raise (hc : X.calm = true) (tk : Takes X W) (T : XcT X.prog X.K X.mg x ns) (hr : Room 2 X.A) (hg : Gl X x) (ha : RA X W pa (e :: es) das)
    (hdb : (x == ("__debug__" : Str)) = false := by decide) (he : starEach (e :: es) X.env = (false, eval e X.env) :: starEach es X.env := by rfl) (hpl : (backTo pos (starEach es X.env)).any (·.1) = false := by rfl) :
    RS X W A (.Raise (some (.Call (.Name x p) (e :: es) [] pos)) none pos') (sRaise x ns das) := by
  obtain ⟨C, fI, fd, hm, hO, hX, hi, ht, hb, hn, hF⟩ := T.ex
  refine (ps_raise hc tk (pmk_oex (CX := L2.CX X.prog X.w) hO hi ht (hF X.w X.base) hr hb .nil (fun pins σ H s e s' I z => ?_) hg hm ha hdb he hpl)).impD fun D σ H h => ?_
  · exact passes_call (E := fun _ _ _ => False) tk (fun _ _ _ _ z => z.elim) pins σ H s e s' I z
  obtain ⟨ρ, R, F, o, hS, hden, hQ⟩ := h
  refine tS_bind hS hden hQ fun ρ1 as vs H1 R1 F1 G1 e1 st q n s1 p1 => ?_
  cases hbo : as.any isBo with
  | true => rw [if_pos hbo] at e1; cases e1
  | false =>
  rw [if_neg (by rw [hbo]; exact Bool.false_ne_true)] at e1
  split at e1
  · rename_i hl
    cases e1
    have fr := q.freeze st.sub (fun _ h => h) hbo
    have st2 := st.freeze (nd_out n)
    have hlen : vs.length = ns.length := by rw [fr.length, List.length_map]; exact hl.1
    refine ⟨by omega, fun a hna => ⟨a, vs, by rw [List.append_nil], hlen, upd_same, fun dx H' hdx hne h1 h2 h3 => ?_⟩⟩
    have hdx1 : H1 dx = none := by rw [upd_ne hne] at hdx; exact hdx
    refine ⟨rfl, dx, _, h1, h2, hdx1, ?_⟩
    have eH : upd (del H' a) dx (.xd (ns.zip vs).reverse) = upd H1 dx (.xd (ns.zip vs).reverse) := by
      funext b
      by_cases hbd : b = dx
      · rw [hbd, upd_same, upd_same]
      · rw [upd_ne hbd, upd_ne hbd]
        by_cases hba : b = a
        · rw [hba, del_same, hna]
        · rw [del_ne hba, h3 b hba hbd, upd_ne hba]
    rw [eH]
    have hr1 := st2.none_of hdx1
    have hQ2 := hQ.step (((s1.trans (.freeze st.sub))).trans (.grown (o := .xd (ns.zip vs).reverse) hdx1 hr1)) .refl
    exact hQ2 (.ref C) (some dx) σ _ _ F1 (st2.grow (o := .xd (ns.zip vs).reverse) hdx1) .refl ⟨hm, ⟨C, rfl, hX, fun f hf => hn f (by
        rw [List.map_reverse, List.mem_reverse] at hf
        obtain ⟨pr, h4, rfl⟩ := List.mem_map.mp hf
        exact (List.of_mem_zip (show (pr.1, pr.2) ∈ _ from h4)).1)⟩, dx, _, rfl, upd_same, (fsOk_rev (fr.mono (.upd hr1)))⟩ .refl
  · cases e1
end
end Den

set_option maxHeartbeats 2000000
/-! try: .. except C as e: .. (several clauses), by its meaning; e.f. -/
namespace Den
open PySem PySem.Spec PyProof.Rows L2

/-- an except clause: its name's number, the classes of which it is known whether it takes them, its suite -/
structure Cl where
  i : Nat
  hit : List (Str × Bool)
  den : DenS
def unset (i : Nat) : Fl → Fl
  | .nx ρ => .nx (ρ.set i none)
  | .rt ρ a => .rt (ρ.set i none) a
  | .bk ρ => .bk (ρ.set i none)
  | .ct ρ => .ct (ρ.set i none)
  | .ex ρ x => .ex (ρ.set i none) x
/-- .. and lets no exception out -/
def capt (i : Nat) : Option Fl → Option Fl
  | some (.nx ρ) => some (.nx (ρ.set i none))
  | some (.rt ρ a) => some (.rt (ρ.set i none) a)
  | some (.bk ρ) => some (.bk (ρ.set i none))
  | some (.ct ρ) => some (.ct (ρ.set i none))
  | _ => none
theorem capt_of {i : Nat} {r : Option Fl} {o : Fl} (h : capt i r = some o) : ∃ u, r = some u ∧ o = unset i u ∧ ∀ ρ x, u ≠ .ex ρ x := by
  unfold capt at h
  split at h
  · cases h; exact ⟨_, rfl, rfl, fun _ _ z => by cases z⟩
  · cases h; exact ⟨_, rfl, rfl, fun _ _ z => by cases z⟩
  · cases h; exact ⟨_, rfl, rfl, fun _ _ z => by cases z⟩
  · cases h; exact ⟨_, rfl, rfl, fun _ _ z => by cases z⟩
  · cases h
def sHandle : List Cl → Exn → DenS
  | [], x => fun ρ => some (.ex ρ x)
  | c :: r, x => fun ρ => match c.hit.lookup x.c with
    | some true => capt c.i (c.den (ρ.set c.i (some (.im, .ins x.c x.fs))))
    | some false => sHandle r x ρ
    | none => none
def sTry (body : DenS) (cl : List Cl) : DenS := fun ρ => match body ρ with
  | some (.ex ρ' x) => sHandle cl x ρ'
  | o => o

/-- behind the suite of a clause the name i is gone -/
def endsU (i : Nat) (D : Ends) : Ends := { nx := fun σ H => D.nx (σ.set i none) H, rt := D.rt, bk := fun σ H => D.bk (σ.set i none) H, ct := fun σ H => D.ct (σ.set i none) H }
section
variable {K : PySem.W.Frag} {mg : Str → Option Value} {W : WX} {A : List Nat} {R R1 H H1 : Hp} {F F1 : List Addr} {σ σ1 : L2.St} {D : Ends}
theorem kept_un {i : Nat} {v : Option V} {σ2 : L2.St} (hi : i ∈ A) (k : Kept A (σ.set i v) σ2) : Kept A σ (σ2.set i none) := (Kept.set hi).trans (k.trans (Kept.set hi))
/-- what the clause's suite has to reach -/
theorem post_un {i : Nat} {v : Option V} {o : Fl} (hi : i ∈ A) (hne : ∀ ρ x, o ≠ .ex ρ x) (h : PostS K mg W A R H F σ D (unset i o)) (s : Step R H F R1 H1 F1) : PostS K mg (fun _ _ _ _ => False) A R1 H1 F1 (σ.set i v) (endsU i D) o := by
  cases o with
  | nx ρ =>
    intro σ' H' R' F' st k s2
    obtain ⟨G, g1, g2, g3⟩ := st.slots.drop (i := i) none
    exact h _ H' R' G ⟨g1, st.sub, g3 st.nd⟩ (kept_un hi k) ((s.trans s2).less g2)
  | bk ρ =>
    intro σ' H' R' F' st k s2
    obtain ⟨G, g1, g2, g3⟩ := st.slots.drop (i := i) none
    exact h _ H' R' G ⟨g1, st.sub, g3 st.nd⟩ (kept_un hi k) ((s.trans s2).less g2)
  | ct ρ =>
    intro σ' H' R' F' st k s2
    obtain ⟨G, g1, g2, g3⟩ := st.slots.drop (i := i) none
    exact h _ H' R' G ⟨g1, st.sub, g3 st.nd⟩ (kept_un hi k) ((s.trans s2).less g2)
  | rt ρ a =>
    intro σ' v H' R' F' Fv st k q n s2
    obtain ⟨G, g1, g2, g3⟩ := st.slots.drop (i := i) none
    obtain ⟨n1, n2, n3⟩ := List.nodup_append.mp n
    refine h _ v H' R' G Fv ⟨g1, st.sub, g3 n1⟩ (kept_un hi k) q (List.nodup_append.mpr ⟨g3 n1, n2, fun a ha b hb => n3 a (g2 a ha) b hb⟩) ((s.trans s2).less fun x hx => ?_)
    exact (List.mem_append.mp hx).elim (fun z => List.mem_append_left _ (g2 x z)) (List.mem_append_right _)
  | ex ρ x => exact absurd rfl (hne ρ x)
end

/-! ### the exception is known -/
section
variable {X : Cx} {pins : List (Addr × Obj)} {σ : L2.St} {H : Hp} {s : Shared} {a : Addr} {o : HO}
theorem inv_know (I : Inv X pins σ H s) (na : H a = none) (n0 : X.s_0.heap.get? a = none) (nL : a ≠ X.env.locals) (nC : ∀ v, ¬ s.heap.IsCell a v) (np : ∀ p ∈ X.pn ++ pins, p.1 ≠ a) (ob : ObjOk X.prog X.w (upd H a o) s.heap a o) : Inv X pins σ (upd H a o) s := by
  have ne : ∀ {b : Addr} {u : HO}, H b = some u → b ≠ a := fun {b u} z y => by rw [y, na] at z; cases z
  have u := I.base
  refine ⟨I.ok, I.os, I.bare, ⟨u.keep, u.slot, fun b c e n hx => ?_, u.there, fun b xs e => ?_, fun b c v e => ?_, fun b ps e => ?_⟩, I.loc, I.cell, ?_, fun y c e => ?_, fun p hp => ?_, fun b c e => ?_, I.len⟩
  · rw [upd_ne fun z => by rw [z, n0] at e; cases e]; exact u.free b c e n hx
  · rw [upd_ne (ne (u.tups b xs e))]; exact u.tups b xs e
  · rw [upd_ne (ne (u.frzs b c v e))]; exact u.frzs b c v e
  · obtain ⟨m, z⟩ := u.tbls b ps e
    exact ⟨m, by rw [upd_ne (ne z)]; exact z⟩
  · rw [upd_ne (Ne.symm nL)]; exact I.free
  · obtain ⟨v, z⟩ := I.cell y c e
    rw [upd_ne fun q => nC v (by rw [← q]; exact z)]; exact I.freeC y c e
  · obtain ⟨h1, h2, h3⟩ := I.pin p hp
    exact ⟨h1, by rw [upd_ne (np p hp)]; exact h2, h3⟩
  · by_cases hb : b = a
    · subst hb
      rw [upd_same] at e
      cases e
      exact ob
    · rw [upd_ne hb] at e
      exact (I.hok b c e).stay (fun c v _ z => z) (fun c z => by rw [upd_ne (ne z)]; exact z) fun c xs z => by rw [upd_ne (ne z)]; exact z
theorem inv_in (I : Inv X pins σ H s) (a : Addr) : Inv (X.suite a (X.pn ++ pins)) [] σ H s :=
  ⟨I.ok.suite _ _, I.os, I.bare, I.base, I.loc, I.cell, I.free, I.freeC, fun p hp => I.pin p (by rwa [List.append_nil] at hp), I.hok, I.len⟩
theorem inv_out {pn' : List (Addr × Obj)} {a : Addr} (I : Inv (X.suite a (X.pn ++ pins)) pn' σ H s) (ok : X.Ok) : Inv X pins σ H s :=
  ⟨ok, I.os, I.bare, I.base, I.loc, I.cell, I.free, I.freeC, fun p hp => I.pin p (List.mem_append_left _ hp), I.hok, I.len⟩
end
end Den

set_option maxHeartbeats 2000000
/-! The rule of try with clauses that name what they catch. -/
namespace Den
open PySem PySem.Spec PyProof.Rows L2

inductive Hds (X : Cx) (A : List Nat) : List ExceptHandler → List Cl → Prop
  | nil : Hds X A [] []
  | cons {x n : Str} {C : Value} {c : Cl} {st : Stmt} {su : List Stmt} {np p' : Pos} {hds : List ExceptHandler} {l : List Cl} (hc : Names X x C) (hi : X.N[c.i]? = some n) (hl : X.env.kindOf n = some .local) (hA : c.i ∈ A)
      (hx : ∀ m b, c.hit.lookup m = some b → ∀ cv, X.mg m = some cv → PySem.W.exmOne X.K cv C = some b) (hs : ∀ (a : Addr) (pn : List (Addr × Obj)), RSs (X.suite a pn) (fun _ _ _ _ => False) A (st :: su) c.den) (r : Hds X A hds l) :
      Hds X A (.ExceptHandler (some (.Name x np)) (some n) (st :: su) p' :: hds) (c :: l)
theorem fsOk_split {K : PySem.W.Frag} {R : Hp} : ∀ {fs : List (Str × D)} {vs : List (Str × V)}, FsOk K R fs vs → ∃ ns ws ds, fs = ns.zip ds ∧ vs = ns.zip ws ∧ ns.length = ds.length ∧ AtAll K R ws ds ∧ fs.map (·.1) = ns
  | [], _, h => by cases h; exact ⟨[], [], [], rfl, rfl, rfl, .nil, rfl⟩
  | (n, d) :: fs, _, ⟨v, vr, e, a, t⟩ => by
    subst e
    obtain ⟨ns, ws, ds, e1, e2, e3, e4, e5⟩ := fsOk_split t
    exact ⟨n :: ns, v :: ws, d :: ds, by rw [e1, List.zip_cons_cons], by rw [e2, List.zip_cons_cons], by simp [e3], .cons a e4, by rw [List.map_cons, e5]⟩
section
variable {X : Cx} {W : WX} {A : List Nat} {body : List Stmt} {hd : ExceptHandler} {hds : List ExceptHandler} {pos : Pos} {db : DenS} {cl : List Cl}
theorem try_in {R H : Hp} {F : List Addr} {ρ : Rho} {σ : L2.St} {o : Fl} {D : Ends} {Wb : WX} (hS : Sta X.K R H ρ σ F) (hden : sTry db cl ρ = some o) (hQ : PostS X.K X.mg W A R H F σ D o)
    (hW : ∀ ρ' x c dx σ' H' R' F', sHandle cl x ρ' = some o → Sta X.K R' H' ρ' σ' F' → XOk X.K X.mg R' x c dx → PostS X.K X.mg W A R' H' F' σ' D o → Wb c dx σ' H') : tS X.K X.mg Wb A db D σ H := by
  unfold sTry at hden
  split at hden
  · rename_i ρ' x e
    exact ⟨ρ, R, F, _, hS, e, fun c dx σ' H' R' F' st k xk s => hW ρ' x c dx σ' H' R' F' hden st xk (hQ.step s k)⟩
  · rename_i hne
    refine ⟨ρ, R, F, o, hS, hden, ?_⟩
    cases o with
    | ex ρ' x => exact absurd hden (hne ρ' x)
    | nx _ => exact hQ
    | rt _ _ => exact hQ
    | bk _ => exact hQ
    | ct _ => exact hQ
theorem s_try (hst : X.stack = X.env :: X.outer) (hf : X.env.frame = some X.env.locals) (hex : X.ex = []) (hN : X.N.Nodup) (tk : Takes X W)
    (hb : ∀ (W' : WX) (pn : List (Addr × Obj)) (xe : Value → Shared → Prop), Takes (X.tr pn xe) W' → PassesOwn (model X.prog X.w) X.A X.env xe → RSs (X.tr pn xe) W' A body db) (hh : Hds X A (hd :: hds) cl) :
    RS X W A (.Try body (hd :: hds) [] [] pos) (sTry db cl) := by
  refine ⟨fun pins s σ H D I h => ?_⟩
  have ok := I.ok
  obtain ⟨ρ, R, F, o, hS, hden, hQ⟩ := h
  have frm : X.A.frames = some (X.env :: X.outer) := hst ▸ ok.frames
  have go0 := fun (Wb : WX) hW => try_in (Wb := Wb) hS hden hQ hW
  refine wpAny_Try_except (wpAny_mono ((hb (fun c dx σ' H' => ∃ ρ' x R' F', sHandle cl x ρ' = some o ∧ Sta X.K R' H' ρ' σ' F' ∧ XOk X.K X.mg R' x c dx ∧ PostS X.K X.mg W A R' H' F' σ' D o) (X.pn ++ pins)
    (fun e s₁ => wpAny (model X.prog X.w) X.A (noteFrame e X.env) (fun _ s₂ => wpAny (model X.prog X.w) X.A (setFlight e none) (fun _ s₃ => wpAny (model X.prog X.w) X.A (handleBy e X.env (hd :: hds)) (SP X pins D) X.xe s₃) X.xe s₂) X.xe s₁)
    (fun u s' fly => ?_) PassesOwn.looking).run [] s σ H D (I.toTry _) (go0 _ fun ρ' x c dx σ' H' R' F' h1 h2 h3 h4 => ⟨ρ', x, R', F', h1, h2, h3, h4⟩)) (fun fl s1 sp => ?_) fun e s1 he => he)
  · obtain ⟨a, B, sI, pl, τ, G, cls, d, eu, Ja, nb, up, sky, na, eos, ebare, ρ1, x, R1, F1, eh, st1, xk, post⟩ := fly
    subst eu
    have Jo : Inv X pins τ G sI := Ja.ofTry ok
    rw [hst] at sky
    refine Sky.land Zc.steady frm hf sky fun hA flA upA => ?_
    have JA : Inv X pins τ G { s' with heap := hA } := Jo.landed nb flA.1 (up.trans upA) eos ebare
    obtain ⟨oA, vA, geA, zA, dA⟩ := flA.there
    have away : a ∉ frs (X.env :: X.outer) := fun hm => by
      obtain ⟨_, o', e', nd⟩ := flA.2.2.1.mem hm
      rw [geA] at e'; cases e'; exact nd _ dA
    have gone : sI.heap.get? a = none := by
      cases z : sI.heap.get? a with
      | none => rfl
      | some o' =>
        have := nb a o' z (by rw [hst]; exact away)
        rw [flA.2.1] at this; cases this
    have aL : a ≠ X.env.locals := fun z => away (List.mem_filterMap.mpr ⟨X.env, List.mem_cons_self, by rw [hf, z]⟩)
    obtain ⟨hm, ⟨C, eC, hX, hno⟩, dd, vs, ed, eR, hfs⟩ := id xk
    subst eC ed
    obtain ⟨ns, ws, ds, f1, f2, f3, f4, f5⟩ := fsOk_split hfs
    have clause : ∀ {hs' : List ExceptHandler} {l' : List Cl}, Hds X A hs' l' → sHandle l' x ρ1 = some o → wpAny (model X.prog X.w) X.A (handleBy (.ref a) X.env hs') (SP X pins D) X.xe { s' with heap := hA } := by
      intro hs' l' hk
      induction hk with
      | nil =>
        intro e1
        cases e1
        have w1 := post (.ref C) (some dd) τ G R1 F1 st1 .refl xk .refl
        refine wpAny_handleBy_nil ?_
        obtain ⟨_, _, _, o3, v3, T, _, _, g3, _, d3, i3, _⟩ := id flA
        unfold PySem.passOn
        refine wpAny_bind (wpAny_field g3 d3 i3 ?_); rw [if_neg (show ¬ ((Value.ref T == Value.none) = true) by simp)]
        have out : wpAny (model X.prog X.w) X.A (setFlight (.ref a) X.env.frame) (fun _ s4 => wpAny (model X.prog X.w) X.A (throw (.ref a) : Sem Flow) (SP X pins D) X.xe s4) X.xe { s' with heap := hA } := by
          rw [hf]; exact HandSPX.setFlight_upZ flA fun hB heldB upB => wpAny_throw (tk _ _ ⟨a, B, sI, pins, τ, G, .ref C, some dd, rfl, Jo, nb, (up.trans upA).trans upB, .inr (.inr (by rw [hst]; exact heldB)), na, eos, ebare, w1⟩)
        first | exact wpAny_bind (wpAny_pure (wpAny_bind out)) | exact wpAny_bind out
      | @cons y n Cv c st su np p' hds2 l2 hc hi hl hA' hx hs r ih =>
        intro e1
        have pick : ∃ b, c.hit.lookup x.c = some b := by
          cases z : c.hit.lookup x.c with
          | none => unfold sHandle at e1; simp only [z] at e1; cases e1
          | some b => exact ⟨b, rfl⟩
        obtain ⟨b, eb⟩ := pick
        have is1 := hx _ _ eb _ hm
        refine wpAny_handleBy_cons (codeAny_handlers_test ?_) (by intro q; cases q)
        have tyA : PySem.W.Looks (model X.prog X.w) hA (typeOf (.ref a)) (.ref C) := fun A Q E s k q => wpAny_typeOf_ref (k _ _ geA) (by rw [zA.1]; exact q)
        have isA := PySem.W.exm_one (M := model X.prog X.w) JA.kIn tyA is1
        have name : ∀ {Q : Value → Shared → Prop} {E : Value → Shared → Prop}, Q Cv { s' with heap := hA } → wpAny (model X.prog X.w) (X.A.mark (some (.ref a))) (eval (.Name y np) X.env) Q E { s' with heap := hA } := fun {Q E} q => by
          obtain ⟨hg, hdb, h1 | ⟨h1, h2, h3⟩⟩ := hc
          · exact ld_glob (X := X.suite a (X.pn ++ pins)) (inv_in JA a) hg h1 q hdb
          · exact ld_blt (X := X.suite a (X.pn ++ pins)) (inv_in JA a) hg h1 h2 q h3 hdb
        refine name (isA.here ?_)
        cases b with
        | true =>
          unfold sHandle at e1; simp only [eb] at e1
          obtain ⟨u, eu, ou, nex⟩ := capt_of e1
          refine codeAny_handlers_suite_as (HandSPX.lands_againZ flA fun hB flB upB => ?_)
          have JB : Inv X pins τ G { s' with heap := hB } := Jo.landed nb flB.1 ((up.trans upA).trans upB) eos ebare
          obtain ⟨oB, vB, geB, zB, dB⟩ := flB.there
          have KB := inv_know (o := xob a C dd) JB na (by
              cases z : X.s_0.heap.get? a with
              | none => rfl
              | some o' =>
                obtain ⟨o2, z2⟩ := Jo.base.there a o' z (by rw [hex]; simp)
                rw [gone] at z2; cases z2) aL (fun v ⟨o2, z1, z2⟩ => by
              have z1' : hB.get? a = some o2 := z1
              rw [geB] at z1'; cases z1'; rw [dB] at z2; cases z2) (fun p hp z => by
              have := (Jo.pin p hp).1
              rw [z, gone] at this; cases this) ⟨⟨oB, geB, zB.1, zB.2, _, dB⟩, ⟨_, geB⟩, fun h1 h2 ⟨oe, q1, q2⟩ k => ⟨oe, k _ q1, q2⟩⟩
          have na1 := st1.none_of na
          have st2 := st1.grow (o := xob a C dd) na
          have len1 : c.i < ρ1.length := by
            rw [← st1.slots.length, Jo.len]; exact (List.getElem?_eq_some_iff.mp hi).1
          have fro : Sub R1 (upd R1 a (xob a C dd)) := .upd na1
          have aIn : At X.K (upd R1 a (xob a C dd)) (.ref a) (.ins x.c x.fs) := by
            rw [f1]
            exact .ins upd_same hX (fun f hf => hno f (by rw [f5]; exact hf)) (by rw [← f2]; exact fro _ _ eR) f3 (f4.mono fro)
          obtain ⟨F2, p1, p2, p3⟩ := st2.slots.put (s := .im) (d := .ins x.c x.fs) (v := .ref a) (G := []) len1 ⟨rfl, aIn⟩
          have stp : Step R1 G F1 (upd R1 a (xob a C dd)) (upd G a (xob a C dd)) F2 := (Step.grown na na1).less fun z hz => (p2 z hz).elim (fun q => by cases q) id
          refine store_ok (X := X.suite a (X.pn ++ pins)) (v := .ref a) (inv_in KB a) hN hi (.inl hl) rfl (fun s5 S5 => ?_) (.inr hl)
          refine wpAny_mono ((hs a (X.pn ++ pins)).run [] s5 _ _ (endsU c.i D) S5 ⟨_, _, F2, u, ⟨p1, st2.sub, p3 (by simpa using st2.nd)⟩, eu, post_un hA' nex (by rw [← ou]; exact post) stp⟩) (fun fl s6 sp => ?_) fun _ _ z => z.elim
          have back : ∀ {τ6 : L2.St} {G6 : Hp} {Q : Shared → Prop}, Inv (X.suite a (X.pn ++ pins)) [] τ6 G6 s6 → (∀ s7, Inv X pins (τ6.set c.i none) G6 s7 → Q s7) → wpAny (model X.prog X.w) X.A (do bindName X.env n .none; unbindBehindTheSuite X.env n p') (fun _ s7 => Q s7) X.xe s6 :=
            fun {τ6 G6 Q} S6 hq => gone_ok (inv_out S6 ok) hN hi hl hq
          cases fl with
          | next => obtain ⟨τ6, G6, S6, q6⟩ := sp; exact back S6 fun s7 J7 => ⟨_, _, J7, q6⟩
          | brk => obtain ⟨τ6, G6, S6, q6⟩ := sp; exact back S6 fun s7 J7 => ⟨_, _, J7, q6⟩
          | cont => obtain ⟨τ6, G6, S6, q6⟩ := sp; exact back S6 fun s7 J7 => ⟨_, _, J7, q6⟩
          | ret w6 => obtain ⟨v6, τ6, G6, S6, r6, q6⟩ := sp; exact back S6 fun s7 J7 => ⟨_, _, _, J7, r6, q6⟩
        | false =>
          unfold sHandle at e1; simp only [eb] at e1
          exact ih e1
    exact clause hh eh
  · cases fl with
    | next => obtain ⟨σ', H', J', q⟩ := sp; exact wpAny_execs_nil ⟨σ', H', J'.ofTry ok, q⟩
    | brk => obtain ⟨σ', H', J', q⟩ := sp; exact ⟨σ', H', J'.ofTry ok, q⟩
    | cont => obtain ⟨σ', H', J', q⟩ := sp; exact ⟨σ', H', J'.ofTry ok, q⟩
    | ret u => obtain ⟨v, σ', H', J', r, q⟩ := sp; exact ⟨v, σ', H', J'.ofTry ok, r, q⟩
end
end Den

set_option maxHeartbeats 2000000
/-! A caught exception's field; the classes of one and of two fields. -/
namespace Den
open PySem PySem.Spec PyProof.Rows L2 NdefX

/-! ### e.f -/
def tFl (K : PySem.W.Frag) (n : Str) (te : TE) : TE := fun σ H Q => te σ H fun x H1 => ∃ (a C d : Addr) (fs : List (Str × V)) (v : V), x = .ref a ∧ H1 a = some (xob a C d) ∧ XfC K C ∧ PySem.W.findIn K (.ref C) n = some none ∧ H1 d = some (.xd fs) ∧ fs.lookup n = some v ∧ Q v H1
theorem pe_fl {X : Cx} {e : Expr} {te : TE} {pos : Pos} {n : Str} (he : PE X e te) (hb : attributeBase e n X.env (eval e X.env) = eval e X.env := by rfl) : PE X (.Attribute e n pos) (tFl X.K n te) := by
  refine ⟨fun pins s σ H Q I h => attr_of hb (thn (he.run pins s σ H _ I h) fun u s1 hh => ?_)⟩
  obtain ⟨y, H1, I1, rx, a, C, d, fs, v, ey, eo, T, hno, ed, hl, q⟩ := hh
  subst ey
  obtain rfl : u = Value.ref a := rx
  obtain ⟨⟨oe, g1, g2, g3, fv, g4⟩, _, _⟩ := (show ObjOk X.prog X.w H1 s1.heap a (xob a C d) from I1.hok a _ eo)
  obtain ⟨mA, hns, hr⟩ := (show ObjOk X.prog X.w H1 s1.heap d (.xd fs) from I1.hok d _ ed)
  obtain ⟨od, ho, hk⟩ := lookIn_ns hns
  obtain ⟨u2, hu, ru⟩ := RelO.some_of (v := v) (o := mA n) (by rw [← hl]; exact hr n)
  have inst : PySem.W.InstAt s1.heap a oe C (some od) := ⟨g1, g2, by unfold PySem.W.notCls; rw [g4] <;> rfl, by rw [g3]; exact ho⟩
  exact HandSPX.exc_get I1.kIn inst T.ga T.gg T.exC (PySem.W.findObj_own T.hdC hno rfl (by rw [hk, hu])) (handed_of ru) ⟨v, H1, I1.tok _, ru, q⟩
def fldOf (n : Str) (a : DV) : Option D := if a.1 = .sh .im then (match a.2 with
  | .ins _ fs => fs.lookup n
  | _ => none) else none
def dFld (n : Str) (da : Den DV) : Den DV := dBind da fun a => dLift (fldOf n a) fun d => dRet (.sh .im, d)
theorem zip_look2 {K : PySem.W.Frag} {R : Hp} {n : Str} {d : D} : ∀ {ns : List Str} {ws : List V} {ds : List D}, AtAll K R ws ds → (ns.zip ds).lookup n = some d → n ∈ ns ∧ ∃ v, (ns.zip ws).lookup n = some v ∧ At K R v d
  | [], _, _, _, e => by simp at e
  | _ :: _, _, _, .nil, e => by simp at e
  | m :: ns, _, _, .cons h t, e => by
    rw [List.zip_cons_cons] at e ⊢
    simp only [List.lookup] at e ⊢
    split at e
    · rename_i z
      cases e
      rw [beq_iff_eq.mp z]
      exact ⟨List.mem_cons_self, _, rfl, h⟩
    · rename_i z
      obtain ⟨h1, h2⟩ := zip_look2 t e
      exact ⟨List.mem_cons_of_mem _ h1, h2⟩
section
variable {K : PySem.W.Frag} {mg : Str → Option Value} {W : WX} {σ : L2.St} {H : Hp} {Q : VK} {pa : Bool}
theorem fld_ok {n : Str} {da : Den DV} (h : tE K mg W pa (dFld n da) σ H Q) : tFl K n (tE K mg W pa da) σ H Q := by
  obtain ⟨ρ, R, F, res, hS, hden, hQ⟩ := h
  refine tG_bind hS hden hQ fun ρ1 a v H1 R1 F1 G1 e st q nd s p => ?_
  obtain ⟨m, ad⟩ := a
  unfold dLift fldOf at e
  split at e
  · cases e
  · rename_i d hl
    cases e
    split at hl
    · rename_i hm
      have hm' : m = .sh .im := hm
      subst hm'
      dsimp only at hl
      split at hl
      · rename_i c fs
        obtain ⟨rfl, qa⟩ := q
        generalize hfs : D.ins c fs = dd at qa
        cases qa with
        | @ins a C dx c2 ns ws ds h1 h2 h3 h4 h5 h6 =>
          cases hfs
          obtain ⟨z1, u, z2, z3⟩ := zip_look2 h6 hl
          refine ⟨a, C, dx, _, u, rfl, st.sub _ _ h1, h2, h3 n z1, st.sub _ _ h4, z2, ?_⟩
          exact hQ u H1 R1 F1 [] st ⟨rfl, z3⟩ (by simpa using nd) (by simpa using s) p
        | _ => cases hfs
      · cases hl
    · cases hl
end
theorem e_fld {X : Cx} {W : WX} {pa : Bool} {e : Expr} {da : Den DV} {n : Str} {pos : Pos} (he : RE X W pa e da) (hb : attributeBase e n X.env (eval e X.env) = eval e X.env := by rfl) : RE X W pa (.Attribute e n pos) (dFld n da) := (pe_fl he hb).impD fun _ _ _ h => fld_ok h

/-! ### the classes -/
section
variable {P : Program} {K : PySem.W.Frag} {mg : Str → Option Value}
theorem xc1 {x n qual : Str} {C fI cc cda : Addr} {st : Stmt} {p0 p1 p2 p3 p4 q1 r1 r2 r3 r4 : Pos} {ar : PySem.Arg} {dV kV doc pm ct oc : Value} {an od : Option Addr} {osl : Array (Option Value)}
    (hm : mg x = some (.ref C)) (hO : OexC K C) (hX : XfC K C) (hi : PySem.W.findIn K (.ref C) "__init__" = some (some (.ref fI))) (ht : PySem.W.typeIn K (.ref fI) = some (.type "function")) (hno : PySem.W.findIn K (.ref C) n = some none)
    (lk : K.lookup fI = some ⟨oc, od, .func (PySem.W.ksFn "__init__" qual (defArgs st) (defBody st) (defScope st) dV kV doc pm an (.ref cda) ct cc), osl⟩) (U : SupT P K C fI cc cda qual) (hsup : mg "super" = none)
    (hbd : defBody st = [.Expr (.Call (.Attribute (.Call (.Name "super" p0) [] [] p1) "__init__" p2) [.Name n q1] [] p3) p4, .Assign [.Attribute (.Name "self" r1) n r2] (.Name n r3) r4])
    (hpar : ((defArgs st).posonlyargs ++ (defArgs st).args).head? = some ar) (har : ar.arg = "self") (hS : nscB ["self", n, "__class__"] ["self", n] ["__class__"] (defScope st) = true) (hks : (defScope st).names.lookup ("super" : Str) = some .globalImplicit)
    (hbi : L2.Binds K (PySem.W.ksFn "__init__" qual (defArgs st) (defBody st) (defScope st) dV kV doc pm an (.ref cda) ct cc) ["self", n] []) (hn1 : (n == ("__debug__" : Str)) = false) (hn2 : (n == ("__classdict__" : Str)) = false)
    (hcall : ∀ env : Env, ∃ pl : Sem Bool, eval (.Call (.Attribute (.Call (.Name "super" p0) [] [] p1) "__init__" p2) [.Name n q1] [] p3) env = (do
      let ov ← attributeBase (.Call (.Name "super" p0) [] [] p1) "__init__" env (eval (.Call (.Name "super" p0) [] [] p1) env)
      standAt p2.atName
      let (f, first) ← holding [ov] (getMethod ov "__init__" pl)
      callWith p3 f first (backTo p3 (starEach [.Name n q1] env)) [])) : XcT P K mg x [n] := by
  have S := nscope_by hS
  refine ⟨C, fI, _, hm, hO, hX, hi, ht, hbi, fun f hf => by rw [List.mem_singleton.mp hf]; exact hno, fun w base => ?_⟩
  rw [hbd] at lk ⊢
  refine init_ok (N := ["self", n, "__class__"]) lk U hO S hpar (by rw [har]; rfl) hks hsup (fun vs H Q E h => ?_) (fun _ => rfl) (fun _ _ => rfl) (fun _ => rfl) (fun _ => ?_) hcall fun Fn A outer s H vs Q E e1 e2 hr h => ?_
  · obtain ⟨a, ws, rfl, hl, _⟩ := h
    simp only [List.length_cons, List.length_nil] at hl ⊢; omega
  · unfold interactive
    rw [show (envF ⟨"__init__", qual, defArgs st, [], defScope st, [("__class__", cc)], cda⟩ fI _).scope.kind = .function from S.kind]; rfl
  · obtain ⟨a, ws, rfl, hl, ha, q⟩ := h
    obtain ⟨v, rfl⟩ : ∃ v, ws = [v] := by
      match ws, hl with
      | [v], _ => exact ⟨v, rfl⟩
    have vis : ∀ y ∈ (["self", n] : List Str), Vis (envF Fn fI s.heap.objs.size).scope y := fun y hy => by
      refine Or.inl ?_
      show Fn.scope.names.lookup y = _
      rw [e1]; exact S.par y hy
    have p0' := fun pos => pe_var (X := ncx (L2.CX P w) P w K mg base ["self", n, "__class__"] Fn fI A outer s H E) (i := 0) (x := "self") (pos := pos) rfl (vis _ (by simp)) (by decide) (by decide)
    have p1' := fun pos => pe_var (X := ncx (L2.CX P w) P w K mg base ["self", n, "__class__"] Fn fI A outer s H E) (i := 1) (x := n) (pos := pos) rfl (vis _ (by simp)) hn1 hn2
    refine ⟨a, [v], _, _, rfl, ha, pa_cons (p1' _) pa_nil, pss_one (ps_ost (p0' _) (p1' _)), v, rfl, by show 1 ≤ 1000; decide, ha, ?_⟩
    refine ⟨v, rfl, .ref a, rfl, a, C, rfl, hO, hno, .inl ⟨ha, fun dx h1 h2 => ?_⟩⟩
    exact q dx _ h1 h2 upd_same (by rw [upd_ne h2]; exact upd_same) fun b h3 h4 => by rw [upd_ne h3, upd_ne h4]
theorem xc2 {x n m qual : Str} {C fI cc cda : Addr} {st : Stmt} {p0 p1 p2 p3 p4 q1 q2 r1 r2 r3 r4 t1 t2 t3 t4 : Pos} {ar : PySem.Arg} {dV kV doc pm ct oc : Value} {an od : Option Addr} {osl : Array (Option Value)}
    (hm : mg x = some (.ref C)) (hO : OexC K C) (hX : XfC K C) (hi : PySem.W.findIn K (.ref C) "__init__" = some (some (.ref fI))) (ht : PySem.W.typeIn K (.ref fI) = some (.type "function")) (hno : PySem.W.findIn K (.ref C) n = some none) (hno2 : PySem.W.findIn K (.ref C) m = some none)
    (lk : K.lookup fI = some ⟨oc, od, .func (PySem.W.ksFn "__init__" qual (defArgs st) (defBody st) (defScope st) dV kV doc pm an (.ref cda) ct cc), osl⟩) (U : SupT P K C fI cc cda qual) (hsup : mg "super" = none)
    (hbd : defBody st = [.Expr (.Call (.Attribute (.Call (.Name "super" p0) [] [] p1) "__init__" p2) [.Name n q1, .Name m q2] [] p3) p4, .Assign [.Attribute (.Name "self" r1) n r2] (.Name n r3) r4, .Assign [.Attribute (.Name "self" t1) m t2] (.Name m t3) t4])
    (hpar : ((defArgs st).posonlyargs ++ (defArgs st).args).head? = some ar) (har : ar.arg = "self") (hS : nscB ["self", n, m, "__class__"] ["self", n, m] ["__class__"] (defScope st) = true) (hks : (defScope st).names.lookup ("super" : Str) = some .globalImplicit)
    (hbi : L2.Binds K (PySem.W.ksFn "__init__" qual (defArgs st) (defBody st) (defScope st) dV kV doc pm an (.ref cda) ct cc) ["self", n, m] []) (hn1 : (n == ("__debug__" : Str)) = false) (hn2 : (n == ("__classdict__" : Str)) = false) (hm1 : (m == ("__debug__" : Str)) = false) (hm2 : (m == ("__classdict__" : Str)) = false) (hnm : n ≠ m)
    (hcall : ∀ env : Env, ∃ pl : Sem Bool, eval (.Call (.Attribute (.Call (.Name "super" p0) [] [] p1) "__init__" p2) [.Name n q1, .Name m q2] [] p3) env = (do
      let ov ← attributeBase (.Call (.Name "super" p0) [] [] p1) "__init__" env (eval (.Call (.Name "super" p0) [] [] p1) env)
      standAt p2.atName
      let (f, first) ← holding [ov] (getMethod ov "__init__" pl)
      callWith p3 f first (backTo p3 (starEach [.Name n q1, .Name m q2] env)) [])) : XcT P K mg x [n, m] := by
  have S := nscope_by hS
  refine ⟨C, fI, _, hm, hO, hX, hi, ht, hbi, fun f hf => by
    simp only [List.mem_cons, List.not_mem_nil, or_false] at hf
    rcases hf with rfl | rfl
    · exact hno
    · exact hno2, fun w base => ?_⟩
  rw [hbd] at lk ⊢
  refine init_ok (N := ["self", n, m, "__class__"]) lk U hO S hpar (by rw [har]; rfl) hks hsup (fun vs H Q E h => ?_) (fun _ => rfl) (fun _ _ => rfl) (fun _ => rfl) (fun _ => ?_) hcall fun Fn A outer s H vs Q E e1 e2 hr h => ?_
  · obtain ⟨a, ws, rfl, hl, _⟩ := h
    simp only [List.length_cons, List.length_nil] at hl ⊢; omega
  · unfold interactive
    rw [show (envF ⟨"__init__", qual, defArgs st, [], defScope st, [("__class__", cc)], cda⟩ fI _).scope.kind = .function from S.kind]; rfl
  · obtain ⟨a, ws, rfl, hl, ha, q⟩ := h
    obtain ⟨v, u, rfl⟩ : ∃ v u, ws = [v, u] := by
      match ws, hl with
      | [v, u], _ => exact ⟨v, u, rfl⟩
    have vis : ∀ y ∈ (["self", n, m] : List Str), Vis (envF Fn fI s.heap.objs.size).scope y := fun y hy => by
      refine Or.inl ?_
      show Fn.scope.names.lookup y = _
      rw [e1]; exact S.par y hy
    have p0' := fun pos => pe_var (X := ncx (L2.CX P w) P w K mg base ["self", n, m, "__class__"] Fn fI A outer s H E) (i := 0) (x := "self") (pos := pos) rfl (vis _ (by simp)) (by decide) (by decide)
    have p1' := fun pos => pe_var (X := ncx (L2.CX P w) P w K mg base ["self", n, m, "__class__"] Fn fI A outer s H E) (i := 1) (x := n) (pos := pos) rfl (vis _ (by simp)) hn1 hn2
    have p2' := fun pos => pe_var (X := ncx (L2.CX P w) P w K mg base ["self", n, m, "__class__"] Fn fI A outer s H E) (i := 2) (x := m) (pos := pos) rfl (vis _ (by simp)) hm1 hm2
    refine ⟨a, [v, u], _, _, rfl, ha, pa_cons (p1' _) (pa_cons (p2' _) pa_nil), pss_cons (ps_ost (p0' _) (p1' _)) (pss_one (ps_ost (p0' _) (p2' _))), v, rfl, u, rfl, by show 2 ≤ 1000; decide, ha, ?_⟩
    refine ⟨v, rfl, .ref a, rfl, a, C, rfl, hO, hno, .inl ⟨ha, fun dx h1 h2 => ?_⟩⟩
    refine ⟨u, rfl, .ref a, rfl, a, C, rfl, hO, hno2, .inr ⟨dx, _, upd_same, by rw [upd_ne h2]; exact upd_same, by show 1 ≤ 900; decide, ?_⟩⟩
    exact q dx _ h1 h2 (by rw [upd_ne (Ne.symm h2)]; exact upd_same) upd_same fun b h3 h4 => by rw [upd_ne h4, upd_ne h3, upd_ne h4]
end
end Den
namespace Den
open PySem PySem.Spec PyProof.Rows L2
/-- the j-th statement of a class -/
def clsM (s : Stmt) (j : Nat) : Stmt := match s with
  | .ClassDef _ _ _ b _ _ _ _ _ _ _ => b.getD j (.Pass ⟨0, 0, 0, 0⟩)
  | _ => .Pass ⟨0, 0, 0, 0⟩
/-- which classes a clause takes -/
def HitOk (K : PySem.W.Frag) (mg : Str → Option Value) (C : Value) (hit : List (Str × Bool)) : Prop := ∀ m b, hit.lookup m = some b → ∀ cv, mg m = some cv → PySem.W.exmOne K cv C = some b
theorem hit_nil {K : PySem.W.Frag} {mg : Str → Option Value} {C : Value} : HitOk K mg C [] := fun _ _ h => by cases h
theorem hit_cons {K : PySem.W.Frag} {mg : Str → Option Value} {C cv : Value} {m : Str} {b : Bool} {r : List (Str × Bool)} (hm : mg m = some cv) (he : PySem.W.exmOne K cv C = some b) (h : HitOk K mg C r) : HitOk K mg C ((m, b) :: r) := fun m' b' e cv' e2 => by
  simp only [List.lookup] at e
  split at e
  · rename_i z
    cases e
    rw [beq_iff_eq.mp z, hm] at e2
    cases e2
    exact he
  · exact h m' b' e cv' e2
theorem exm_of {K : PySem.W.Frag} {S C : Addr} {b : Bool} (h1 : PySem.W.subIn K (.ref S) (.type "BaseException") = some true) (h2 : PySem.W.isClsIn K S = true) (h3 : PySem.W.typeIn K (.ref S) = some (.type "type")) (h4 : PySem.W.subIn K (.ref C) (.ref S) = some b) : PySem.W.exmOne K (.ref C) (.ref S) = some b := by
  have h2' : (PySem.W.clsIn K S).isSome = true := h2
  unfold PySem.W.exmOne PySem.W.kitCls
  rw [h1]
  show (if ((PySem.W.clsIn K S).isSome && PySem.W.typeIn K (.ref S) == some (.type "type")) = true then PySem.W.subIn K (.ref C) (.ref S) else none) = some b
  rw [h2', h3]
  exact h4
theorem takes_no {X : Cx} : Takes X (fun _ _ _ _ => False) := fun _ _ ⟨_, _, _, _, _, _, _, _, _, _, _, _, _, _, _, _, w⟩ => w.elim
end Den

set_option maxHeartbeats 1000000
/-! d.pop(k), d.get(k, x); what simp knows of raise, try, fields. -/
namespace Den
open PySem PySem.Spec PyProof.Rows L2
def popD (kds : List (D × D)) (c : D) : List (D × D) := kds.filter fun p => !keyEq p.1 c
section
variable {K : PySem.W.Frag} {R H : Hp}
theorem dropK_at {k : Key} : ∀ {kds : List (D × D)} {ks : List Key} {xs : List V}, kds.map (·.1) = ks.map kD → AtAll K R xs (kds.map (·.2)) →
    ∃ (ks' : List Key) (xs' : List V), (popD kds (kD k)).map (·.1) = ks'.map kD ∧ AtAll K R xs' ((popD kds (kD k)).map (·.2)) ∧ dropK (ks.zip xs) k = ks'.zip xs'
  | [], ks, xs, h1, h2 => by
    cases ks with
    | nil => cases h2; exact ⟨[], [], rfl, .nil, rfl⟩
    | cons => simp at h1
  | p :: kds, ks, xs, h1, h2 => by
    cases ks with
    | nil => simp at h1
    | cons q ks =>
      simp only [List.map_cons, List.cons.injEq] at h1
      cases h2 with
      | cons a b =>
        rename_i x xs
        obtain ⟨ks', xs', e1, e2, e3⟩ := dropK_at (k := k) h1.2 b
        unfold popD at e1 e2 ⊢
        unfold dropK at e3 ⊢
        rw [List.zip_cons_cons, List.filter_cons, List.filter_cons, h1.1, keyEq_kD]
        by_cases c : q = k
        · refine ⟨ks', xs', ?_, ?_, ?_⟩
          · simp [c, e1]
          · simpa [c] using e2
          · rw [if_neg (by simp [c])]; exact e3
        · refine ⟨q :: ks', x :: xs', ?_, ?_, ?_⟩
          · simp [c, e1, h1.1]
          · simp only [c, decide_false, Bool.not_false, if_true, List.map_cons]; exact .cons a e2
          · rw [if_pos (by simp [c]), List.zip_cons_cons, e3]
/-- d.pop(e), d a name with an owned dict of plain members -/
def popK2 (i : Nat) (a : DV) : Den DV := fun ρ => match ρ[i]? with
  | some (some (.ow .im, .dic kds)) => (match getK kds a.2 with
    | some d => some (.ok (ρ.set i (some (.ow .im, .dic (popD kds a.2)))) (.sh .im, d))
    | none => none)
  | _ => none
def dPopK (i : Nat) (da : Den DV) : Den DV := fun ρ => match ρ[i]? with
  | some (some (.ow _, .dic _)) => dBind da (popK2 i) ρ
  | _ => none
variable {mg : Str → Option Value} {W : WX} {σ : L2.St} {Q : VK} {pa pb pc : Bool}
theorem popK_ok {i : Nat} {da : Den DV} (h : tE K mg W false (dPopK i da) σ H Q) : tDPop1 (tVar i) (tE K mg W pa da) σ H Q := by
  obtain ⟨ρ, R, F, res, hS, hden, hQ⟩ := h
  unfold dPopK at hden
  split at hden
  rotate_left
  · cases hden
  rename_i k0 ds0 e0
  obtain ⟨v0, La, Lb, a1, a2, _⟩ := hS.slots.pick e0
  obtain ⟨p, ks, vs, Fk, rfl, rfl, hk, hp, hn, hO⟩ := a2
  refine ⟨.ref p, a1, p, rfl, .inl ⟨_, .inl hp⟩, ?_⟩
  refine tG_bind hS hden hQ fun ρ1 a v H1 R1 F1 G1 e st q n s pp => ?_
  unfold popK2 at e
  split at e
  rotate_left
  · cases e
  rename_i kds e1
  split at e
  rotate_left
  · cases e
  rename_i d ed
  cases e
  obtain ⟨k, hk'⟩ := key_of (getK_key ed)
  have hu := key_at hk' (q.at st.sub)
  obtain ⟨p', ks2, vs2, h1, h2, h3, h4, put⟩ := st.rekey e1
  rw [a1] at h1; cases h1
  obtain ⟨ks', vs', g1, g2, g3⟩ := dropK_at (k := k) h3 h4
  have gv := get_at (k := k) h3 h4
  rw [← hk', ed] at gv
  obtain ⟨y, hy, qy⟩ := gv
  obtain ⟨F', st', s'⟩ := put (popD kds a.2) ks' vs' (by rw [hk']; exact g1) (by rw [hk']; exact g2)
  refine ⟨_, k, y, h2, hu, hy, ?_⟩
  rw [g3]
  exact ((hQ.step s fun z => by cases z).drop.step s' fun z => by cases z).im st' qy
end
theorem e_popK {X : Cx} {W : WX} {pa : Bool} {e : Expr} {da : Den DV} {i : Nat} {x : Str} {px apos cpos : Pos} (h : PE X (.Name x px) (tVar i)) (ha : RE X W pa e da) (m : M1 X (.Name x px) "pop" apos e cpos := by exact ⟨rfl, rfl, rfl, rfl⟩) :
    RE X W false (.Call (.Attribute (.Name x px) "pop" apos) [e] [] cpos) (dPopK i da) := (pe_dpop1 h ha m).impD fun _ _ _ h => popK_ok h
section
variable {N : Rho → Prop} {T : Rho → DV → Prop} {B C : Rho → Prop} {X : Rho → Exn → Prop} {ρ : Rho} {Q : Rho → DV → Prop}
theorem uE_popK {i : Nat} {da : Den DV} : uE (dPopK i da) Q X ρ = wDic ρ[i]? (fun _ _ => uE da (fun ρ a => wDicI ρ[i]? fun kds => wO (getK kds a.2) fun d => Q (ρ.set i (some (.ow .im, .dic (popD kds a.2)))) (.sh .im, d)) X ρ) := by
  have inner : ∀ (ρ : Rho) (a : DV), uE (popK2 i a) Q X ρ = wDicI ρ[i]? fun kds => wO (getK kds a.2) fun d => Q (ρ.set i (some (.ow .im, .dic (popD kds a.2)))) (.sh .im, d) := by
    intro ρ a
    rcases h : ρ[i]? with _ | _ | ⟨s, d⟩
    · simp [uE, popK2, wDicI, h]
    · simp [uE, popK2, wDicI, h]
    · cases s with
      | im => simp [uE, popK2, wDicI, h]
      | ow k =>
        cases k with
        | im =>
          cases d with
          | dic kds => cases hg : getK kds a.2 <;> simp [uE, popK2, wDicI, h, hg, wO]
          | _ => simp [uE, popK2, wDicI, h]
        | ow k => simp [uE, popK2, wDicI, h]
  have step : uE (dBind da (popK2 i)) Q X ρ = uE da (fun ρ a => wDicI ρ[i]? fun kds => wO (getK kds a.2) fun d => Q (ρ.set i (some (.ow .im, .dic (popD kds a.2)))) (.sh .im, d)) X ρ := by
    rw [uE_bind]; congr 1; funext ρ a; exact inner ρ a
  rcases h : ρ[i]? with _ | _ | ⟨s, d⟩
  · simp [uE, dPopK, wDic, h]
  · simp [uE, dPopK, wDic, h]
  · cases s with
    | im => simp [uE, dPopK, wDic, h]
    | ow k =>
      cases d with
      | dic kds => simp only [wDic]; rw [← step]; simp [uE, dPopK, h]
      | _ => simp [uE, dPopK, wDic, h]
theorem uE_fld {n : Str} {da : Den DV} : uE (dFld n da) Q X ρ = uE da (fun ρ a => wO (fldOf n a) fun d => Q ρ (.sh .im, d)) X ρ := by
  unfold dFld; rw [uE_bind]; congr 1; funext ρ a; rw [uE_lift]; rfl
theorem uS_raise {c : Str} {ns : List Str} {da : Den (List DV)} : uS (sRaise c ns da) N T B C X ρ = uE da (fun ρ as => noBo as = true ∧ (as.length = ns.length ∧ ns.length ≤ 10) ∧ X ρ ⟨c, (ns.zip (as.map (·.2))).reverse⟩) X ρ := by
  unfold sRaise; rw [uS_bind]; congr 1; funext ρ as; rw [noBo_eq]
  cases noBo as
  · simp only [Bool.not_false, if_true, Bool.false_eq_true, false_and]; unfold uS; rfl
  · simp only [Bool.not_true, Bool.false_eq_true, if_false, true_and]
    by_cases c : as.length = ns.length ∧ ns.length ≤ 10
    · rw [if_pos c]; unfold uS; exact propext ⟨fun z => ⟨c, z⟩, fun z => z.2⟩
    · rw [if_neg c]; unfold uS; exact propext ⟨False.elim, fun z => c z.1⟩
/-- a clause after another takes what flies -/
def uH (cl : List Cl) (x : Exn) (N : Rho → Prop) (T : Rho → DV → Prop) (B C : Rho → Prop) (X : Rho → Exn → Prop) (ρ : Rho) : Prop := uS (sHandle cl x) N T B C X ρ
theorem uS_try {body : DenS} {cl : List Cl} : uS (sTry body cl) N T B C X ρ = uS body N T B C (fun ρ x => uS (sHandle cl x) N T B C X ρ) ρ := by
  unfold uS sTry
  cases h : body ρ with
  | none => simp
  | some o => cases o <;> simp
theorem uH_nil {x : Exn} : uS (sHandle [] x) N T B C X ρ = X ρ x := rfl
theorem uH_cons {c : Cl} {r : List Cl} {x : Exn} : uS (sHandle (c :: r) x) N T B C X ρ = wO (c.hit.lookup x.c) fun b => if b = true then uS c.den (fun ρ => N (ρ.set c.i none)) (fun ρ a => T (ρ.set c.i none) a) (fun ρ => B (ρ.set c.i none)) (fun ρ => C (ρ.set c.i none)) (fun _ _ => False) (ρ.set c.i (some (.im, .ins x.c x.fs))) else uS (sHandle r x) N T B C X ρ := by
  have e : sHandle (c :: r) x ρ = match c.hit.lookup x.c with
    | some true => capt c.i (c.den (ρ.set c.i (some (.im, .ins x.c x.fs))))
    | some false => sHandle r x ρ
    | none => none := by
    conv => lhs; unfold sHandle
    all_goals rfl
  unfold uS wO
  rw [e]
  cases h : c.hit.lookup x.c with
  | none => rfl
  | some b =>
    cases b with
    | true =>
      simp only [if_true]
      cases h2 : c.den (ρ.set c.i (some (.im, .ins x.c x.fs))) with
      | none => rfl
      | some o => cases o <;> rfl
    | false => simp only [Bool.false_eq_true, if_false]
end
end Den
namespace Den
open PySem PySem.Spec PyProof.Rows L2
section
variable {N : Rho → Prop} {T : Rho → DV → Prop} {B C : Rho → Prop} {X : Rho → Exn → Prop} {ρ : Rho} {Q : Rho → DV → Prop}
@[simp ↓] theorem wE_popK_z {i : Nat} {da : Den DV} : wE (dPopK i da) Q X ρ = wDic ρ[i]? (Lz (tgz fun _ _ => wE da (Lz (tgz fun ρ a => wDicI ρ[i]? (Lz (tgz fun kds => wO (getK kds a.2) (Lz (tgz fun d => Q (ρ.set i (some (.ow .im, .dic (popD kds a.2)))) (.sh .im, d)))))))  X ρ)) := by
  rewrite [feE]; exact uE_popK
@[simp ↓] theorem wE_fld_z {n : Str} {da : Den DV} : wE (dFld n da) Q X ρ = wE da (Lz (tgz fun ρ a => wO (fldOf n a) (Lz (tgz fun d => Q ρ (.sh .im, d))))) X ρ := by
  rewrite [feE]; exact uE_fld
@[simp ↓] theorem wS_raise_z {c : Str} {ns : List Str} {da : Den (List DV)} : wS (sRaise c ns da) N T B C X ρ = wE da (Lz (tgz fun ρ as => noBo as = true ∧ (as.length = ns.length ∧ ns.length ≤ 10) ∧ X ρ ⟨c, (ns.zip (as.map (·.2))).reverse⟩)) X ρ := by
  rewrite [feE, feS]; exact uS_raise
@[simp ↓] theorem wS_try_z {body : DenS} {cl : List Cl} : wS (sTry body cl) N T B C X ρ = wS body N T B C (Lz (tgz fun ρ x => wS (sHandle cl x) N T B C X ρ)) ρ := by
  rewrite [feS]; exact uS_try
theorem wH_nil {x : Exn} : wS (sHandle [] x) N T B C X ρ = X ρ x := by
  rewrite [feS]; rfl
theorem wH_cons {c : Cl} {r : List Cl} {x : Exn} : wS (sHandle (c :: r) x) N T B C X ρ = wO (c.hit.lookup x.c) (Lz (tgz fun b => if b = true then wS c.den (Lz (tgz fun ρ => N (ρ.set c.i none))) (Lz (tgz fun ρ a => T (ρ.set c.i none) a)) (Lz (tgz fun ρ => B (ρ.set c.i none))) (Lz (tgz fun ρ => C (ρ.set c.i none))) (Lz (tgz fun _ _ => False)) (ρ.set c.i (some (.im, .ins x.c x.fs))) else wS (sHandle r x) N T B C X ρ)) := by
  rewrite [feS]; exact uH_cons
theorem wH_yes {i : Nat} {hit : List (Str × Bool)} {den : DenS} {r : List Cl} {x : Exn} (h : hit.lookup x.c = some true) (q : wS den (Lz (tgz fun ρ => N (ρ.set i none))) (Lz (tgz fun ρ a => T (ρ.set i none) a)) (Lz (tgz fun ρ => B (ρ.set i none))) (Lz (tgz fun ρ => C (ρ.set i none))) (Lz (tgz fun _ _ => False)) (ρ.set i (some (.im, .ins x.c x.fs)))) : wS (sHandle (⟨i, hit, den⟩ :: r) x) N T B C X ρ := by
  rw [wH_cons]; show wO (hit.lookup x.c) _; rw [h]; exact q
theorem wH_no {i : Nat} {hit : List (Str × Bool)} {den : DenS} {r : List Cl} {x : Exn} (h : hit.lookup x.c = some false) (q : wS (sHandle r x) N T B C X ρ) : wS (sHandle (⟨i, hit, den⟩ :: r) x) N T B C X ρ := by
  rw [wH_cons]; show wO (hit.lookup x.c) _; rw [h]; exact q
@[simp] theorem fldOf_ins {n c : Str} {fs : List (Str × D)} : fldOf n (.sh .im, .ins c fs) = fs.lookup n := id rfl
end
end Den

set_option maxHeartbeats 1000000
/-! {k: v, ..} with written keys; d.get(k, x). -/
namespace Den
open PySem PySem.Spec PyProof.Rows L2
section
variable {K : PySem.W.Frag} {mg : Str → Option Value} {W : WX} {σ : L2.St} {H : Hp} {Q : VK} {pa pb pc : Bool}
theorem tG_imp {α β : Type} {rel : RelT α β} {pu : Bool} {den : Den α} {Q Q' : β → Hp → Prop} (h : tG K mg W rel pu den σ H Q) (i : ∀ v H', Q v H' → Q' v H') : tG K mg W rel pu den σ H Q' := by
  obtain ⟨ρ, R, F, res, hS, hden, hQ⟩ := h
  refine ⟨ρ, R, F, res, hS, hden, ?_⟩
  cases res with
  | ok ρ' a => exact fun v H' R' F' Fv h1 h2 h3 h4 h5 => i _ _ (hQ v H' R' F' Fv h1 h2 h3 h4 h5)
  | ex ρ' x => exact hQ
/-- the pairs of a display: written keys, values one after the other -/
def PrOk (X : Cx) (W : WX) (pa : Bool) (pos : Pos) (keys : List (Option Expr)) (values : List Expr) (ks : List Key) (das : Den (List DV)) : Prop := ∃ trs, PPs X pos keys values trs ∧ keys.length = ks.length ∧ values.length = ks.length ∧ keys.all (·.isSome) = true ∧
  ∀ σ H (Q : List (V × V) → Hp → Prop), tA X.K X.mg W pa das σ H (fun vs H1 => Q ((ks.map kV).zip vs) H1) → tPairs trs σ H Q
def dDisp (ks : List Key) (da : Den (List DV)) : Den DV := dBind da fun as => if as.any isBo = true then dFail else if as.length = ks.length ∧ ks.length ≤ 15 then dRet (.sh (.ow .im), .dic (mergeD [] ((ks.map kD).zip (as.map (·.2))))) else dFail
theorem pairs_flat : ∀ {ks : List Key} {vs : List V}, ks.length = vs.length → (ks.map kV).zip vs = (ks.zip vs).map fun kv => (kV kv.1, kv.2)
  | [], [], _ => rfl
  | k :: ks, v :: vs, h => by
    rw [List.map_cons, List.zip_cons_cons, List.zip_cons_cons, List.map_cons, pairs_flat (by simpa using h)]
theorem zip_fst {ks : List Key} {ds : List D} (h : ks.length = ds.length) : (((ks.map kD).zip ds).map (·.1)) = ks.map kD := by
  rw [List.map_fst_zip]; rw [List.length_map]; omega
theorem zip_snd {ks : List Key} {ds : List D} (h : ks.length = ds.length) : (((ks.map kD).zip ds).map (·.2)) = ds := by
  rw [List.map_snd_zip]; rw [List.length_map]; omega
theorem disp_ok {ks : List Key} {da : Den (List DV)} {trs : List (TE × TE)} (hp : ∀ σ H (Q : List (V × V) → Hp → Prop), tA K mg W pa da σ H (fun vs H1 => Q ((ks.map kV).zip vs) H1) → tPairs trs σ H Q) (h : tE K mg W false (dDisp ks da) σ H Q) : tDisp trs σ H Q := by
  obtain ⟨ρ, R, F, res, hS, hden, hQ⟩ := h
  intro p hnp
  refine hp _ _ _ ?_
  have hQ1 := hQ.step (R1 := R) (H1 := upd H p (.dK [])) (F1 := F) (.fresh hnp fun a h => .inl h) fun z => by cases z
  refine tG_bind (hS.fresh hnp) hden hQ1 fun ρ1 as vs H1 R1 F1 G1 e st q n s pp => ?_
  cases hb : as.any isBo with
  | true => rw [if_pos hb] at e; cases e
  | false =>
  rw [if_neg (by rw [hb]; exact Bool.false_ne_true)] at e
  split at e
  rotate_left
  · cases e
  rename_i hl
  cases e
  have pF : p ∉ F := fun hm => by
    obtain ⟨⟨u, z⟩, _⟩ := hS.slots.foot p hm
    rw [hnp] at z; cases z
  have pR := hS.none_of hnp
  have hp1 : H1 p = some (.dK []) := s.keep p _ upd_same pF
  have pR1 : R1 p = none := by
    cases z : R1 p with
    | none => rfl
    | some u =>
      rcases s.rnew p u z with y | y | y
      · rw [pR] at y; cases y
      · exact absurd y pF
      · rw [upd_same] at y; cases y
  have pFG : p ∉ F1 ++ G1 := fun hm => by
    rcases s.fnew p hm with y | y
    · exact pF y
    · rw [upd_same] at y; cases y
  have st2 := st.freeze (nd_out n)
  have fr := q.freeze st.sub (fun _ h => h) hb
  have pR2 : ext R1 H1 G1 p = none := by rw [ext_out fun z => pFG (List.mem_append_right _ z)]; exact pR1
  have s2 := s.trans (.freeze st.sub)
  have hlen : vs.length = ks.length := by rw [fr.length, List.length_map]; exact hl.1
  have hla : ks.length = (as.map (·.2)).length := by rw [List.length_map]; exact hl.1.symm
  obtain ⟨ks', vs', g1, g2, g3⟩ := merge_at (ks0 := []) (xs0 := []) (kds := []) (more := (ks.map kD).zip (as.map (·.2))) (zip_fst hla) (by rw [zip_snd hla]; exact fr) rfl .nil
  refine ⟨hp1, ks.zip vs, pairs_flat hlen.symm, by rw [List.length_zip]; omega, ?_⟩
  have g3' : mergeK [] (ks.zip vs) = ks'.zip vs' := g3
  rw [g3']
  have pF1 : p ∉ F1 := fun z => pFG (List.mem_append_left _ z)
  have key : ∀ (H' : Hp) (ds : List D) (vs : List V), AtAll K (ext R1 H1 G1) vs ds → OwnL (Own K (ext R1 H1 G1) H' .im) ds vs [] := fun H' ds => by
    induction ds with
    | nil => intro vs h; cases h; exact ⟨rfl, rfl⟩
    | cons d ds ih => intro vs h; cases h with | cons h1 h2 => exact ⟨_, _, [], [], rfl, rfl, ⟨rfl, h1⟩, ih _ h2⟩
  refine hQ (.ref p) (upd H1 p (.dK (ks'.zip vs'))) (ext R1 H1 G1) F1 [p] (st2.frame .refl (fun a o z => ?_) (fun a ha => upd_ne fun z => pF1 (z ▸ ha)) fun a ha => (st2.slots.foot a ha).2) ⟨p, ks', vs', [], rfl, rfl, g1, upd_same, pR2, key _ _ _ g2⟩ ?_ ⟨fun a o z hf => ?_, s2.grow, fun a o z => ?_, fun a ha => ?_, fun a o z => ?_⟩ (fun z => by cases z)
  · rw [upd_ne fun y => by rw [y, pR2] at z; cases z]; exact st2.sub a o z
  · exact List.nodup_append.mpr ⟨st2.nd, by simp, fun a ha b hb => by rw [List.mem_singleton.mp hb]; exact fun y => pF1 (y ▸ ha)⟩
  · have ne : a ≠ p := fun y => by rw [y, hnp] at z; cases z
    rw [upd_ne ne]; exact s.keep a o (by rw [upd_ne ne]; exact z) hf
  · rcases s2.rnew a o z with y | y | y
    · exact .inl y
    · exact .inr (.inl y)
    · by_cases c : a = p
      · rw [c]; exact .inr (.inr hnp)
      · rw [upd_ne c] at y; exact .inr (.inr y)
  · rcases List.mem_append.mp ha with ha | ha
    · rcases s2.fnew a ha with y | y
      · exact .inl y
      · by_cases c : a = p
        · rw [c]; exact .inr hnp
        · rw [upd_ne c] at y; exact .inr y
    · rw [List.mem_singleton.mp ha]; exact .inr hnp
  · have ne : a ≠ p := fun y => by rw [y, hnp] at z; cases z
    obtain ⟨o', z'⟩ := s.there a o (by rw [upd_ne ne]; exact z)
    exact ⟨o', by rw [upd_ne ne]; exact z'⟩
end
section
variable {X : Cx} {W : WX} {pa pb pc : Bool} {pos : Pos}
theorem pr_nil : PrOk X W true pos [] [] [] dNil := ⟨[], pps_nil, rfl, rfl, rfl, fun σ H Q h => args_nil h⟩
theorem pr_cons {ke v : Expr} {keys : List (Option Expr)} {values : List Expr} {k : Key} {ks : List Key} {da : Den DV} {dr : Den (List DV)} (hk : PE X ke (tC (kV k))) (hv : RE X W pa v da) (hr : PrOk X W pb pos keys values ks dr) : PrOk X W (pa && pb) pos (some ke :: keys) (v :: values) (k :: ks) (dCons pb da dr) := by
  obtain ⟨trs, h1, h2, h3, h4, h5⟩ := hr
  refine ⟨_, pps_cons hk hv h1, by simp [h2], by simp [h3], by simp [h4], fun σ H Q h => ?_⟩
  show tE X.K X.mg W pa da σ H _
  exact tG_imp (args_cons h) fun y H2 q => h5 _ _ _ (tG_imp q fun vs H3 z => z)
theorem e_disp {keys : List (Option Expr)} {values : List Expr} {ks : List Key} {das : Den (List DV)} (h : PrOk X W pa pos keys values ks das) (h0 : keys ≠ []) (h15 : keys.length ≤ 15) : RE X W false (.Dict keys values pos) (dDisp ks das) := by
  obtain ⟨trs, h1, h2, h3, h4, h5⟩ := h
  exact (pe_disp h1 h4 (by omega) h0 h15).impD fun σ H Q q => disp_ok h5 q
theorem k_str {s : Str} {j} : PE X (.Constant (.str s) j pos) (tC (kV (.inr s))) := pe_str
theorem k_int {i : Int} {j} : PE X (.Constant (.int i) j pos) (tC (kV (.inl i))) := pe_int
end
section
variable {K : PySem.W.Frag} {mg : Str → Option Value} {W : WX} {σ : L2.St} {H : Hp} {Q : VK} {pa pb pc : Bool}
/-- d.get(k, x) -/
def getOr (a b c : D) : Option D := match a with
  | .dic kds => if isKey b = true then some ((getK kds b).getD c) else none
  | _ => none
def isDicB : D → Bool
  | .dic _ => true
  | _ => false
def dGet2 (da db dc : Den DV) : Den DV := dBind da fun a => if isBo a = true ∨ isDicB a.2 = false then dFail else dBind db fun b => if isBo b = true then dFail else dBind dc fun c => if isBo c = true then dFail else dLift (getOr a.2 b.2 c.2) fun d => dRet (.sh .im, d)
theorem get2_ok {da db dc : Den DV} (h : tE K mg W false (dGet2 da db dc) σ H Q) : tDGet2 (tE K mg W pa da) (tE K mg W pb db) (tE K mg W pc dc) σ H Q := by
  obtain ⟨ρ, R, F, res, hS, hden, hQ⟩ := h
  refine tG_bind hS hden hQ fun ρ1 a v H1 R1 F1 G1 e st q n s p => ?_
  split at e
  · cases e
  rename_i hc
  have hba : isBo a = false := by
    cases z : isBo a with
    | false => rfl
    | true => exact absurd (.inl z) hc
  have hda : isDicB a.2 = true := by
    cases z : isDicB a.2 with
    | true => rfl
    | false => exact absurd (.inr z) hc
  have st1 := st.freeze (nd_out n)
  have qa := q.freeze st.sub (not_bo hba)
  have hQ1 := (hQ.step s fun z => by cases z).step (.freeze st.sub) fun _ => .refl
  obtain ⟨m, ad⟩ := a
  cases ad <;> simp only [isDicB] at hda <;> first | (cases hda; done) | skip
  rename_i kds
  cases qa with
  | @dic ra ks xs _ g1 g2 g3 =>
  refine ⟨ra, rfl, .inl ⟨_, st1.sub.rd g1⟩, ?_⟩
  refine tG_bind st1 e hQ1 fun ρ2 b u H2 R2 F2 G2 e2 st2 q2 n2 s2 p2 => ?_
  cases hbb : isBo b with
  | true => rw [if_pos hbb] at e2; cases e2
  | false =>
  rw [if_neg (by rw [hbb]; exact Bool.false_ne_true)] at e2
  have st3 := st2.freeze (nd_out n2)
  have qb := q2.freeze st2.sub (not_bo hbb)
  have hQ2 := (hQ1.step s2 fun z => by cases z).step (.freeze st2.sub) fun _ => .refl
  refine tG_bind st3 e2 hQ2 fun ρ3 c w H3 R3 F3 G3 e3 st4 q3 n3 s3 p3 => ?_
  cases hbc : isBo c with
  | true => rw [if_pos hbc] at e3; cases e3
  | false =>
  rw [if_neg (by rw [hbc]; exact Bool.false_ne_true)] at e3
  have st5 := st4.freeze (nd_out n3)
  have qc := q3.freeze st4.sub (not_bo hbc)
  have hQ3 := (hQ2.step s3 fun z => by cases z).step (.freeze st4.sub) fun _ => .refl
  have sub1 : Sub (ext R1 H1 G1) (ext R2 H2 G2) := (s2.trans (.freeze st2.sub)).grow
  have sub2 : Sub (ext R2 H2 G2) (ext R3 H3 G3) := (s3.trans (.freeze st4.sub)).grow
  unfold dLift getOr at e3
  split at e3
  · cases e3
  rename_i d hd
  dsimp only at hd
  split at hd
  · rename_i hk
    cases hd
    cases e3
    obtain ⟨k, ek⟩ := key_of hk
    have hu := key_at ek qb
    have hg : Rd R3 ra (.dK (ks.zip xs)) := Sub.rd s3.grow (Sub.rd sub1 g1)
    refine ⟨valV (ks.zip xs) k, .inl ⟨_, k, st4.sub.rd hg, hu, rfl⟩, ?_⟩
    have gv := get_at (k := k) g2 g3
    rw [← ek] at gv
    cases hgk : getK kds b.2 with
    | none =>
      rw [hgk] at gv hQ3
      have gv' : valV (ks.zip xs) k = none := gv
      rw [gv']
      exact hQ3.im st5 qc
    | some d =>
      rw [hgk] at gv hQ3
      obtain ⟨y, hy, qy⟩ := gv
      rw [hy]
      exact hQ3.im st5 (qy.mono (sub1.trans sub2))
  · cases hd
end
section
variable {X : Cx} {W : WX} {pa pb pc : Bool}
theorem e_get2 {o e f : Expr} {apos cpos : Pos} {da db dc : Den DV} (hu : X.A.units + 65 < cLine) (ho : RE X W pa o da) (he : RE X W pb e db) (hf : RE X W pc f dc) (m : M2 X o "get" apos e f cpos := by exact ⟨rfl, rfl, rfl, rfl⟩) : RE X W false (.Call (.Attribute o "get" apos) [e, f] [] cpos) (dGet2 da db dc) :=
  (pe_dget2 (by omega) ho he hf m).impD fun σ H Q q => get2_ok q
end
section
variable {X : Rho → Exn → Prop} {ρ : Rho} {Q : Rho → DV → Prop}
theorem uE_disp {ks : List Key} {da : Den (List DV)} : uE (dDisp ks da) Q X ρ = uE da (fun ρ as => noBo as = true ∧ (as.length = ks.length ∧ ks.length ≤ 15) ∧ Q ρ (.sh (.ow .im), .dic (mergeD [] ((ks.map kD).zip (as.map (·.2)))))) X ρ := by
  unfold dDisp; rw [uE_bind]; congr 1; funext ρ as; rw [noBo_eq]
  cases noBo as
  · simp only [Bool.not_false, if_true, Bool.false_eq_true, false_and]; rfl
  · simp only [Bool.not_true, Bool.false_eq_true, if_false, true_and]
    by_cases c : as.length = ks.length ∧ ks.length ≤ 15
    · rw [if_pos c]; exact propext ⟨fun z => ⟨c, z⟩, fun z => z.2⟩
    · rw [if_neg c]; exact propext ⟨False.elim, fun z => c z.1⟩
theorem uE_get2 {da db dc : Den DV} : uE (dGet2 da db dc) Q X ρ = uE da (fun ρ a => (isBo a = false ∧ isDicB a.2 = true) ∧ uE db (fun ρ b => isBo b = false ∧ uE dc (fun ρ c => isBo c = false ∧ wO (getOr a.2 b.2 c.2) fun d => Q ρ (.sh .im, d)) X ρ) X ρ) X ρ := by
  unfold dGet2; rw [uE_bind]; congr 1; funext ρ a
  by_cases c : isBo a = true ∨ isDicB a.2 = false
  · rw [if_pos c]; refine propext ⟨False.elim, fun z => ?_⟩
    rcases c with c | c
    · rw [z.1.1] at c; cases c
    · rw [z.1.2] at c; cases c
  · have h1 : isBo a = false := by cases z : isBo a with
      | false => rfl
      | true => exact absurd (.inl z) c
    have h2 : isDicB a.2 = true := by cases z : isDicB a.2 with
      | true => rfl
      | false => exact absurd (.inr z) c
    rw [if_neg c, uE_bind]
    simp only [h1, h2, and_self, true_and]
    congr 1; funext ρ b
    cases hb : isBo b
    · simp only [if_neg Bool.false_ne_true, true_and]
      rw [uE_bind]; congr 1; funext ρ c
      cases hc : isBo c
      · simp only [if_neg Bool.false_ne_true, true_and]
        rw [uE_lift]; rfl
      · simp only [if_true, Bool.true_eq_false, false_and]; rfl
    · simp only [if_true, Bool.true_eq_false, false_and]; rfl
@[simp ↓] theorem wE_disp_z {ks : List Key} {da : Den (List DV)} : wE (dDisp ks da) Q X ρ = wE da (Lz (tgz fun ρ as => noBo as = true ∧ (as.length = ks.length ∧ ks.length ≤ 15) ∧ Q ρ (.sh (.ow .im), .dic (mergeD [] ((ks.map kD).zip (as.map (·.2))))))) X ρ := by
  (try rewrite [feE]); exact uE_disp
@[simp ↓] theorem wE_get2_z {da db dc : Den DV} : wE (dGet2 da db dc) Q X ρ = wE da (Lz (tgz fun ρ a => (isBo a = false ∧ isDicB a.2 = true) ∧ wE db (Lz (tgz fun ρ b => isBo b = false ∧ wE dc (Lz (tgz fun ρ c => isBo c = false ∧ wO (getOr a.2 b.2 c.2) (Lz (tgz fun d => Q ρ (.sh .im, d))))) X ρ)) X ρ)) X ρ := by
  (try rewrite [feE]); exact uE_get2
@[simp] theorem isDicB_dic {kds : List (D × D)} : isDicB (.dic kds) = true := id rfl
end
end Den

set_option maxHeartbeats 1000000
/-! Walking a dict: it is locked while it is walked. -/
namespace Den
open PySem PySem.Spec PyProof.Rows L2
/-- grounds that differ in the locks of dicts -/
def Lks (R R' : Hp) : Prop := ∀ a x, R a = some x → R' a = some x ∨ ∃ kvs, Rd R a (.dK kvs) ∧ Rd R' a (.dK kvs)
theorem Lks.one {R R' : Hp} {a : Addr} {x : HO} (l : Lks R R') (h : R a = some x) (n1 : ∀ kvs, x ≠ .dK kvs) (n2 : ∀ o kvs, x ≠ .frz o (.dK kvs)) : R' a = some x := by
  rcases l a x h with q | ⟨kvs, q | ⟨o, q⟩, _⟩
  · exact q
  · rw [h] at q; cases q; exact absurd rfl (n1 _)
  · rw [h] at q; cases q; exact absurd rfl (n2 _ _)
theorem Lks.dic {R R' : Hp} {a : Addr} {kvs : List (Key × V)} (l : Lks R R') (h : Rd R a (.dK kvs)) : Rd R' a (.dK kvs) := by
  have key : ∀ x, R a = some x → (x = .dK kvs ∨ ∃ o, x = .frz o (.dK kvs)) → Rd R' a (.dK kvs) := fun x e hx => by
    rcases l a x e with q | ⟨kvs', q, q'⟩
    · rcases hx with rfl | ⟨o, rfl⟩
      · exact .inl q
      · exact .inr ⟨o, q⟩
    · have : kvs' = kvs := by
        rcases hx with rfl | ⟨o, rfl⟩ <;> rcases q with q | ⟨o', q⟩ <;> rw [e] at q <;> cases q <;> rfl
      rw [← this]; exact q'
  rcases h with h | ⟨o, h⟩
  · exact key _ h (.inl rfl)
  · exact key _ h (.inr ⟨o, rfl⟩)
theorem Lks.rd {R R' : Hp} {a : Addr} {x : HO} (l : Lks R R') (h : Rd R a x) (n1 : ∀ kvs, x ≠ .dK kvs) (n2 : ∀ o kvs, x ≠ .frz o (.dK kvs)) : Rd R' a x := by
  rcases h with h | ⟨o, h⟩
  · exact .inl (l.one h n1 n2)
  · exact .inr ⟨o, l.one h (fun _ z => nomatch z) fun o' kvs z => by cases z; exact n1 _ rfl⟩
theorem Lks.upd {R : Hp} {d : Addr} {y : HO} {kvs : List (Key × V)} (h : Rd R d (.dK kvs)) (hy : y = .dK kvs ∨ ∃ o, y = .frz o (.dK kvs)) : Lks R (upd R d y) := fun a x e => by
  by_cases z : a = d
  · subst z
    refine .inr ⟨kvs, h, ?_⟩
    rcases hy with rfl | ⟨o, rfl⟩
    · exact .inl upd_same
    · exact .inr ⟨o, upd_same⟩
  · exact .inl (by rw [upd_ne z]; exact e)
section
variable {K : PySem.W.Frag} {R R' H H' : Hp}
theorem Lks.sqL (l : Lks R R') {a : Addr} {xs : List V} (h : SqL K R a xs) : SqL K R' a xs := h.imp (fun q => l.rd q (fun _ z => nomatch z) fun _ _ z => nomatch z) id
theorem Lks.sqT (l : Lks R R') {a : Addr} {xs : List V} (h : SqT K R a xs) : SqT K R' a xs := h.imp (fun q => l.rd q (fun _ z => nomatch z) fun _ _ z => nomatch z) id
mutual
theorem At.lk (s : Lks R R') : ∀ {v : V} {d : D}, At K R v d → At K R' v d
  | _, _, .non => .non
  | _, _, .bl b => .bl b
  | _, _, .int i => .int i
  | _, _, .str x => .str x
  | _, _, .ty n => .ty n
  | _, _, .lst h1 h2 => .lst (s.sqL h1) (AtAll.lk s h2)
  | _, _, .tup h1 h2 => .tup (s.sqT h1) (AtAll.lk s h2)
  | _, _, .dic h1 h2 h3 => .dic (s.dic h1) h2 (AtAll.lk s h3)
  | _, _, .tux h1 h2 h3 h4 => .tux (s.one h1 (fun _ z => nomatch z) fun _ _ z => nomatch z) h2 h3 (AtAll.lk s h4)
  | _, _, .ins h1 h2 h3 h4 h5 h6 => .ins (s.one h1 (fun _ z => nomatch z) fun _ _ z => nomatch z) h2 h3 (s.one h4 (fun _ z => nomatch z) fun _ _ z => nomatch z) h5 (AtAll.lk s h6)
theorem AtAll.lk (s : Lks R R') : ∀ {vs : List V} {ds : List D}, AtAll K R vs ds → AtAll K R' vs ds
  | _, _, .nil => .nil
  | _, _, .cons h1 h2 => .cons (At.lk s h1) (AtAll.lk s h2)
end
theorem Own.lk (g : Lks R R') : ∀ {s : Sh} {d : D} {v : V} {F : List Addr}, (∀ a ∈ F, H' a = H a) → (∀ a ∈ F, R' a = none) → Own K R H s d v F → Own K R' H' s d v F
  | .im, _, _, _, _, _, ⟨e, h⟩ => ⟨e, At.lk g h⟩
  | .ow s, .lst ds, _, _, k, n, ⟨p, vs, F2, e1, e, h, m, t⟩ => by
    subst e
    refine ⟨p, vs, F2, e1, rfl, (k p List.mem_cons_self).trans h, n p List.mem_cons_self, OwnL.imp (fun d v G hG q => ?_) t⟩
    exact Own.lk g (fun a ha => k a (List.mem_cons_of_mem _ (hG a ha))) (fun a ha => n a (List.mem_cons_of_mem _ (hG a ha))) q
  | .ow _, .non, _, _, _, _, h => h.elim
  | .ow _, .bl _, _, _, _, _, h => h.elim
  | .ow _, .int _, _, _, _, _, h => h.elim
  | .ow _, .str _, _, _, _, _, h => h.elim
  | .ow _, .tup _, _, _, _, _, h => h.elim
  | .ow s, .dic kds, _, _, k, n, ⟨p, ks, vs, F2, e1, e, ek, h, m, t⟩ => by
    subst e
    refine ⟨p, ks, vs, F2, e1, rfl, ek, (k p List.mem_cons_self).trans h, n p List.mem_cons_self, OwnL.imp (fun d v G hG q => ?_) t⟩
    exact Own.lk g (fun a ha => k a (List.mem_cons_of_mem _ (hG a ha))) (fun a ha => n a (List.mem_cons_of_mem _ (hG a ha))) q
  | .ow _, .set _, _, _, _, _, h => h.elim
  | .ow _, .ins _ _, _, _, _, _, h => h.elim
  | .ow _, .ty _, _, _, _, _, h => h.elim
theorem VOk.lk {F : List Addr} {a : DV} {v : V} (h : VOk K R H a v F) (g : Lks R R') (g2 : Lks H H') (k : ∀ x ∈ F, H' x = H x) (n : ∀ x ∈ F, R' x = none) : VOk K R' H' a v F := by
  obtain ⟨m, d⟩ := a
  cases m with
  | bo => exact ⟨h.1, At.lk g2 h.2⟩
  | sh s => exact Own.lk g k n h
theorem Slots.lk (g : Lks R R') : ∀ {ρ : Rho} {σ : L2.St} {F : List Addr}, (∀ a ∈ F, H' a = H a) → (∀ a ∈ F, R' a = none) → Slots K R H ρ σ F → Slots K R' H' ρ σ F
  | [], _, _, _, _, ⟨h1, h2⟩ => ⟨h1, h2⟩
  | none :: ρ, _, _, k, n, ⟨x, σ', e, t⟩ => ⟨x, σ', e, Slots.lk g k n t⟩
  | some (s, d) :: ρ, _, _, k, n, ⟨v, σ', F1, F2, e1, e, h, t⟩ => by
    subst e
    exact ⟨v, σ', F1, F2, e1, rfl, Own.lk g (fun a ha => k a (List.mem_append_left _ ha)) (fun a ha => n a (List.mem_append_left _ ha)) h,
      Slots.lk g (fun a ha => k a (List.mem_append_right _ ha)) (fun a ha => n a (List.mem_append_right _ ha)) t⟩
variable {F F' G : List Addr} {ρ : Rho} {σ : L2.St} {d : Addr} {y : HO} {kvs : List (Key × V)} {a : DV} {v : V}
theorem rd_in (h : Rd R d (.dK kvs)) : R d ≠ none := by
  rcases h with h | ⟨_, h⟩ <;> rw [h] <;> exact fun z => nomatch z
theorem foot_ne (h : Rd R d (.dK kvs)) (ft : ∀ x ∈ F, (∃ o, H x = some o) ∧ R x = none) : ∀ x ∈ F, x ≠ d := fun x hx z => rd_in h (z ▸ (ft x hx).2)
theorem Sta.lk (hS : Sta K R H ρ σ F) (h : Rd R d (.dK kvs)) (hy : y = .dK kvs ∨ ∃ o, y = .frz o (.dK kvs)) : Sta K (upd R d y) (upd H d y) ρ σ F := by
  have ne := foot_ne h hS.slots.foot
  refine ⟨hS.slots.lk (Lks.upd h hy) (fun a ha => upd_ne (ne a ha)) (fun a ha => by rw [upd_ne (ne a ha)]; exact (hS.slots.foot a ha).2), fun a o e => ?_, hS.nd⟩
  by_cases z : a = d
  · subst z; rw [upd_same] at e ⊢; exact e
  · rw [upd_ne z] at e ⊢; exact hS.sub a o e
theorem VOk.lku (q : VOk K R H a v F) (g : Sub R H) (h : Rd R d (.dK kvs)) (hy : y = .dK kvs ∨ ∃ o, y = .frz o (.dK kvs)) : VOk K (upd R d y) (upd H d y) a v F := by
  have ne := foot_ne h q.foot
  exact q.lk (Lks.upd h hy) (Lks.upd (g.rd h) hy) (fun a ha => upd_ne (ne a ha)) fun a ha => by rw [upd_ne (ne a ha)]; exact (q.foot a ha).2
theorem Step.unlk {o x : HO} (e : R d = some x) (eh : H d = some x) (s : Step (upd R d o) (upd H d o) F R' H' F') : Step R H F (upd R' d x) (upd H' d x) F' where
  keep := fun a u h n => by
    by_cases z : a = d
    · subst z; rw [upd_same, ← eh]; exact h
    · rw [upd_ne z]; exact s.keep a u (by rw [upd_ne z]; exact h) n
  grow := fun a u h => by
    by_cases z : a = d
    · subst z; rw [upd_same, ← e]; exact h
    · rw [upd_ne z]; exact s.grow a u (by rw [upd_ne z]; exact h)
  rnew := fun a u h => by
    by_cases z : a = d
    · subst z; rw [upd_same] at h; exact .inl (by rw [e]; exact h)
    · rw [upd_ne z] at h
      have := s.rnew a u h
      rw [upd_ne z, upd_ne z] at this
      exact this
  fnew := fun a h => by
    rcases s.fnew a h with q | q
    · exact .inl q
    · by_cases z : a = d
      · subst z; rw [upd_same] at q; cases q
      · rw [upd_ne z] at q; exact .inr q
  there := fun a u h => by
    by_cases z : a = d
    · subst z; exact ⟨_, upd_same⟩
    · rw [upd_ne z]; exact s.there a u (by rw [upd_ne z]; exact h)
end

section
variable {α β γ δ : Type} {K : PySem.W.Frag} {mg : Str → Option Value} {W : WX} {A : List Nat} {pu pa pb pc pd : Bool} {R R' R1 H H' H1 : Hp} {F F1 G : List Addr} {ρ ρ1 : Rho} {σ σ1 : L2.St} {Q : VK} {d : Addr} {ds : List D} {vs : List V} {T : Ends} {kvs : List (Key × V)} {od : Obj}
theorem feeds_keys {ks : List Key} {xs : List V} {kds : List (D × D)} (h : R d = some (.frz od (.dK (ks.zip xs)))) (h2 : kds.map (·.1) = ks.map kD) (h3 : AtAll K R xs (kds.map (·.2))) : Feeds K (Itk d od (ks.zip xs)) R (kds.map (·.1)) where
  stop := fun H i s hi => ⟨s _ _ h, by rw [(dk_len h2 h3).2.2]; rw [List.length_map] at hi; exact hi⟩
  go := fun H i s hi => ⟨s _ _ h, by rw [(dk_len h2 h3).2.2]; rw [List.length_map] at hi; exact hi⟩
  yld := fun H i x H' s hi y => by
    obtain ⟨e, k, v, h4, rfl⟩ := y
    refine ⟨kD k, ?_, .inl ⟨e, by rw [← kD_sv]; exact .sv kD_scal⟩⟩
    rw [h2, List.getElem?_map]
    obtain ⟨e1, e2⟩ := List.getElem?_zip_eq_some.mp h4
    rw [e1]; rfl
theorem loop_at {J : It} {o : Fl} {tg : DenG} {body : DenS} (st : Sta K R1 H1 ρ1 σ F1) (f : Feeds K J R1 ds) (e : loopF tg body ds ρ1 = some o) (hQ1 : PostS K mg W A R1 H1 F1 σ T o) :
    ∃ Wf : Nat → Nat → L2.St → Hp → Prop, (∃ m, Wf 0 m σ H1) ∧ ∀ i m σ H, Wf i m σ H → (J.stop i H ∧ T.nx σ H) ∨ (J.go i H ∧ ∃ N : L2.St → Hp → Prop, (∀ σ' H', N σ' H' → ∃ m', m' < m ∧ Wf (i + 1) m' σ' H') ∧ ∀ x H', J.yld i H x H' → gOf K A tg x σ H' fun σ2 H2 => tS K mg W A body { T with nx := N, ct := N, bk := T.nx } σ2 H2) := by
  refine ⟨fun i m σ' H' => m = ds.length - i ∧ i ≤ ds.length ∧ ∃ ρ' R' F', Sta K R' H' ρ' σ' F' ∧ loopF tg body (ds.drop i) ρ' = some o ∧ Kept A σ σ' ∧ Step R1 H1 F1 R' H' F', ⟨ds.length, by simp, Nat.zero_le _, ρ1, R1, F1, st, e, .refl, .refl⟩, ?_⟩
  rintro i m σ' H' ⟨rfl, hi, ρ', R', F', st', e', kp, s'⟩
  have f' := f.mono s'.grow
  by_cases hlt : i < ds.length
  · refine .inr ⟨f'.go H' i st'.sub hlt, fun σ2 H2 => i + 1 ≤ ds.length ∧ ∃ ρ' R' F', Sta K R' H2 ρ' σ2 F' ∧ loopF tg body (ds.drop (i + 1)) ρ' = some o ∧ Kept A σ σ2 ∧ Step R1 H1 F1 R' H2 F', fun σ2 H2 h2 => ⟨ds.length - (i + 1), by omega, rfl, h2⟩, fun x H2 y => ?_⟩
    obtain ⟨d, hd, hx⟩ := f'.yld H' i x H2 st'.sub hlt y
    have hdrop : ds.drop i = d :: ds.drop (i + 1) := by
      obtain ⟨h1, h2⟩ := List.getElem?_eq_some_iff.mp hd
      rw [List.drop_eq_getElem_cons h1, h2]
    rw [hdrop] at e'
    unfold loopF at e'
    split at e'
    · cases e'
    rename_i ρ2 etg
    -- the item is plain
    obtain ⟨R2, st2, hx2, s2⟩ : ∃ R2, Sta K R2 H2 ρ' σ' F' ∧ At K R2 x d ∧ Step R' H' F' R2 H2 F' := by
      rcases hx with ⟨e1, h1⟩ | ⟨T, vs, es, rfl, hT, rfl, rfl, h1⟩
      · subst e1; exact ⟨R', st', h1, .refl⟩
      · exact ⟨_, st'.grow hT, .tup (.inl (.inl upd_same)) (h1.mono (.upd (st'.none_of hT))), .grown hT (st'.none_of hT)⟩
    refine ⟨ρ', R2, F', d, ρ2, st2, hx2, etg, fun σ3 F3 st3 kp3 sub3 => ?_⟩
    have s3 : Step R1 H1 F1 R2 H2 F3 := (s'.trans s2).less sub3
    have kp' := kp.trans kp3
    split at e'
    · cases e'
    · rename_i ρ4 eb
      exact ⟨ρ2, R2, F3, _, st3, eb, fun σ4 H4 R4 F4 st4 kp4 s4 => ⟨hlt, ρ4, R4, F4, st4, e', kp'.trans kp4, s3.trans s4⟩⟩
    · rename_i ρ4 eb
      exact ⟨ρ2, R2, F3, _, st3, eb, fun σ4 H4 R4 F4 st4 kp4 s4 => ⟨hlt, ρ4, R4, F4, st4, e', kp'.trans kp4, s3.trans s4⟩⟩
    · rename_i ρ4 eb
      cases e'
      exact ⟨ρ2, R2, F3, _, st3, eb, fun σ4 H4 R4 F4 st4 kp4 s4 => hQ1 σ4 H4 R4 F4 st4 (kp'.trans kp4) (s3.trans s4)⟩
    · rename_i ρ4 a eb
      cases e'
      exact ⟨ρ2, R2, F3, _, st3, eb, fun σ4 v H4 R4 F4 Fv st4 kp4 w n4 s4 => hQ1 σ4 v H4 R4 F4 Fv st4 (kp'.trans kp4) w n4 (s3.trans s4)⟩
    · rename_i ρ4 x eb
      cases e'
      exact ⟨ρ2, R2, F3, _, st3, eb, fun c dx σ4 H4 R4 F4 st4 kp4 w s4 => hQ1 c dx σ4 H4 R4 F4 st4 (kp'.trans kp4) w (s3.trans s4)⟩
  · have ei : i = ds.length := by omega
    subst ei
    rw [List.drop_length] at e'
    cases e'
    exact .inl ⟨f'.stop H' _ st'.sub (Nat.le_refl _), hQ1 σ' H' R' F' st' kp s'⟩

/-- what a comprehension makes of the items -/
def compR (own : List Nat) (k : Sh) (tg : DenG) (tt : Den Bool) (te : Den DV) (ds : List D) : Den DV := fun ρ =>
  if ownIm own 0 ρ = true then (match compF own k tg tt te ds (wipeR ρ own) [] with
    | some (ρ', acc) => some (.ok (mergeR own 0 ρ ρ') (.sh (.ow k), .lst acc))
    | none => none) else none
theorem dComp_R {own : List Nat} {k : Sh} {di : Den (List D)} {tg : DenG} {tt : Den Bool} {te : Den DV} : dComp own k di tg tt te = dBind di (compR own k tg tt te) := rfl
theorem comp_at {own : List Nat} {k : Sh} {J : It} {res : Res DV} {tg : DenG} {tt : Den Bool} {te : Den DV} (st : Sta K R1 H1 ρ1 σ F1) (f : Feeds K J R1 ds) (e : compR own k tg tt te ds ρ1 = some res) (hQ1 : PostR K mg W (VOk K) (pb && pc) R1 H1 F1 σ Q res) :
    ∀ DD, H1 DD = none → ∃ Wf : Nat → Nat → Hp → Prop, (∃ m, Wf 0 m (upd H1 DD (.lst []))) ∧ ∀ i m H, Wf i m H →
      (J.stop i H ∧ Q (.ref DD) H) ∨ (J.go i H ∧ ∃ Nx : Hp → Prop, (∀ H', Nx H' → ∃ m', m' < m ∧ Wf (i + 1) m' H') ∧ ∀ x H', J.yld i H x H' → gOf K own tg x (L2.wipe σ own) H' fun σ2 H2 => L2.wipe σ2 own = L2.wipe σ own ∧ tT K mg W0 pb tt σ2 H2 fun b H3 =>
        if b = true then tE K mg W0 pc te σ2 H3 fun y H4 => ∃ acc, H4 DD = some (.lst acc) ∧ acc.length < sizeLine ∧ Nx (upd H4 DD (.lst (acc ++ [y]))) else Nx H3) := by
  unfold compR at e
  split at e
  rotate_left
  · cases e
  rename_i ho
  split at e
  rotate_left
  · cases e
  rename_i ρe acc ec
  cases e
  intro DD hDD
  obtain ⟨Fw, stw, subw⟩ := st.wipe (vs := own)
  have dF1 : DD ∉ F1 := fun hm => by
    obtain ⟨⟨u, e⟩, _⟩ := st.slots.foot DD hm
    rw [hDD] at e; cases e
  -- the invariant
  refine ⟨fun i m H2 => m = ds.length - i ∧ i ≤ ds.length ∧ ∃ ρ' R' F' acc' vs' Fk, Sta K R' H2 ρ' (L2.wipe σ own) F' ∧ compF own k tg tt te (ds.drop i) ρ' acc' = some (ρe, acc) ∧ H2 DD = some (.lst vs') ∧ R' DD = none ∧
    OwnL (Own K R' H2 k) acc' vs' Fk ∧ (F' ++ DD :: Fk).Nodup ∧ Step R1 H1 F1 R' H2 (F' ++ DD :: Fk) ∧ ((pb && pc) = true → Sub H1 H2), ⟨ds.length, by simp, Nat.zero_le _, wipeR ρ1 own, R1, Fw, [], [], [], stw.fresh hDD, ec, upd_same, st.none_of hDD, ⟨rfl, rfl⟩, ?_, ?_, ?_⟩, ?_⟩
  · exact List.nodup_append.mpr ⟨stw.nd, by simp, fun a ha b hb => by
      rw [List.mem_singleton.mp hb]; rintro rfl; exact dF1 (subw _ ha)⟩
  · exact .fresh hDD fun a ha => by
      rcases List.mem_append.mp ha with z | z
      · exact .inl (subw a z)
      · exact .inr (List.mem_singleton.mp z)
  · exact fun _ => .upd hDD
  rintro i m H2 ⟨rfl, hi, ρ', R', F', acc', vs', Fk, st', e', hD2, hRD, hO, nd, s', pu'⟩
  have f' := f.mono s'.grow
  have ndF := List.nodup_append.mp nd
  have hDF : DD ∉ F' := fun z => ndF.2.2 DD z DD List.mem_cons_self rfl
  have hDk : DD ∉ Fk := fun z => (List.nodup_cons.mp ndF.2.1).1 z
  by_cases hlt : i < ds.length
  · -- a turn
    refine .inr ⟨f'.go H2 i st'.sub hlt, fun H3 => i + 1 ≤ ds.length ∧ ∃ ρ' R' F' acc' vs' Fk, Sta K R' H3 ρ' (L2.wipe σ own) F' ∧ compF own k tg tt te (ds.drop (i + 1)) ρ' acc' = some (ρe, acc) ∧ H3 DD = some (.lst vs') ∧ R' DD = none ∧
      OwnL (Own K R' H3 k) acc' vs' Fk ∧ (F' ++ DD :: Fk).Nodup ∧ Step R1 H1 F1 R' H3 (F' ++ DD :: Fk) ∧ ((pb && pc) = true → Sub H1 H3), fun H3 h3 => ⟨ds.length - (i + 1), by omega, rfl, h3⟩, fun x H3 y => ?_⟩
    obtain ⟨d, hd, hx⟩ := f'.yld H2 i x H3 st'.sub hlt y
    have hdrop : ds.drop i = d :: ds.drop (i + 1) := by
      obtain ⟨h1, h2⟩ := List.getElem?_eq_some_iff.mp hd
      rw [List.drop_eq_getElem_cons h1, h2]
    rw [hdrop] at e'
    unfold compF at e'
    split at e'
    · cases e'
    rename_i ρ2 etg
    -- the item is plain
    obtain ⟨R2, st2, hx2, s2, sub23⟩ : ∃ R2, Sta K R2 H3 ρ' (L2.wipe σ own) F' ∧ At K R2 x d ∧ Step R' H2 F' R2 H3 F' ∧ Sub H2 H3 := by
      rcases hx with ⟨e1, h1⟩ | ⟨T, vs, es, rfl, hT, rfl, rfl, h1⟩
      · subst e1; exact ⟨R', st', h1, .refl, .refl⟩
      · exact ⟨_, st'.grow hT, .tup (.inl (.inl upd_same)) (h1.mono (.upd (st'.none_of hT))), .grown hT (st'.none_of hT), .upd hT⟩
    -- what is kept besides: the new list and its members
    have ft : ∀ x ∈ DD :: Fk, (∃ o, H2 x = some o) ∧ R' x = none := fun x hx => by
      rcases List.mem_cons.mp hx with rfl | z
      · exact ⟨⟨_, hD2⟩, hRD⟩
      · exact hO.foot x z
    have away0 : ∀ x ∈ DD :: Fk, x ∉ F' := fun x hx z => ndF.2.2 x z x hx rfl
    refine ⟨ρ', R2, F', d, ρ2, st2, hx2, etg, fun σ3 F3 st3 kp3 sub3 => ⟨?_, ?_⟩⟩
    · rw [wipe_same kp3.1 fun j hj => kp3.2 j hj, wipe_wipe]
    · have s23 : Step R' H2 F' R2 H3 F3 := s2.less sub3
      have hw3 : L2.wipe σ3 own = L2.wipe σ own := by rw [wipe_same kp3.1 fun j hj => kp3.2 j hj, wipe_wipe]
      split at e'
      · -- the test falls
        rename_i ρ4 eb
        refine ⟨ρ2, R2, F3, _, st3, eb, fun b H4 R4 F4 G4 st4 w n4 s4 p4 => ?_⟩
        obtain ⟨rfl, rfl⟩ := w
        rw [List.append_nil] at s4
        rw [if_neg Bool.false_ne_true]
        have s24 := s23.trans s4
        obtain ⟨k1, k2, k3⟩ := s24.away ft away0
        obtain ⟨F5, st5, sub5⟩ := st4.wipe (vs := own)
        rw [hw3] at st5
        refine ⟨hlt, wipeR ρ4 own, R4, F5, acc', vs', Fk, st5, e', (k1 DD List.mem_cons_self).trans hD2, k2 DD List.mem_cons_self, hO.frame s24.grow (fun x hx => k1 x (List.mem_cons_of_mem _ hx)) (fun x hx => k2 x (List.mem_cons_of_mem _ hx)), ?_, (s'.side s24).less fun x hx => ?_, fun z => (pu' z).trans (sub23.trans (p4 (Bool.and_eq_true_iff.mp z).1))⟩
        · exact List.nodup_append.mpr ⟨st5.nd, ndF.2.1, fun a ha b hb => by rintro rfl; exact k3 a hb (sub5 a ha)⟩
        · rcases List.mem_append.mp hx with z | z
          · exact List.mem_append_left _ (sub5 x z)
          · exact List.mem_append_right _ z
      · -- the test holds
        rename_i ρ4 eb
        refine ⟨ρ2, R2, F3, _, st3, eb, fun b H4 R4 F4 G4 st4 w n4 s4 p4 => ?_⟩
        obtain ⟨rfl, rfl⟩ := w
        rw [List.append_nil] at s4
        rw [if_pos rfl]
        split at e'
        rotate_left
        · cases e'
        rename_i ρ5 a ea
        split at e'
        rotate_left
        · cases e'
        rename_i hk
        refine ⟨ρ4, R4, F4, _, st4, ea, fun y H5 R5 F5 G5 st5 hv n5 s5 p5 => ?_⟩
        have s25 : Step R' H2 F' R5 H5 (F5 ++ G5) := (s23.trans s4).trans s5
        obtain ⟨k1, k2, k3⟩ := s25.away ft away0
        obtain ⟨R6, G6, o6, g1, g2, g3, g4, g5, g6⟩ := hv.kid st5.sub hk.1
        have hD5 : H5 DD = some (.lst vs') := (k1 DD List.mem_cons_self).trans hD2
        have nDG : DD ∉ G5 := fun z => k3 DD List.mem_cons_self (List.mem_append_right _ z)
        have nDF : DD ∉ F5 := fun z => k3 DD List.mem_cons_self (List.mem_append_left _ z)
        have hR6 : R6 DD = none := by rw [g4 DD nDG]; exact k2 DD List.mem_cons_self
        refine ⟨vs', hD5, by rw [OwnL.length hO]; exact hk.2, hlt, ?_⟩
        obtain ⟨F7, st7, sub7⟩ := st5.wipe (vs := own)
        have hw5 : L2.wipe σ3 own = L2.wipe σ own := hw3
        rw [hw5] at st7
        have nd5 := List.nodup_append.mp n5
        have out5 : ∀ x ∈ F7, x ∉ G5 := fun x hx z => nd5.2.2 x (sub7 x hx) x z rfl
        have ne7 : ∀ x ∈ F7, x ≠ DD := fun x hx e => nDF (e ▸ sub7 x hx)
        have ne6 : ∀ x ∈ G6, x ≠ DD := fun x hx e => nDG (e ▸ g3 x hx)
        have nek : ∀ x ∈ Fk, x ≠ DD := fun x hx e => hDk (e ▸ hx)
        have kg : ∀ x ∈ Fk, x ∉ G5 := fun x hx z => k3 x (List.mem_cons_of_mem _ hx) (List.mem_append_right _ z)
        have sub6 : Sub R6 (upd H5 DD (.lst (vs' ++ [y]))) := fun x o q => by
          have hx : x ≠ DD := fun e => by subst e; rw [hR6] at q; cases q
          rw [upd_ne hx]; exact g2 x o q
        refine ⟨wipeR ρ5 own, R6, F7, acc' ++ [a.2], vs' ++ [y], Fk ++ G6, st7.frame g1 sub6 (fun x hx => upd_ne (ne7 x hx)) (fun x hx => by rw [g4 x (out5 x hx)]; exact (st7.slots.foot x hx).2), e', upd_same, hR6, ?_, ?_, ?_, ?_⟩
        · refine OwnL.append (hO.frame (s25.grow.trans g1) (fun x hx => by rw [upd_ne (nek x hx)]; exact k1 x (List.mem_cons_of_mem _ hx)) fun x hx => by rw [g4 x (kg x hx)]; exact k2 x (List.mem_cons_of_mem _ hx)) ?_
          exact ⟨y, [], G6, [], rfl, by rw [List.append_nil], o6.frame .refl (fun x hx => upd_ne (ne6 x hx)) g6, rfl, rfl⟩
        · refine List.nodup_append.mpr ⟨st7.nd, List.nodup_cons.mpr ⟨fun z => ?_, List.nodup_append.mpr ⟨(List.nodup_cons.mp ndF.2.1).2, g5 nd5.2.1, fun a ha b hb => by rintro rfl; exact kg a ha (g3 a hb)⟩⟩, fun a ha b hb => ?_⟩
          · rcases List.mem_append.mp z with z | z
            · exact hDk z
            · exact nDG (g3 DD z)
          · rintro rfl
            rcases List.mem_cons.mp hb with z | z
            · exact ne7 a ha z
            · rcases List.mem_append.mp z with z | z
              · exact k3 a (List.mem_cons_of_mem _ z) (List.mem_append_left _ (sub7 a ha))
              · exact out5 a ha (g3 a z)
        · have s15 := s'.side s25
          have h1n : ∀ x, R6 x ≠ R5 x → x ∈ G5 := fun x hx => Decidable.byContradiction fun z => hx (g4 x z)
          refine ⟨fun x o e n => ?_, s15.grow.trans g1, fun x o q => ?_, fun x hx => ?_, fun x o e => ?_⟩
          · have hx : x ≠ DD := ne_of_none e hDD
            rw [upd_ne hx]; exact s15.keep x o e n
          · by_cases hx : x ∈ G5
            · rcases s15.fnew x (List.mem_append_left _ (List.mem_append_right _ hx)) with z | z
              · exact .inr (.inl z)
              · exact .inr (.inr z)
            · rw [g4 x hx] at q; exact s15.rnew x o q
          · rcases List.mem_append.mp hx with z | z
            · exact s15.fnew x (List.mem_append_left _ (List.mem_append_left _ (sub7 x z)))
            · rcases List.mem_cons.mp z with z | z
              · exact s15.fnew x (List.mem_append_right _ (by rw [z]; exact List.mem_cons_self))
              · rcases List.mem_append.mp z with z | z
                · exact s15.fnew x (List.mem_append_right _ (List.mem_cons_of_mem _ z))
                · exact s15.fnew x (List.mem_append_left _ (List.mem_append_right _ (g3 x z)))
          · by_cases hx : x = DD
            · subst hx; exact ⟨_, upd_same⟩
            · rw [upd_ne hx]; exact s15.there x o e
        · intro z
          have h15 := ((pu' z).trans (sub23.trans (p4 (Bool.and_eq_true_iff.mp z).1))).trans (p5 (Bool.and_eq_true_iff.mp z).2)
          intro x o e
          rw [upd_ne (ne_of_none e hDD)]
          exact h15 x o e
      · cases e'
  · have ei : i = ds.length := by omega
    subst ei
    rw [List.drop_length] at e'
    cases e'
    refine .inl ⟨f'.stop H2 _ st'.sub (Nat.le_refl _), ?_⟩
    obtain ⟨F2, a1, a2, a3⟩ := Slots.merge (own := own) (i := 0) s'.grow st.slots st'.slots (wipe_length _ _) ho fun j hj => by
      rw [wipe_get, if_neg fun z => hj (by simpa using z.1)]
    refine hQ1 (.ref DD) H2 R' F2 (DD :: Fk) ⟨a1, st'.sub, a3 st'.nd⟩ ⟨DD, vs', Fk, rfl, rfl, hD2, hRD, hO⟩ ?_ (s'.less fun x hx => ?_) fun z => pu' z
    · exact List.nodup_append.mpr ⟨a3 st'.nd, ndF.2.1, fun a ha b hb => ndF.2.2 a (a2 a ha) b hb⟩
    · rcases List.mem_append.mp hx with z | z
      · exact List.mem_append_left _ (a2 x z)
      · exact List.mem_append_right _ z
/-- the ends behind a lock -/
theorem PostS.lock {o : Fl} (hQ : PostS K mg W A R H F σ T o) (e : R d = some (.dK kvs)) (eh : H d = some (.dK kvs)) (hne : ∀ ρ x, o ≠ .ex ρ x) :
    PostS K mg W A (upd R d (.frz od (.dK kvs))) (upd H d (.frz od (.dK kvs))) F σ ⟨fun σ' H' => H' d = some (.frz od (.dK kvs)) ∧ T.nx σ' (upd H' d (.dK kvs)), fun v H' => H' d = some (.frz od (.dK kvs)) ∧ T.rt v (upd H' d (.dK kvs)), fun σ' H' => H' d = some (.frz od (.dK kvs)) ∧ T.bk σ' (upd H' d (.dK kvs)), fun σ' H' => H' d = some (.frz od (.dK kvs)) ∧ T.ct σ' (upd H' d (.dK kvs))⟩ o := by
  have key : ∀ {R' H' : Hp} {F' : List Addr} {ρ' : Rho} {σ' : L2.St} {F2 : List Addr}, Sta K R' H' ρ' σ' F' → Step (upd R d (.frz od (.dK kvs))) (upd H d (.frz od (.dK kvs))) F R' H' F2 → R' d = some (.frz od (.dK kvs)) ∧ H' d = some (.frz od (.dK kvs)) ∧ Sta K (upd R' d (.dK kvs)) (upd H' d (.dK kvs)) ρ' σ' F' ∧ Step R H F (upd R' d (.dK kvs)) (upd H' d (.dK kvs)) F2 := fun {R' H' F' ρ' σ' F2} st s => by
    have r := s.grow d _ upd_same
    exact ⟨r, st.sub _ _ r, st.lk (.inr ⟨_, r⟩) (.inl rfl), s.unlk e eh⟩
  cases o with
  | nx ρ' => exact fun σ' H' R' F' st k s => let ⟨_, h2, h3, h4⟩ := key st s; ⟨h2, hQ σ' _ _ F' h3 k h4⟩
  | bk ρ' => exact fun σ' H' R' F' st k s => let ⟨_, h2, h3, h4⟩ := key st s; ⟨h2, hQ σ' _ _ F' h3 k h4⟩
  | ct ρ' => exact fun σ' H' R' F' st k s => let ⟨_, h2, h3, h4⟩ := key st s; ⟨h2, hQ σ' _ _ F' h3 k h4⟩
  | rt ρ' a => exact fun σ' v H' R' F' Fv st k w n s => let ⟨h1, h2, h3, h4⟩ := key st s; ⟨h2, hQ σ' v _ _ F' Fv h3 k (w.lku st.sub (.inr ⟨_, h1⟩) (.inl rfl)) n h4⟩
  | ex ρ' x => exact absurd rfl (hne ρ' x)
theorem PostR.lock {ρ' : Rho} {a : DV} (hQ : PostR K mg W (VOk K) pu R H F σ Q (.ok ρ' a)) (e : R d = some (.dK kvs)) (eh : H d = some (.dK kvs)) :
    PostR K mg W (VOk K) pu (upd R d (.frz od (.dK kvs))) (upd H d (.frz od (.dK kvs))) F σ (fun v H' => H' d = some (.frz od (.dK kvs)) ∧ Q v (upd H' d (.dK kvs))) (.ok ρ' a) := fun v H' R' F' Fv st w n s p => by
  have r := s.grow d _ upd_same
  refine ⟨st.sub _ _ r, hQ v _ _ F' Fv (st.lk (.inr ⟨_, r⟩) (.inl rfl)) (w.lku st.sub (.inr ⟨_, r⟩) (.inl rfl)) n (s.unlk e eh) fun z => fun x u q => ?_⟩
  by_cases c : x = d
  · subst c; rw [upd_same, ← eh]; exact q
  · rw [upd_ne c]; exact p z x u (by rw [upd_ne c]; exact q)

/-! the walks -/
def noEx : Option Fl → Option Fl
  | some (.ex _ _) => none
  | o => o
/-- for x in n, n a name: of a list, a tuple, a text or a dict -/
def sForN (i : Nat) (tg : DenG) (body : DenS) : DenS := fun ρ => match ρ[i]? with
  | some (some (_, .dic kds)) => noEx (loopF tg body (kds.map (·.1)) (ρ.set i (some (.im, .dic kds))))
  | _ => sFor (dItems (dVarF i)) tg body ρ
theorem forN_ok {i : Nat} {tg : DenG} {body : DenS} (h : tS K mg W A (sForN i tg body) T σ H) : tFor (tI K mg W true (dItems (dVarF i))) (gOf K A tg) (tS K mg W A body) T σ H ∨ tFor (iKeys (tVar i)) (gOf K A tg) (tS K mg W A body) T σ H ∨ tLock (tFor (iKeys (tVar i)) (gOf K A tg) (tS K mg W A body)) T σ H := by
  obtain ⟨ρ, R, F, o, hS, hden, hQ⟩ := h
  unfold sForN at hden
  split at hden
  · rename_i s kds hi
    obtain ⟨v, R1, F1, hv, ha, st, stp⟩ := hS.thaw hi
    have hQ1 := hQ.step stp .refl
    have hl : loopF tg body (kds.map (·.1)) (ρ.set i (some (.im, .dic kds))) = some o ∧ ∀ ρ x, o ≠ .ex ρ x := by
      unfold noEx at hden
      split at hden
      · cases hden
      · rename_i hne
        refine ⟨hden, fun ρ' x z => ?_⟩
        subst z
        exact hne _ _ hden
    cases ha with
    | @dic p ks xs _ h1 h2 h3 =>
    rcases h1 with h1 | ⟨od, h1⟩
    · have hp := st.sub _ _ h1
      refine .inr (.inr ⟨p, _, hp, trivial, fun od => ⟨_, hv, p, od, rfl, .inl ⟨_, upd_same, ?_⟩⟩⟩)
      have fr : Lks R1 (upd R1 p (.frz od (.dK (ks.zip xs)))) := Lks.upd (.inl h1) (.inr ⟨_, rfl⟩)
      exact loop_at (st.lk (.inl h1) (.inr ⟨_, rfl⟩)) (feeds_keys upd_same h2 (AtAll.lk fr h3)) hl.1 (hQ1.lock h1 hp hl.2)
    · refine .inr (.inl ⟨_, hv, p, od, rfl, .inl ⟨_, st.sub _ _ h1, loop_at st (feeds_keys h1 h2 h3) hl.1 hQ1⟩⟩)
  · exact .inl (for_ok ⟨ρ, R, F, o, hS, hden, hQ⟩)
/-- [e for x in n], n a name: of a list, a tuple, a text or a dict -/
def dCompN (own : List Nat) (k : Sh) (i : Nat) (tg : DenG) (tt : Den Bool) (te : Den DV) : Den DV := fun ρ => match ρ[i]? with
  | some (some (_, .dic kds)) => compR own k tg tt te (kds.map (·.1)) (ρ.set i (some (.im, .dic kds)))
  | _ => dComp own k (dItems (dVarF i)) tg tt te ρ
theorem compN_ok {own : List Nat} {i : Nat} {k : Sh} {tg : DenG} {tt : Den Bool} {te : Den DV} (h : tE K mg W (pb && pc) (dCompN own k i tg tt te) σ H Q) :
    tLc (tI K mg W true (dItems (dVarF i))) (gOf K own tg) (tT K mg W0 pb tt) (tE K mg W0 pc te) own σ H Q ∨ tLc (iKeys (tVar i)) (gOf K own tg) (tT K mg W0 pb tt) (tE K mg W0 pc te) own σ H Q ∨ tLockE (tLc (iKeys (tVar i)) (gOf K own tg) (tT K mg W0 pb tt) (tE K mg W0 pc te) own) σ H Q := by
  obtain ⟨ρ, R, F, o, hS, hden, hQ⟩ := h
  unfold dCompN at hden
  split at hden
  · rename_i s kds hi
    obtain ⟨v, R1, F1, hv, ha, st, stp⟩ := hS.thaw hi
    have hQ1 := hQ.step stp fun _ => .refl
    cases ha with
    | @dic p ks xs _ h1 h2 h3 =>
    rcases h1 with h1 | ⟨od, h1⟩
    · have hp := st.sub _ _ h1
      obtain ⟨ρ', a, ho⟩ : ∃ ρ' a, o = .ok ρ' a := by
        have z := hden
        unfold compR at z
        split at z
        · split at z
          · cases z; exact ⟨_, _, rfl⟩
          · cases z
        · cases z
      subst ho
      refine .inr (.inr ⟨p, _, hp, trivial, fun od => ⟨_, hv, p, od, rfl, .inl ⟨_, upd_same, ?_⟩⟩⟩)
      have fr : Lks R1 (upd R1 p (.frz od (.dK (ks.zip xs)))) := Lks.upd (.inl h1) (.inr ⟨_, rfl⟩)
      exact comp_at (st.lk (.inl h1) (.inr ⟨_, rfl⟩)) (feeds_keys upd_same h2 (AtAll.lk fr h3)) hden (hQ1.lock h1 hp)
    · exact .inr (.inl ⟨_, hv, p, od, rfl, .inl ⟨_, st.sub _ _ h1, comp_at st (feeds_keys h1 h2 h3) hden hQ1⟩⟩)
  · exact .inl (comp_ok (pa := true) ⟨ρ, R, F, o, hS, hden, hQ⟩)
end
section
variable {X : Cx} {W : WX} {A : List Nat} {pb pc : Bool} {pos px : Pos}
theorem PS.orX {st : Stmt} {t1 t2 t3 : TS} (h1 : PS X st t1) (h2 : PS X st t2) (h3 : PS X st t3) : PS X st (fun D σ H => t1 D σ H ∨ t2 D σ H ∨ t3 D σ H) := ⟨fun pins s σ H D I h => h.elim (h1.run pins s σ H D I) fun h => h.elim (h2.run pins s σ H D I) (h3.run pins s σ H D I)⟩
theorem PE.orX {e : Expr} {t1 t2 t3 : TE} (h1 : PE X e t1) (h2 : PE X e t2) (h3 : PE X e t3) : PE X e (fun σ H Q => t1 σ H Q ∨ t2 σ H Q ∨ t3 σ H Q) := ⟨fun pins s σ H Q I h => h.elim (h1.run pins s σ H Q I) fun h => h.elim (h2.run pins s σ H Q I) (h3.run pins s σ H Q I)⟩
theorem s_forN {x : Str} {i : Nat} {tg : Expr} {body : List Stmt} {g : DenG} {db : DenS} (hp : PassesOwn (model X.prog X.w) X.A X.env X.xe) (hc : X.calm = true) (h : PE X (.Name x px) (tVar i)) (hg : RG X A tg g) (hb : RSs X W A body db) (hs : ∀ y, foldedSetIterable (.Name x px) X.env y = pure y := by intro _; rfl) :
    RS X W A (.For tg (.Name x px) body [] pos) (sForN i g db) := (PS.orX (ps_for hp hc (i_any (e_varF h)) hg hb hs) (ps_for hp hc (pi_keys h) hg hb hs) (ps_lock (ps_for hp hc (pi_keys h) hg hb hs))).impD fun _ _ _ h => forN_ok h
theorem e_compN {x : Str} {i : Nat} {elt tg : Expr} {ifs : List Expr} {scope : Scope} {own : List (Str × Nat)} {k : Sh} {dg : DenG} {tt : Den Bool} {te : Den DV} (hc : X.calm = true) (hN : X.N.Nodup) (h : PE X (.Name x px) (tVar i)) (ok : BlkOk X.N X.env.scope scope own)
    (hg : ∀ (s : Shared) (H : Hp) (C : Addr) (cl : List (Str × Addr)) (fp : List Addr), RG (X.blk s H scope (compEnvC scope cl C X.env) fp) (own.map (·.2)) tg dg) (ht : ∀ (s : Shared) (H : Hp) (C : Addr) (cl : List (Str × Addr)) (fp : List Addr), PTs (X.blk s H scope (compEnvC scope cl C X.env) fp) ifs (tT X.K X.mg W0 pb tt))
    (he : ∀ (s : Shared) (H : Hp) (C : Addr) (cl : List (Str × Addr)) (fp : List Addr), RE (X.blk s H scope (compEnvC scope cl C X.env) fp) W0 pc elt te) (hs : ∀ y, foldedSetIterable (.Name x px) X.env y = pure y := by intro _; rfl) :
    RE X W (pb && pc) (.ListComp elt [⟨tg, .Name x px, ifs, 0⟩] scope pos) (dCompN (own.map (·.2)) k i dg tt te) :=
  (PE.orX (pe_lc hc hN (i_any (e_varF h)) ok hg ht he hs) (pe_lc hc hN (pi_keys h) ok hg ht he hs) (pe_lock (pe_lc hc hN (pi_keys h) ok hg ht he hs))).impD fun _ _ _ h => compN_ok h
end
end Den
namespace Den
open PySem PySem.Spec PyProof.Rows L2
section
variable {N : Rho → Prop} {T : Rho → DV → Prop} {B C : Rho → Prop} {X : Rho → Exn → Prop} {ρ : Rho}
/-- what a walk gives: a dict's keys, too -/
def walkL (d : D) : Option (List D) := match d with
  | .dic kds => some (kds.map (·.1))
  | d => itemsOf d
def xIf (b : Bool) (X : Rho → Exn → Prop) : Rho → Exn → Prop := match b with
  | true => fun _ _ => False
  | false => X
@[simp ↓] theorem xIf_f : xIf false X = X := id rfl
@[simp ↓] theorem xIf_t : xIf true X = fun _ _ => False := id rfl
@[simp] theorem walkL_dic {kds : List (D × D)} : walkL (.dic kds) = some (kds.map (·.1)) := id rfl
@[simp] theorem walkL_lst {ds : List D} : walkL (.lst ds) = itemsOf (.lst ds) := id rfl
@[simp] theorem walkL_tup {ds : List D} : walkL (.tup ds) = itemsOf (.tup ds) := id rfl
@[simp] theorem walkL_set {ds : List D} : walkL (.set ds) = itemsOf (.set ds) := id rfl
@[simp] theorem walkL_str {s : Str} : walkL (.str s) = itemsOf (.str s) := id rfl
@[simp] theorem isDicB_lst {ds : List D} : isDicB (.lst ds) = false := id rfl
@[simp] theorem isDicB_tup {ds : List D} : isDicB (.tup ds) = false := id rfl
@[simp] theorem isDicB_set {ds : List D} : isDicB (.set ds) = false := id rfl
@[simp] theorem isDicB_str {s : Str} : isDicB (.str s) = false := id rfl
theorem uS_forN {i : Nat} {tg : DenG} {body : DenS} : uS (sForN i tg body) N T B C X ρ = wSlot ρ[i]? fun _ d => wO (walkL d) fun ds => uS (loopF tg body ds) N T B C (xIf (isDicB d) X) (ρ.set i (some (.im, d))) := by
  rcases h : ρ[i]? with _ | _ | ⟨s, d⟩
  · rw [uS_congr (s' := sFor (dItems (dVarF i)) tg body) (by unfold sForN; rw [h]), uS_for, uE_items, uE_varF, h]; rfl
  · rw [uS_congr (s' := sFor (dItems (dVarF i)) tg body) (by unfold sForN; rw [h]), uS_for, uE_items, uE_varF, h]; rfl
  · have other : (∀ kds, d ≠ .dic kds) → uS (sForN i tg body) N T B C X ρ = wSlot (some (some (s, d))) fun _ d => wO (walkL d) fun ds => uS (loopF tg body ds) N T B C (xIf (isDicB d) X) (ρ.set i (some (.im, d))) := fun hd => by
      have e : sForN i tg body ρ = sFor (dItems (dVarF i)) tg body ρ := by
        unfold sForN; rw [h]
        cases d with
        | dic kds => exact absurd rfl (hd kds)
        | _ => rfl
      rw [uS_congr e, uS_for, uE_items, uE_varF, h]
      simp only [wSlot_some, isBo_sh, true_and]
      cases d with
      | dic kds => exact absurd rfl (hd kds)
      | _ => rfl
    cases d with
    | dic kds =>
      have e : sForN i tg body ρ = noEx (loopF tg body (kds.map (·.1)) (ρ.set i (some (.im, .dic kds)))) := by unfold sForN; rw [h]
      simp only [wSlot_some, walkL_dic, isDicB_dic, xIf_t]
      unfold uS wO
      rw [e]
      dsimp only
      unfold noEx
      cases loopF tg body (kds.map (·.1)) (ρ.set i (some (.im, .dic kds))) with
      | none => rfl
      | some o => cases o <;> rfl
    | _ => exact other fun _ z => nomatch z
theorem uE_congr2 {α : Type} {m m' : Den α} {Q : Rho → α → Prop} (h : m ρ = m' ρ) : uE m Q X ρ = uE m' Q X ρ := by unfold uE; rw [h]
theorem uE_compN {own : List Nat} {k : Sh} {i : Nat} {tg : DenG} {tt : Den Bool} {te : Den DV} {Q : Rho → DV → Prop} : uE (dCompN own k i tg tt te) Q X ρ = wSlot ρ[i]? fun _ d => wO (walkL d) fun ds => ownIm own 0 (ρ.set i (some (.im, d))) = true ∧ uC own k tg tt te ds (fun ρ' acc => Q (mergeR own 0 (ρ.set i (some (.im, d))) ρ') (.sh (.ow k), .lst acc)) (wipeR (ρ.set i (some (.im, d))) own) [] := by
  rcases h : ρ[i]? with _ | _ | ⟨s, d⟩
  · rw [uE_congr2 (m' := dComp own k (dItems (dVarF i)) tg tt te) (by unfold dCompN; rw [h]), uE_comp, uE_items, uE_varF, h]; rfl
  · rw [uE_congr2 (m' := dComp own k (dItems (dVarF i)) tg tt te) (by unfold dCompN; rw [h]), uE_comp, uE_items, uE_varF, h]; rfl
  · have other : (∀ kds, d ≠ .dic kds) → uE (dCompN own k i tg tt te) Q X ρ = wSlot (some (some (s, d))) fun _ d => wO (walkL d) fun ds => ownIm own 0 (ρ.set i (some (.im, d))) = true ∧ uC own k tg tt te ds (fun ρ' acc => Q (mergeR own 0 (ρ.set i (some (.im, d))) ρ') (.sh (.ow k), .lst acc)) (wipeR (ρ.set i (some (.im, d))) own) [] := fun hd => by
      have e : dCompN own k i tg tt te ρ = dComp own k (dItems (dVarF i)) tg tt te ρ := by
        unfold dCompN; rw [h]
        cases d with
        | dic kds => exact absurd rfl (hd kds)
        | _ => rfl
      rw [uE_congr2 e, uE_comp, uE_items, uE_varF, h]
      simp only [wSlot_some, isBo_sh, true_and]
      cases d with
      | dic kds => exact absurd rfl (hd kds)
      | _ => rfl
    cases d with
    | dic kds =>
      have e : dCompN own k i tg tt te ρ = compR own k tg tt te (kds.map (·.1)) (ρ.set i (some (.im, .dic kds))) := by unfold dCompN; rw [h]
      simp only [wSlot_some, walkL_dic]
      conv => lhs; unfold uE
      rw [e]
      unfold compR uC wO
      dsimp only
      cases h1 : ownIm own 0 (ρ.set i (some (.im, .dic kds)))
      · simp
      · simp only [if_true, true_and]; cases compF own k tg tt te (kds.map (·.1)) (wipeR (ρ.set i (some (.im, .dic kds))) own) [] <;> rfl
    | _ => exact other fun _ z => nomatch z
@[simp ↓] theorem wS_forN_z {i : Nat} {tg : DenG} {body : DenS} : wS (sForN i tg body) N T B C X ρ = wSlot ρ[i]? (Lz (tgz fun _ d => wO (walkL d) (Lz (tgz fun ds => wS (loopF tg body ds) N T B C (xIf (isDicB d) X) (ρ.set i (some (.im, d))))))) := by
  (try rewrite [feE]); (try rewrite [feS]); exact uS_forN
@[simp ↓] theorem wE_compN_z {own : List Nat} {k : Sh} {i : Nat} {tg : DenG} {tt : Den Bool} {te : Den DV} {Q : Rho → DV → Prop} : wE (dCompN own k i tg tt te) Q X ρ = wSlot ρ[i]? (Lz (tgz fun _ d => wO (walkL d) (Lz (tgz fun ds => ownIm own 0 (ρ.set i (some (.im, d))) = true ∧ wC own k tg tt te ds (Lz (tgz fun ρ' acc => Q (mergeR own 0 (ρ.set i (some (.im, d))) ρ') (.sh (.ow k), .lst acc))) (wipeR (ρ.set i (some (.im, d))) own) [])))) := by
  (try rewrite [feE]); (try rewrite [feS]); (try rewrite [feC]); exact uE_compN
end
end Den


namespace Den
open PySem PySem.Spec PyProof.Rows L2
def bp_is_whole : DenS :=
  (sRet (dAndV (dCall isiOp (dCons true (dVar 0) (dCons true (dC (.ty "int")) dNil))) (dNotV (dCall isiOp (dCons true (dVar 0) (dCons true (dC (.ty "bool")) dNil))))))
def dp_is_whole : FDen := fnDen [] 1 1 bp_is_whole
def bp_place_in : DenS :=
  (sSeq (sIf (dTst (dBin true eqOp (dIdxV 0 (dC (.int 0))) (dC (.str "choice")))) (sRet (dIf (dAnd (dTruth (dCall isiOp (dCons true (dVar 1) (dCons true (dC (.ty "str")) dNil)))) (dTst (dBin true inOp (dVar 1) (dIdxV 0 (dC (.int 1)))))) (dMeth true isT tindexOp (dIdxV 0 (dC (.int 1))) (dCons true (dVar 1) dNil)) (dC .non))) sNil) (sSeq (sIf (dOr (dNot (dTruth (dCallF 1 (dp_is_whole) (dAsV 1 dAsNil)))) (dNot (dTst (dChain leOp leOp (dIdxV 0 (dC (.int 1))) (dVar 1) (dIdxV 0 (dC (.int 2))))))) (sRet (dC .non)) sNil) (sRet (dBin true subOp (dVar 1) (dIdxV 0 (dC (.int 1)))))))
def dp_place_in : FDen := fnDen [] 2 2 bp_place_in
def bp_need_sheet : DenS :=
  (sSeq (sSet 2 (dCall dictAOp (dCons true (dVarF 0) dNil))) (sSeq (sFor (dItems (dVarF 0)) (gTupD 2 (gsCons (gSet 3) (gsCons (gSet 4) gsNil))) (sIf (dTst (dBin true notInOp (dVar 3) (dVar 1))) (sRaise "NotASheet" ["name"] (dCons true (dVarF 3) dNil)) sNil)) (sSeq (sFor (dItems (dCall sortedAOp (dCons true (dVarF 1) dNil))) (gSet 3) (sIf (dTst (dBin true notInOp (dVar 3) (dVar 2))) (sRaise "NoField" ["name"] (dCons true (dVarF 3) dNil)) sNil)) (sFor (dItems (dVarF 0)) (gTupD 2 (gsCons (gSet 3) (gsCons (gSet 5) gsNil))) (sIf (dTst (dBin true isOp (dCallF 2 (dp_place_in) (dAsV 5 (dAsC true (dIdx true (dVarF 1) (dVar 3)) dAsNil))) (dC .non))) (sRaise "WrongValue" ["field", "value"] (dCons true (dVarF 3) (dCons true (dIdx true (dVarF 1) (dVar 3)) dNil))) sNil)))))
def dp_need_sheet : FDen := fnDen [2, 3, 4, 5] 2 6 bp_need_sheet
def bp_size : DenS :=
  (sSeq (sIf (dTst (dBin true eqOp (dIdxV 0 (dC (.int 0))) (dC (.str "choice")))) (sRet (dCall lenOp (dCons true (dIdxV 0 (dC (.int 1))) dNil))) sNil) (sRet (dBin true addOp (dBin true subOp (dIdxV 0 (dC (.int 2))) (dIdxV 0 (dC (.int 1)))) (dC (.int 1)))))
def dp_size : FDen := fnDen [] 1 1 bp_size
def bp_domain_of : DenS :=
  (sSeq (sIf (dTst (dBin true notInOp (dVar 1) (dVar 0))) (sRaise "NoField" ["name"] (dCons true (dVarF 1) dNil)) sNil) (sRet (dIdx true (dVarF 0) (dVar 1))))
def dp_domain_of : FDen := fnDen [] 2 2 bp_domain_of
def bp_need_number : DenS :=
  (sSeq (sSet 2 (dCallF 2 (dp_domain_of) (dAsV 0 (dAsV 1 dAsNil)))) (sSeq (sIf (dTst (dBin true eqOp (dIdxV 2 (dC (.int 0))) (dC (.str "choice")))) (sRaise "WrongKind" ["field"] (dCons true (dVarF 1) dNil)) sNil) (sRet (dVarM 2))))
def dp_need_number : FDen := fnDen [2] 2 3 bp_need_number
def bp_parts_of : DenS :=
  (sSeq (sIf (dTst (dBin true eqOp (dIdxV 0 (dC (.int 0))) (dC (.str "not")))) (sRet (dTup (dCons true (dIdx true (dVarF 0) (dC (.int 1))) dNil))) sNil) (sSeq (sIf (dTst (dBin true eqOp (dIdxV 0 (dC (.int 0))) (dC (.str "count")))) (sRet (dIdx true (dVarF 0) (dC (.int 2)))) sNil) (sRet (dIf (dTst (dBin true inOp (dIdxV 0 (dC (.int 0))) (dTup (dCons true (dC (.str "all")) (dCons true (dC (.str "some")) dNil))))) (dIdx true (dVarF 0) (dC (.int 1))) (dTup dNil)))))
def dp_parts_of : FDen := fnDen [] 1 1 bp_parts_of
def bp_need_part (den : FDen) : DenS :=
  (sSeq (sSet 2 (dIdx true (dVarF 1) (dC (.int 0)))) (sIf (dTst (dBin true inOp (dVar 2) (dTup (dCons true (dC (.str "is")) (dCons true (dC (.str "among")) dNil))))) (sSeq (sSet 3 (dCallF 2 (dp_domain_of) (dAsV 0 (dAsC true (dIdx true (dVarF 1) (dC (.int 1))) dAsNil)))) (sFor (dItems (dIf (dTst (dBin true eqOp (dVar 2) (dC (.str "is")))) (dSl true (dVarF 1) (dPart (dC (.int 2))) (dPart (dC (.int 3)))) (dIdx true (dVarF 1) (dC (.int 2))))) (gSet 4) (sIf (dTst (dBin true isOp (dCallF 2 (dp_place_in) (dAsV 3 (dAsV 4 dAsNil))) (dC .non))) (sRaise "WrongValue" ["field", "value"] (dCons true (dIdx true (dVarF 1) (dC (.int 1))) (dCons true (dVarF 4) dNil))) sNil))) (sIf (dTst (dBin true inOp (dVar 2) (dTup (dCons true (dC (.str "least")) (dCons true (dC (.str "most")) dNil))))) (sExpr (dCallF 2 (dp_need_number) (dAsV 0 (dAsC true (dIdx true (dVarF 1) (dC (.int 1))) dAsNil)))) (sIf (dTst (dBin true eqOp (dVar 2) (dC (.str "sum")))) (sFor (dItems (dIdx true (dVarF 1) (dC (.int 1)))) (gTupD 2 (gsCons (gSet 6) (gsCons (gSet 7) gsNil))) (sIf (dTst (dBin true gtOp (dCallF 1 (dp_size) (dAsC true (dCallF 2 (dp_need_number) (dAsV 0 (dAsV 7 dAsNil))) dAsNil)) (dC (.int 40)))) (sRaise "TooWide" ["field"] (dCons true (dVarF 7) dNil)) sNil)) (sFor (dItems (dCallF 1 (dp_parts_of) (dAsV 1 dAsNil))) (gSet 5) (sExpr (dCallF 2 den (dAsV 0 (dAsV 5 dAsNil)))))))))
def dp_need_part (den : FDen) : FDen := fnDen [2, 3, 4, 5, 6, 7] 2 8 (bp_need_part den)
def bp_need_all (den : FDen) : DenS :=
  (sIf (dNot (dTruth (dCall isiOp (dCons true (dVar 1) (dCons true (dC (.ty "bool")) dNil))))) (sExpr (dCallF 2 (dp_need_part den) (dAsV 0 (dAsV 1 dAsNil)))) sNil)
def dp_need_all : Nat → FDen
  | 0 => fun _ => none
  | k + 1 => fnDen [] 2 2 (bp_need_all (dp_need_all k))
def bp_need_condition : DenS :=
  (sExpr (dCallF 2 (dp_need_all 10) (dAsC true (dCall dictAOp (dCons true (dVarF 0) dNil)) (dAsV 1 dAsNil))))
def dp_need_condition : FDen := fnDen [] 2 2 bp_need_condition
def bp_holds_plainly : DenS :=
  (sSeq (sSet 2 (dIdx true (dVarF 0) (dC (.int 0)))) (sSeq (sIf (dTst (dBin true eqOp (dVar 2) (dC (.str "sum")))) (sRet (dBin true geOp (dCall sumOp (dCons true (dComp [4, 5] .im (dItems (dIdx true (dVarF 0) (dC (.int 1)))) (gTupD 2 (gsCons (gSet 4) (gsCons (gSet 5) gsNil))) (dRet true) (dBin true mulOp (dVarF 4) (dIdxV 1 (dVar 5)))) dNil)) (dIdxV 0 (dC (.int 2))))) sNil) (sSeq (sSet 3 (dIdx true (dVarF 1) (dIdxV 0 (dC (.int 1))))) (sSeq (sIf (dTst (dBin true eqOp (dVar 2) (dC (.str "is")))) (sRet (dBin true eqOp (dVar 3) (dIdxV 0 (dC (.int 2))))) sNil) (sSeq (sIf (dTst (dBin true eqOp (dVar 2) (dC (.str "among")))) (sRet (dBin true inOp (dVar 3) (dIdxV 0 (dC (.int 2))))) sNil) (sRet (dIf (dTst (dBin true eqOp (dVar 2) (dC (.str "least")))) (dBin true geOp (dVar 3) (dIdxV 0 (dC (.int 2)))) (dBin true leOp (dVar 3) (dIdxV 0 (dC (.int 2)))))))))))
def dp_holds_plainly : FDen := fnDen [2, 3] 2 6 bp_holds_plainly
def bp_is_met (den : FDen) : DenS :=
  (sSeq (sIf (dTruth (dCall isiOp (dCons true (dVar 0) (dCons true (dC (.ty "bool")) dNil)))) (sRet (dVarF 0)) sNil) (sSeq (sSet 2 (dIdx true (dVarF 0) (dC (.int 0)))) (sSeq (sIf (dTst (dBin true notInOp (dVar 2) (dTup (dCons true (dC (.str "all")) (dCons true (dC (.str "some")) (dCons true (dC (.str "count")) (dCons true (dC (.str "not")) dNil))))))) (sRet (dCallF 2 (dp_holds_plainly) (dAsV 0 (dAsV 1 dAsNil)))) sNil) (sSeq (sSet 3 (dCall sumOp (dCons true (dComp [4] .im (dItems (dCallF 1 (dp_parts_of) (dAsV 0 dAsNil))) (gSet 4) (dTruth (dCallF 2 den (dAsV 4 (dAsV 1 dAsNil)))) (dC (.int 1))) dNil))) (sSeq (sIf (dTst (dBin true eqOp (dVar 2) (dC (.str "not")))) (sRet (dBin true eqOp (dVar 3) (dC (.int 0)))) sNil) (sSeq (sIf (dTst (dBin true eqOp (dVar 2) (dC (.str "count")))) (sRet (dBin true geOp (dVar 3) (dIdxV 0 (dC (.int 1))))) sNil) (sRet (dIf (dTst (dBin true eqOp (dVar 2) (dC (.str "all")))) (dBin true eqOp (dVar 3) (dCall lenOp (dCons true (dIdxV 0 (dC (.int 1))) dNil))) (dBin true gtOp (dVar 3) (dC (.int 0)))))))))))
def dp_is_met : Nat → FDen
  | 0 => fun _ => none
  | k + 1 => fnDen [2, 3] 2 5 (bp_is_met (dp_is_met k))
def bp_holds : DenS :=
  (sSeq (sExpr (dCallF 2 (dp_need_condition) (dAsV 0 (dAsV 1 dAsNil)))) (sSeq (sExpr (dCallF 2 (dp_need_sheet) (dAsV 0 (dAsV 2 dAsNil)))) (sRet (dCallF 2 (dp_is_met 10) (dAsV 1 (dAsV 2 dAsNil))))))
def dp_holds : FDen := fnDen [] 3 3 bp_holds
def bp_named (den : FDen) : DenS :=
  (sSeq (sIf (dTruth (dCall isiOp (dCons true (dVar 0) (dCons true (dC (.ty "bool")) dNil)))) (sRet (dLst dNil)) sNil) (sSeq (sIf (dTst (dBin true inOp (dIdxV 0 (dC (.int 0))) (dTup (dCons true (dC (.str "is")) (dCons true (dC (.str "among")) (dCons true (dC (.str "least")) (dCons true (dC (.str "most")) dNil))))))) (sRet (dLst (dCons true (dIdx true (dVarF 0) (dC (.int 1))) dNil))) sNil) (sSeq (sIf (dTst (dBin true eqOp (dIdxV 0 (dC (.int 0))) (dC (.str "sum")))) (sRet (dCall sortedAOp (dCons true (dComp [4, 3] .im (dItems (dIdx true (dVarF 0) (dC (.int 1)))) (gTupD 2 (gsCons (gSet 4) (gsCons (gSet 3) gsNil))) (dRet true) (dVarF 3)) dNil))) sNil) (sSeq (sSet 1 (dLst dNil)) (sSeq (sFor (dItems (dCallF 1 (dp_parts_of) (dAsV 0 dAsNil))) (gSet 2) (sExtend 1 (dComp [3] .im (dItems (dCallF 1 den (dAsV 2 dAsNil))) (gSet 3) (dTst (dBin true notInOp (dVar 3) (dVar 1))) (dVarF 3)))) (sRet (dCall sortedAOp (dCons true (dVarF 1) dNil))))))))
def dp_named : Nat → FDen
  | 0 => fun _ => none
  | k + 1 => fnDen [1, 2] 1 5 (bp_named (dp_named k))
def bp_l_name : DenS :=
  (sSeq (sSet 2 (dC (.str "abcdefghijklmnopqrstuvwxyz"))) (sSeq (sSet 3 (dIdx false (dVarF 2) (dCallF 2 (dp_draw) (dAsV 0 (dAsC true (dC (.int 26)) dAsNil))))) (sSeq (sFor (dRange (dCons true (dCallF 2 (dp_pick) (dAsV 0 (dAsC true (dLst (dCons true (dC (.int 0)) (dCons true (dC (.int 0)) (dCons true (dC (.int 1)) (dCons true (dC (.int 3)) (dCons true (dC (.int 9)) dNil)))))) dAsNil))) dNil)) (gSet 4) (sSet 3 (dBin false addOp (dVarF 3) (dIdx false (dBin true addOp (dVarF 2) (dC (.str "0123456789"))) (dCallF 2 (dp_draw) (dAsV 0 (dAsC true (dC (.int 36)) dAsNil))))))) (sRet (dBin true addOp (dVarF 3) (dCall strOp (dCons true (dVar 1) dNil)))))))
def dp_l_name : FDen := fnDen [2, 3, 4] 2 5 bp_l_name
def bp_l_fields : DenS :=
  (sSeq (sSet 3 (dLst dNil)) (sSeq (sFor (dRange (dCons true (dCallF 2 (dp_pick) (dAsV 0 (dAsC true (dLst (dCons true (dC (.int 1)) (dCons true (dCall maxOp (dCons true (dC (.int 1)) (dCons true (dBin true subOp (dVar 1) (dC (.int 1))) dNil))) (dCons true (dVarF 1) (dCons true (dVarF 1) dNil))))) dAsNil))) dNil)) (gSet 4) (sIf (dTst (dBin true eqOp (dCallF 2 (dp_draw) (dAsV 0 (dAsC true (dC (.int 2)) dAsNil))) (dC (.int 0)))) (sSeq (sSet 5 (dComp [7] .im (dRange (dCons true (dBin false addOp (dC (.int 2)) (dCallF 2 (dp_draw) (dAsV 0 (dAsC true (dBin true subOp (dCall minOp (dCons true (dVar 2) (dCons true (dC (.int 4)) dNil))) (dC (.int 1))) dAsNil)))) dNil)) (gSet 7) (dRet true) (dCallF 2 (dp_l_name) (dAsV 0 (dAsV 7 dAsNil))))) (sAppend .im 3 (dTup (dCons true (dCallF 2 (dp_l_name) (dAsV 0 (dAsV 4 dAsNil))) (dCons true (dTup (dCons true (dC (.str "choice")) (dCons true (dCall tupXOp (dCons true (dVarF 5) dNil)) dNil))) dNil))))) (sSeq (sSet 6 (dBin true subOp (dCallF 2 (dp_draw) (dAsV 0 (dAsC true (dC (.int 9)) dAsNil))) (dC (.int 4)))) (sAppend .im 3 (dTup (dCons false (dCallF 2 (dp_l_name) (dAsV 0 (dAsV 4 dAsNil))) (dCons true (dTup (dCons false (dC (.str "number")) (dCons false (dVarF 6) (dCons true (dBin false addOp (dBin true addOp (dVarF 6) (dC (.int 1))) (dCallF 2 (dp_draw) (dAsV 0 (dAsC true (dBin true subOp (dVar 2) (dC (.int 1))) dAsNil)))) dNil)))) dNil))))))) (sRet (dVarM 3))))
def dp_l_fields : FDen := fnDen [3, 4, 5, 6] 3 8 bp_l_fields
def bp_l_values : DenS :=
  (sSeq (sIf (dTst (dBin true eqOp (dIdxV 0 (dC (.int 0))) (dC (.str "choice")))) (sRet (dCall listSOp (dCons true (dIdx true (dVarF 0) (dC (.int 1))) dNil))) sNil) (sRet (dBin true listRgOp (dIdxV 0 (dC (.int 1))) (dBin true addOp (dIdxV 0 (dC (.int 2))) (dC (.int 1))))))
def dp_l_values : FDen := fnDen [] 1 1 bp_l_values
def bp_l_sheets : DenS :=
  (sSeq (sSet 2 (dCall dictAOp (dCons true (dVarF 0) dNil))) (sSeq (sSet 3 (dLst (dCons true dDic0 dNil))) (sSeq (sFor (dItems (dVarF 1)) (gSet 4) (sSeq (sSet 5 (dLst dNil)) (sSeq (sFor (dItems (dVarF 3)) (gSet 6) (sFor (dItems (dCallF 1 (dp_l_values) (dAsC true (dIdx true (dVarF 2) (dVar 4)) dAsNil))) (gSet 7) (sSeq (sSet 8 (dCall dictAOp (dCons true (dVarF 6) dNil))) (sSeq (sSetKey 8 (dVarF 7) (dVar 4)) (sAppend .im 5 (dVarF 8)))))) (sSet 3 (dVarF 5))))) (sRet (dVarM 3)))))
def dp_l_sheets : FDen := fnDen [2, 3, 4, 5, 6, 7, 8] 2 9 bp_l_sheets
def bp_l_atom : DenS :=
  (sSeq (sAsg (dCallF 2 (dp_pick) (dAsV 0 (dAsV 1 dAsNil))) (gTupD 2 (gsCons (gSet 4) (gsCons (gSet 5) gsNil)))) (sSeq (sSet 2 (dCallF 1 (dp_l_values) (dAsV 5 dAsNil))) (sSeq (sSet 3 (dCallF 2 (dp_draw) (dAsV 0 (dAsC true (dC (.int 5)) dAsNil)))) (sSeq (sIf (dOr (dTst (dBin true eqOp (dIdxV 5 (dC (.int 0))) (dC (.str "choice")))) (dTst (dBin true eqOp (dVar 3) (dC (.int 0))))) (sSeq (sIf (dTst (dBin true eqOp (dCallF 2 (dp_draw) (dAsV 0 (dAsC true (dC (.int 2)) dAsNil))) (dC (.int 0)))) (sRet (dTup (dCons false (dC (.str "is")) (dCons false (dVarF 4) (dCons true (dCallF 2 (dp_pick) (dAsV 0 (dAsV 2 dAsNil))) dNil))))) sNil) (sRet (dTup (dCons false (dC (.str "among")) (dCons false (dVarF 4) (dCons true (dCall tupleOp (dCons true (dComp [9] .im (dItems (dVarF 2)) (gSet 9) (dTst (dBin true eqOp (dCallF 2 (dp_draw) (dAsV 0 (dAsC true (dC (.int 2)) dAsNil))) (dC (.int 0)))) (dVarF 9)) dNil)) dNil)))))) sNil) (sSeq (sIf (dTst (dBin true eqOp (dVar 3) (dC (.int 4)))) (sSeq (sSet 6 (dComp [7, 8] .im (dItems (dVarF 1)) (gTupD 2 (gsCons (gSet 7) (gsCons (gSet 8) gsNil))) (dAnd (dTst (dBin true eqOp (dIdxV 8 (dC (.int 0))) (dC (.str "number")))) (dTst (dBin true gtOp (dCallF 2 (dp_draw) (dAsV 0 (dAsC true (dC (.int 3)) dAsNil))) (dC (.int 0))))) (dTup (dCons true (dCallF 2 (dp_pick) (dAsV 0 (dAsC true (dLst (dCons true (dC (.int 1)) (dCons true (dC (.int 1)) (dCons true (dC (.int 2)) (dCons true (dUn negOp (dC (.int 1))) (dCons true (dC (.int 3)) dNil)))))) dAsNil))) (dCons true (dVarF 7) dNil))))) (sIf (dTst (dBin true neOp (dVar 6) (dLst dNil))) (sRet (dTup (dCons false (dC (.str "sum")) (dCons false (dCall tupleOp (dCons true (dVarF 6) dNil)) (dCons true (dBin true subOp (dCallF 2 (dp_draw) (dAsV 0 (dAsC true (dC (.int 15)) dAsNil))) (dC (.int 5))) dNil))))) sNil)) sNil) (sRet (dTup (dCons false (dCallF 2 (dp_pick) (dAsV 0 (dAsC true (dLst (dCons true (dC (.str "least")) (dCons true (dC (.str "most")) dNil))) dAsNil))) (dCons false (dVarF 4) (dCons true (dBin true subOp (dBin false addOp (dIdxV 5 (dC (.int 1))) (dCallF 2 (dp_draw) (dAsV 0 (dAsC true (dBin true addOp (dCall lenOp (dCons true (dVar 2) dNil)) (dC (.int 2))) dAsNil)))) (dC (.int 1))) dNil))))))))))
def dp_l_atom : FDen := fnDen [2, 3, 4, 5, 6] 2 10 bp_l_atom
def bp_l_condition (den : FDen) : DenS :=
  (sSeq (sSet 3 (dCallF 2 (dp_draw) (dAsV 0 (dAsC true (dC (.int 8)) dAsNil)))) (sSeq (sIf (dOr (dTst (dBin true eqOp (dVar 2) (dC (.int 0)))) (dTst (dBin true ltOp (dVar 3) (dC (.int 2))))) (sRet (dCallF 2 (dp_l_atom) (dAsV 0 (dAsV 1 dAsNil)))) sNil) (sSeq (sIf (dTst (dBin true eqOp (dVar 3) (dC (.int 2)))) (sRet (dTup (dCons false (dC (.str "not")) (dCons true (dCallF 3 den (dAsV 0 (dAsV 1 (dAsC true (dBin true subOp (dVar 2) (dC (.int 1))) dAsNil)))) dNil)))) sNil) (sSeq (sIf (dAnd (dTst (dBin true eqOp (dVar 3) (dC (.int 7)))) (dTst (dBin true eqOp (dCallF 2 (dp_draw) (dAsV 0 (dAsC true (dC (.int 4)) dAsNil))) (dC (.int 0))))) (sRet (dBin true eqOp (dCallF 2 (dp_draw) (dAsV 0 (dAsC true (dC (.int 2)) dAsNil))) (dC (.int 0)))) sNil) (sSeq (sSet 4 (dCall tupleOp (dCons true (dComp [5] .im (dRange (dCons true (dCallF 2 (dp_pick) (dAsV 0 (dAsC true (dLst (dCons true (dC (.int 2)) (dCons true (dC (.int 2)) (dCons true (dC (.int 3)) (dCons true (dC (.int 1)) (dCons true (dC (.int 0)) dNil)))))) dAsNil))) dNil)) (gSet 5) (dRet true) (dCallF 3 den (dAsV 0 (dAsV 1 (dAsC true (dBin true subOp (dVar 2) (dC (.int 1))) dAsNil))))) dNil))) (sSeq (sIf (dTst (dBin true eqOp (dVar 3) (dC (.int 3)))) (sRet (dTup (dCons false (dC (.str "count")) (dCons true (dCallF 2 (dp_draw) (dAsV 0 (dAsC true (dC (.int 4)) dAsNil))) (dCons true (dVarF 4) dNil))))) sNil) (sRet (dTup (dCons true (dCallF 2 (dp_pick) (dAsV 0 (dAsC true (dLst (dCons true (dC (.str "all")) (dCons true (dC (.str "some")) dNil))) dAsNil))) (dCons true (dVarF 4) dNil))))))))))
def dp_l_condition : Nat → FDen
  | 0 => fun _ => none
  | k + 1 => fnDen [3, 4] 3 6 (bp_l_condition (dp_l_condition k))
def bp_l_meets_one (den : FDen) : DenS :=
  (sSeq (sIf (dOr (dTst (dBin true isOp (dVar 0) (dC (.bl true)))) (dTst (dBin true isOp (dVar 0) (dC (.bl false))))) (sRet (dVarF 0)) sNil) (sSeq (sSet 2 (dIdx true (dVarF 0) (dC (.int 0)))) (sSeq (sIf (dTst (dBin true eqOp (dVar 2) (dC (.str "is")))) (sRet (dBin true eqOp (dIdxV 1 (dIdxV 0 (dC (.int 1)))) (dIdxV 0 (dC (.int 2))))) sNil) (sSeq (sIf (dTst (dBin true eqOp (dVar 2) (dC (.str "among")))) (sRet (dBin true inOp (dIdxV 1 (dIdxV 0 (dC (.int 1)))) (dIdxV 0 (dC (.int 2))))) sNil) (sSeq (sIf (dTst (dBin true eqOp (dVar 2) (dC (.str "least")))) (sRet (dBin true geOp (dIdxV 1 (dIdxV 0 (dC (.int 1)))) (dIdxV 0 (dC (.int 2))))) sNil) (sSeq (sIf (dTst (dBin true eqOp (dVar 2) (dC (.str "most")))) (sRet (dBin true leOp (dIdxV 1 (dIdxV 0 (dC (.int 1)))) (dIdxV 0 (dC (.int 2))))) sNil) (sSeq (sIf (dTst (dBin true eqOp (dVar 2) (dC (.str "sum")))) (sRet (dBin true geOp (dCall sumOp (dCons true (dComp [6, 7] .im (dItems (dIdx true (dVarF 0) (dC (.int 1)))) (gTupD 2 (gsCons (gSet 6) (gsCons (gSet 7) gsNil))) (dRet true) (dBin true mulOp (dVarF 6) (dIdxV 1 (dVar 7)))) dNil)) (dIdxV 0 (dC (.int 2))))) sNil) (sSeq (sIf (dTst (dBin true eqOp (dVar 2) (dC (.str "not")))) (sRet (dNotV (dCallF 2 den (dAsC true (dIdx true (dVarF 0) (dC (.int 1))) (dAsV 1 dAsNil))))) sNil) (sSeq (sSet 3 (dIf (dTst (dBin true eqOp (dVar 2) (dC (.str "count")))) (dIdx true (dVarF 0) (dC (.int 2))) (dIdx true (dVarF 0) (dC (.int 1))))) (sSeq (sSet 4 (dCall lenOp (dCons true (dComp [5] .im (dItems (dVarF 3)) (gSet 5) (dTruth (dCallF 2 den (dAsV 5 (dAsV 1 dAsNil)))) (dVarF 5)) dNil))) (sSeq (sIf (dTst (dBin true eqOp (dVar 2) (dC (.str "count")))) (sRet (dBin true geOp (dVar 4) (dIdxV 0 (dC (.int 1))))) sNil) (sRet (dIf (dTst (dBin true eqOp (dVar 2) (dC (.str "all")))) (dBin true eqOp (dVar 4) (dCall lenOp (dCons true (dVar 3) dNil))) (dBin true gtOp (dVar 4) (dC (.int 0))))))))))))))))
def dp_l_meets_one : Nat → FDen
  | 0 => fun _ => none
  | k + 1 => fnDen [2, 3, 4] 2 8 (bp_l_meets_one (dp_l_meets_one k))
def bp_l_names (den : FDen) : DenS :=
  (sSeq (sIf (dOr (dTst (dBin true isOp (dVar 0) (dC (.bl true)))) (dTst (dBin true isOp (dVar 0) (dC (.bl false))))) (sRet (dLst dNil)) sNil) (sSeq (sSet 1 (dIdx true (dVarF 0) (dC (.int 0)))) (sSeq (sIf (dTst (dBin true inOp (dVar 1) (dLst (dCons true (dC (.str "is")) (dCons true (dC (.str "among")) (dCons true (dC (.str "least")) (dCons true (dC (.str "most")) dNil))))))) (sRet (dLst (dCons true (dIdx true (dVarF 0) (dC (.int 1))) dNil))) sNil) (sSeq (sIf (dTst (dBin true eqOp (dVar 1) (dC (.str "sum")))) (sRet (dComp [4, 5] .im (dItems (dIdx true (dVarF 0) (dC (.int 1)))) (gTupD 2 (gsCons (gSet 4) (gsCons (gSet 5) gsNil))) (dRet true) (dVarF 5))) sNil) (sSeq (sIf (dTst (dBin true eqOp (dVar 1) (dC (.str "not")))) (sRet (dCallF 1 den (dAsC true (dIdx true (dVarF 0) (dC (.int 1))) dAsNil))) sNil) (sSeq (sSet 2 (dLst dNil)) (sSeq (sFor (dItems (dIf (dTst (dBin true eqOp (dVar 1) (dC (.str "count")))) (dIdx true (dVarF 0) (dC (.int 2))) (dIdx true (dVarF 0) (dC (.int 1))))) (gSet 3) (sSet 2 (dBin false addOp (dVarF 2) (dCallF 1 den (dAsV 3 dAsNil))))) (sRet (dVarM 2)))))))))
def dp_l_names : Nat → FDen
  | 0 => fun _ => none
  | k + 1 => fnDen [1, 2, 3] 1 6 (bp_l_names (dp_l_names k))
end Den

namespace Den
open PySem PySem.Spec PyProof.Rows L2
theorem mem_ss {x : Str} : ∀ {ys : List Str}, D.mem (.str x) (ys.map D.str) = decide (x ∈ ys)
  | [] => by simp [D.mem]
  | y :: ys => by
    have ih := mem_ss (x := x) (ys := ys)
    unfold D.mem at ih ⊢
    rw [List.map_cons, List.any_cons, ih]
    show ((y == x) || _) = _
    by_cases h : y = x
    · simp [h]
    · have h2 : ¬ x = y := fun e => h e.symm
      simp [h, h2]
theorem in_ts {x : Str} {ys : List Str} (hx : PyData.strOk x = true) (hy : ∀ y ∈ ys, PyData.strOk y = true) : inOp (.str x) (.tup (ys.map D.str)) = some (.s (.bl (decide (x ∈ ys)))) := by
  show (if (D.shp 60 (.str x) && D.shps 60 (ys.map D.str)) = true then some (D.mem (.str x) (ys.map D.str)) else none).map _ = _
  rw [shps_ss hy, if_pos (by simpa [D.shp] using hx), mem_ss]; rfl
theorem in_xs {x : Str} {ys : List Str} (hx : PyData.strOk x = true) (hy : ∀ y ∈ ys, PyData.strOk y = true) : inOp (.str x) (.set (ys.map D.str)) = some (.s (.bl (decide (x ∈ ys)))) := by
  show (if (D.shp 60 (.str x) && D.shps 60 (ys.map D.str)) = true then some (D.mem (.str x) (ys.map D.str)) else none).map _ = _
  rw [shps_ss hy, if_pos (by simpa [D.shp] using hx), mem_ss]; rfl
theorem in_ls {x : Str} {ys : List Str} (hx : PyData.strOk x = true) (hy : ∀ y ∈ ys, PyData.strOk y = true) : inOp (.str x) (.lst (ys.map D.str)) = some (.s (.bl (decide (x ∈ ys)))) := by
  show (if (D.shp 60 (.str x) && D.shps 60 (ys.map D.str)) = true then some (D.mem (.str x) (ys.map D.str)) else none).map _ = _
  rw [shps_ss hy, if_pos (by simpa [D.shp] using hx), mem_ss]; rfl
theorem notIn_of {x y : D} {b : Bool} (h : inOp x y = some (.s (.bl b))) : notInOp x y = some (.s (.bl (!b))) := by
  unfold inOp at h; unfold notInOp
  cases e : inD x y with
  | none => rw [e] at h; cases h
  | some c => rw [e] at h; cases h; rfl
@[simp] theorem isi_sd {x : Str} : isiOp [.str x, .ty "dict"] = some (.s (.bl false)) := by rfl

@[simp] theorem isi_str_int {x : Str} : isiOp [.str x, .ty "int"] = some (.s (.bl false)) := id rfl
@[simp] theorem isi_str_bool {x : Str} : isiOp [.str x, .ty "bool"] = some (.s (.bl false)) := id rfl
@[simp] theorem isi_str_str {x : Str} : isiOp [.str x, .ty "str"] = some (.s (.bl true)) := id rfl
@[simp] theorem isi_str_list {x : Str} : isiOp [.str x, .ty "list"] = some (.s (.bl false)) := id rfl
@[simp] theorem isi_str_tuple {x : Str} : isiOp [.str x, .ty "tuple"] = some (.s (.bl false)) := id rfl
@[simp] theorem isi_int_int {x : Int} : isiOp [.int x, .ty "int"] = some (.s (.bl true)) := id rfl
@[simp] theorem isi_int_bool {x : Int} : isiOp [.int x, .ty "bool"] = some (.s (.bl false)) := id rfl
@[simp] theorem isi_int_str {x : Int} : isiOp [.int x, .ty "str"] = some (.s (.bl false)) := id rfl
@[simp] theorem isi_int_list {x : Int} : isiOp [.int x, .ty "list"] = some (.s (.bl false)) := id rfl
@[simp] theorem isi_int_tuple {x : Int} : isiOp [.int x, .ty "tuple"] = some (.s (.bl false)) := id rfl
@[simp] theorem isi_int_dict {x : Int} : isiOp [.int x, .ty "dict"] = some (.s (.bl false)) := id rfl
@[simp] theorem isi_bl_int {x : Bool} : isiOp [.bl x, .ty "int"] = some (.s (.bl true)) := id rfl
@[simp] theorem isi_bl_bool {x : Bool} : isiOp [.bl x, .ty "bool"] = some (.s (.bl true)) := id rfl
@[simp] theorem isi_bl_str {x : Bool} : isiOp [.bl x, .ty "str"] = some (.s (.bl false)) := id rfl
@[simp] theorem isi_bl_list {x : Bool} : isiOp [.bl x, .ty "list"] = some (.s (.bl false)) := id rfl
@[simp] theorem isi_bl_tuple {x : Bool} : isiOp [.bl x, .ty "tuple"] = some (.s (.bl false)) := id rfl
@[simp] theorem isi_bl_dict {x : Bool} : isiOp [.bl x, .ty "dict"] = some (.s (.bl false)) := id rfl
@[simp] theorem isi_tup_int {x : List D} : isiOp [.tup x, .ty "int"] = some (.s (.bl false)) := id rfl
@[simp] theorem isi_tup_bool {x : List D} : isiOp [.tup x, .ty "bool"] = some (.s (.bl false)) := id rfl
@[simp] theorem isi_tup_str {x : List D} : isiOp [.tup x, .ty "str"] = some (.s (.bl false)) := id rfl
@[simp] theorem isi_tup_list {x : List D} : isiOp [.tup x, .ty "list"] = some (.s (.bl false)) := id rfl
@[simp] theorem isi_tup_tuple {x : List D} : isiOp [.tup x, .ty "tuple"] = some (.s (.bl true)) := id rfl
@[simp] theorem isi_tup_dict {x : List D} : isiOp [.tup x, .ty "dict"] = some (.s (.bl false)) := id rfl
@[simp] theorem isi_lst_int {x : List D} : isiOp [.lst x, .ty "int"] = some (.s (.bl false)) := id rfl
@[simp] theorem isi_lst_bool {x : List D} : isiOp [.lst x, .ty "bool"] = some (.s (.bl false)) := id rfl
@[simp] theorem isi_lst_str {x : List D} : isiOp [.lst x, .ty "str"] = some (.s (.bl false)) := id rfl
@[simp] theorem isi_lst_list {x : List D} : isiOp [.lst x, .ty "list"] = some (.s (.bl true)) := id rfl
@[simp] theorem isi_lst_tuple {x : List D} : isiOp [.lst x, .ty "tuple"] = some (.s (.bl false)) := id rfl
@[simp] theorem isi_lst_dict {x : List D} : isiOp [.lst x, .ty "dict"] = some (.s (.bl false)) := id rfl
@[simp] theorem isi_set_int {x : List D} : isiOp [.set x, .ty "int"] = some (.s (.bl false)) := id rfl
@[simp] theorem isi_set_bool {x : List D} : isiOp [.set x, .ty "bool"] = some (.s (.bl false)) := id rfl
@[simp] theorem isi_set_str {x : List D} : isiOp [.set x, .ty "str"] = some (.s (.bl false)) := id rfl
@[simp] theorem isi_set_list {x : List D} : isiOp [.set x, .ty "list"] = some (.s (.bl false)) := id rfl
@[simp] theorem isi_set_tuple {x : List D} : isiOp [.set x, .ty "tuple"] = some (.s (.bl true)) := id rfl
@[simp] theorem isi_set_dict {x : List D} : isiOp [.set x, .ty "dict"] = some (.s (.bl false)) := id rfl
@[simp] theorem isi_non_int  : isiOp [.non, .ty "int"] = some (.s (.bl false)) := id rfl
@[simp] theorem isi_non_bool  : isiOp [.non, .ty "bool"] = some (.s (.bl false)) := id rfl
@[simp] theorem isi_non_str  : isiOp [.non, .ty "str"] = some (.s (.bl false)) := id rfl
@[simp] theorem isi_non_list  : isiOp [.non, .ty "list"] = some (.s (.bl false)) := id rfl
@[simp] theorem isi_non_tuple  : isiOp [.non, .ty "tuple"] = some (.s (.bl false)) := id rfl
@[simp] theorem isi_non_dict  : isiOp [.non, .ty "dict"] = some (.s (.bl false)) := id rfl
theorem sk_is : PyData.strOk "is" = true := by decide +kernel
@[simp] theorem eqw_is_is : eqOp (.str "is") (.str "is") = some (.s (.bl true)) := by rw [eq_ss]; rfl
@[simp] theorem eqw_is_among : eqOp (.str "is") (.str "among") = some (.s (.bl false)) := by rw [eq_ss]; rfl
@[simp] theorem eqw_is_least : eqOp (.str "is") (.str "least") = some (.s (.bl false)) := by rw [eq_ss]; rfl
@[simp] theorem eqw_is_most : eqOp (.str "is") (.str "most") = some (.s (.bl false)) := by rw [eq_ss]; rfl
@[simp] theorem eqw_is_sum : eqOp (.str "is") (.str "sum") = some (.s (.bl false)) := by rw [eq_ss]; rfl
@[simp] theorem eqw_is_not : eqOp (.str "is") (.str "not") = some (.s (.bl false)) := by rw [eq_ss]; rfl
@[simp] theorem eqw_is_count : eqOp (.str "is") (.str "count") = some (.s (.bl false)) := by rw [eq_ss]; rfl
@[simp] theorem eqw_is_all : eqOp (.str "is") (.str "all") = some (.s (.bl false)) := by rw [eq_ss]; rfl
@[simp] theorem eqw_is_some : eqOp (.str "is") (.str "some") = some (.s (.bl false)) := by rw [eq_ss]; rfl
@[simp] theorem eqw_is_choice : eqOp (.str "is") (.str "choice") = some (.s (.bl false)) := by rw [eq_ss]; rfl
@[simp] theorem eqw_is_number : eqOp (.str "is") (.str "number") = some (.s (.bl false)) := by rw [eq_ss]; rfl
theorem sk_among : PyData.strOk "among" = true := by decide +kernel
@[simp] theorem eqw_among_is : eqOp (.str "among") (.str "is") = some (.s (.bl false)) := by rw [eq_ss]; rfl
@[simp] theorem eqw_among_among : eqOp (.str "among") (.str "among") = some (.s (.bl true)) := by rw [eq_ss]; rfl
@[simp] theorem eqw_among_least : eqOp (.str "among") (.str "least") = some (.s (.bl false)) := by rw [eq_ss]; rfl
@[simp] theorem eqw_among_most : eqOp (.str "among") (.str "most") = some (.s (.bl false)) := by rw [eq_ss]; rfl
@[simp] theorem eqw_among_sum : eqOp (.str "among") (.str "sum") = some (.s (.bl false)) := by rw [eq_ss]; rfl
@[simp] theorem eqw_among_not : eqOp (.str "among") (.str "not") = some (.s (.bl false)) := by rw [eq_ss]; rfl
@[simp] theorem eqw_among_count : eqOp (.str "among") (.str "count") = some (.s (.bl false)) := by rw [eq_ss]; rfl
@[simp] theorem eqw_among_all : eqOp (.str "among") (.str "all") = some (.s (.bl false)) := by rw [eq_ss]; rfl
@[simp] theorem eqw_among_some : eqOp (.str "among") (.str "some") = some (.s (.bl false)) := by rw [eq_ss]; rfl
@[simp] theorem eqw_among_choice : eqOp (.str "among") (.str "choice") = some (.s (.bl false)) := by rw [eq_ss]; rfl
@[simp] theorem eqw_among_number : eqOp (.str "among") (.str "number") = some (.s (.bl false)) := by rw [eq_ss]; rfl
theorem sk_least : PyData.strOk "least" = true := by decide +kernel
@[simp] theorem eqw_least_is : eqOp (.str "least") (.str "is") = some (.s (.bl false)) := by rw [eq_ss]; rfl
@[simp] theorem eqw_least_among : eqOp (.str "least") (.str "among") = some (.s (.bl false)) := by rw [eq_ss]; rfl
@[simp] theorem eqw_least_least : eqOp (.str "least") (.str "least") = some (.s (.bl true)) := by rw [eq_ss]; rfl
@[simp] theorem eqw_least_most : eqOp (.str "least") (.str "most") = some (.s (.bl false)) := by rw [eq_ss]; rfl
@[simp] theorem eqw_least_sum : eqOp (.str "least") (.str "sum") = some (.s (.bl false)) := by rw [eq_ss]; rfl
@[simp] theorem eqw_least_not : eqOp (.str "least") (.str "not") = some (.s (.bl false)) := by rw [eq_ss]; rfl
@[simp] theorem eqw_least_count : eqOp (.str "least") (.str "count") = some (.s (.bl false)) := by rw [eq_ss]; rfl
@[simp] theorem eqw_least_all : eqOp (.str "least") (.str "all") = some (.s (.bl false)) := by rw [eq_ss]; rfl
@[simp] theorem eqw_least_some : eqOp (.str "least") (.str "some") = some (.s (.bl false)) := by rw [eq_ss]; rfl
@[simp] theorem eqw_least_choice : eqOp (.str "least") (.str "choice") = some (.s (.bl false)) := by rw [eq_ss]; rfl
@[simp] theorem eqw_least_number : eqOp (.str "least") (.str "number") = some (.s (.bl false)) := by rw [eq_ss]; rfl
theorem sk_most : PyData.strOk "most" = true := by decide +kernel
@[simp] theorem eqw_most_is : eqOp (.str "most") (.str "is") = some (.s (.bl false)) := by rw [eq_ss]; rfl
@[simp] theorem eqw_most_among : eqOp (.str "most") (.str "among") = some (.s (.bl false)) := by rw [eq_ss]; rfl
@[simp] theorem eqw_most_least : eqOp (.str "most") (.str "least") = some (.s (.bl false)) := by rw [eq_ss]; rfl
@[simp] theorem eqw_most_most : eqOp (.str "most") (.str "most") = some (.s (.bl true)) := by rw [eq_ss]; rfl
@[simp] theorem eqw_most_sum : eqOp (.str "most") (.str "sum") = some (.s (.bl false)) := by rw [eq_ss]; rfl
@[simp] theorem eqw_most_not : eqOp (.str "most") (.str "not") = some (.s (.bl false)) := by rw [eq_ss]; rfl
@[simp] theorem eqw_most_count : eqOp (.str "most") (.str "count") = some (.s (.bl false)) := by rw [eq_ss]; rfl
@[simp] theorem eqw_most_all : eqOp (.str "most") (.str "all") = some (.s (.bl false)) := by rw [eq_ss]; rfl
@[simp] theorem eqw_most_some : eqOp (.str "most") (.str "some") = some (.s (.bl false)) := by rw [eq_ss]; rfl
@[simp] theorem eqw_most_choice : eqOp (.str "most") (.str "choice") = some (.s (.bl false)) := by rw [eq_ss]; rfl
@[simp] theorem eqw_most_number : eqOp (.str "most") (.str "number") = some (.s (.bl false)) := by rw [eq_ss]; rfl
theorem sk_sum : PyData.strOk "sum" = true := by decide +kernel
@[simp] theorem eqw_sum_is : eqOp (.str "sum") (.str "is") = some (.s (.bl false)) := by rw [eq_ss]; rfl
@[simp] theorem eqw_sum_among : eqOp (.str "sum") (.str "among") = some (.s (.bl false)) := by rw [eq_ss]; rfl
@[simp] theorem eqw_sum_least : eqOp (.str "sum") (.str "least") = some (.s (.bl false)) := by rw [eq_ss]; rfl
@[simp] theorem eqw_sum_most : eqOp (.str "sum") (.str "most") = some (.s (.bl false)) := by rw [eq_ss]; rfl
@[simp] theorem eqw_sum_sum : eqOp (.str "sum") (.str "sum") = some (.s (.bl true)) := by rw [eq_ss]; rfl
@[simp] theorem eqw_sum_not : eqOp (.str "sum") (.str "not") = some (.s (.bl false)) := by rw [eq_ss]; rfl
@[simp] theorem eqw_sum_count : eqOp (.str "sum") (.str "count") = some (.s (.bl false)) := by rw [eq_ss]; rfl
@[simp] theorem eqw_sum_all : eqOp (.str "sum") (.str "all") = some (.s (.bl false)) := by rw [eq_ss]; rfl
@[simp] theorem eqw_sum_some : eqOp (.str "sum") (.str "some") = some (.s (.bl false)) := by rw [eq_ss]; rfl
@[simp] theorem eqw_sum_choice : eqOp (.str "sum") (.str "choice") = some (.s (.bl false)) := by rw [eq_ss]; rfl
@[simp] theorem eqw_sum_number : eqOp (.str "sum") (.str "number") = some (.s (.bl false)) := by rw [eq_ss]; rfl
theorem sk_not : PyData.strOk "not" = true := by decide +kernel
@[simp] theorem eqw_not_is : eqOp (.str "not") (.str "is") = some (.s (.bl false)) := by rw [eq_ss]; rfl
@[simp] theorem eqw_not_among : eqOp (.str "not") (.str "among") = some (.s (.bl false)) := by rw [eq_ss]; rfl
@[simp] theorem eqw_not_least : eqOp (.str "not") (.str "least") = some (.s (.bl false)) := by rw [eq_ss]; rfl
@[simp] theorem eqw_not_most : eqOp (.str "not") (.str "most") = some (.s (.bl false)) := by rw [eq_ss]; rfl
@[simp] theorem eqw_not_sum : eqOp (.str "not") (.str "sum") = some (.s (.bl false)) := by rw [eq_ss]; rfl
@[simp] theorem eqw_not_not : eqOp (.str "not") (.str "not") = some (.s (.bl true)) := by rw [eq_ss]; rfl
@[simp] theorem eqw_not_count : eqOp (.str "not") (.str "count") = some (.s (.bl false)) := by rw [eq_ss]; rfl
@[simp] theorem eqw_not_all : eqOp (.str "not") (.str "all") = some (.s (.bl false)) := by rw [eq_ss]; rfl
@[simp] theorem eqw_not_some : eqOp (.str "not") (.str "some") = some (.s (.bl false)) := by rw [eq_ss]; rfl
@[simp] theorem eqw_not_choice : eqOp (.str "not") (.str "choice") = some (.s (.bl false)) := by rw [eq_ss]; rfl
@[simp] theorem eqw_not_number : eqOp (.str "not") (.str "number") = some (.s (.bl false)) := by rw [eq_ss]; rfl
theorem sk_count : PyData.strOk "count" = true := by decide +kernel
@[simp] theorem eqw_count_is : eqOp (.str "count") (.str "is") = some (.s (.bl false)) := by rw [eq_ss]; rfl
@[simp] theorem eqw_count_among : eqOp (.str "count") (.str "among") = some (.s (.bl false)) := by rw [eq_ss]; rfl
@[simp] theorem eqw_count_least : eqOp (.str "count") (.str "least") = some (.s (.bl false)) := by rw [eq_ss]; rfl
@[simp] theorem eqw_count_most : eqOp (.str "count") (.str "most") = some (.s (.bl false)) := by rw [eq_ss]; rfl
@[simp] theorem eqw_count_sum : eqOp (.str "count") (.str "sum") = some (.s (.bl false)) := by rw [eq_ss]; rfl
@[simp] theorem eqw_count_not : eqOp (.str "count") (.str "not") = some (.s (.bl false)) := by rw [eq_ss]; rfl
@[simp] theorem eqw_count_count : eqOp (.str "count") (.str "count") = some (.s (.bl true)) := by rw [eq_ss]; rfl
@[simp] theorem eqw_count_all : eqOp (.str "count") (.str "all") = some (.s (.bl false)) := by rw [eq_ss]; rfl
@[simp] theorem eqw_count_some : eqOp (.str "count") (.str "some") = some (.s (.bl false)) := by rw [eq_ss]; rfl
@[simp] theorem eqw_count_choice : eqOp (.str "count") (.str "choice") = some (.s (.bl false)) := by rw [eq_ss]; rfl
@[simp] theorem eqw_count_number : eqOp (.str "count") (.str "number") = some (.s (.bl false)) := by rw [eq_ss]; rfl
theorem sk_all : PyData.strOk "all" = true := by decide +kernel
@[simp] theorem eqw_all_is : eqOp (.str "all") (.str "is") = some (.s (.bl false)) := by rw [eq_ss]; rfl
@[simp] theorem eqw_all_among : eqOp (.str "all") (.str "among") = some (.s (.bl false)) := by rw [eq_ss]; rfl
@[simp] theorem eqw_all_least : eqOp (.str "all") (.str "least") = some (.s (.bl false)) := by rw [eq_ss]; rfl
@[simp] theorem eqw_all_most : eqOp (.str "all") (.str "most") = some (.s (.bl false)) := by rw [eq_ss]; rfl
@[simp] theorem eqw_all_sum : eqOp (.str "all") (.str "sum") = some (.s (.bl false)) := by rw [eq_ss]; rfl
@[simp] theorem eqw_all_not : eqOp (.str "all") (.str "not") = some (.s (.bl false)) := by rw [eq_ss]; rfl
@[simp] theorem eqw_all_count : eqOp (.str "all") (.str "count") = some (.s (.bl false)) := by rw [eq_ss]; rfl
@[simp] theorem eqw_all_all : eqOp (.str "all") (.str "all") = some (.s (.bl true)) := by rw [eq_ss]; rfl
@[simp] theorem eqw_all_some : eqOp (.str "all") (.str "some") = some (.s (.bl false)) := by rw [eq_ss]; rfl
@[simp] theorem eqw_all_choice : eqOp (.str "all") (.str "choice") = some (.s (.bl false)) := by rw [eq_ss]; rfl
@[simp] theorem eqw_all_number : eqOp (.str "all") (.str "number") = some (.s (.bl false)) := by rw [eq_ss]; rfl
theorem sk_some : PyData.strOk "some" = true := by decide +kernel
@[simp] theorem eqw_some_is : eqOp (.str "some") (.str "is") = some (.s (.bl false)) := by rw [eq_ss]; rfl
@[simp] theorem eqw_some_among : eqOp (.str "some") (.str "among") = some (.s (.bl false)) := by rw [eq_ss]; rfl
@[simp] theorem eqw_some_least : eqOp (.str "some") (.str "least") = some (.s (.bl false)) := by rw [eq_ss]; rfl
@[simp] theorem eqw_some_most : eqOp (.str "some") (.str "most") = some (.s (.bl false)) := by rw [eq_ss]; rfl
@[simp] theorem eqw_some_sum : eqOp (.str "some") (.str "sum") = some (.s (.bl false)) := by rw [eq_ss]; rfl
@[simp] theorem eqw_some_not : eqOp (.str "some") (.str "not") = some (.s (.bl false)) := by rw [eq_ss]; rfl
@[simp] theorem eqw_some_count : eqOp (.str "some") (.str "count") = some (.s (.bl false)) := by rw [eq_ss]; rfl
@[simp] theorem eqw_some_all : eqOp (.str "some") (.str "all") = some (.s (.bl false)) := by rw [eq_ss]; rfl
@[simp] theorem eqw_some_some : eqOp (.str "some") (.str "some") = some (.s (.bl true)) := by rw [eq_ss]; rfl
@[simp] theorem eqw_some_choice : eqOp (.str "some") (.str "choice") = some (.s (.bl false)) := by rw [eq_ss]; rfl
@[simp] theorem eqw_some_number : eqOp (.str "some") (.str "number") = some (.s (.bl false)) := by rw [eq_ss]; rfl
theorem sk_choice : PyData.strOk "choice" = true := by decide +kernel
@[simp] theorem eqw_choice_is : eqOp (.str "choice") (.str "is") = some (.s (.bl false)) := by rw [eq_ss]; rfl
@[simp] theorem eqw_choice_among : eqOp (.str "choice") (.str "among") = some (.s (.bl false)) := by rw [eq_ss]; rfl
@[simp] theorem eqw_choice_least : eqOp (.str "choice") (.str "least") = some (.s (.bl false)) := by rw [eq_ss]; rfl
@[simp] theorem eqw_choice_most : eqOp (.str "choice") (.str "most") = some (.s (.bl false)) := by rw [eq_ss]; rfl
@[simp] theorem eqw_choice_sum : eqOp (.str "choice") (.str "sum") = some (.s (.bl false)) := by rw [eq_ss]; rfl
@[simp] theorem eqw_choice_not : eqOp (.str "choice") (.str "not") = some (.s (.bl false)) := by rw [eq_ss]; rfl
@[simp] theorem eqw_choice_count : eqOp (.str "choice") (.str "count") = some (.s (.bl false)) := by rw [eq_ss]; rfl
@[simp] theorem eqw_choice_all : eqOp (.str "choice") (.str "all") = some (.s (.bl false)) := by rw [eq_ss]; rfl
@[simp] theorem eqw_choice_some : eqOp (.str "choice") (.str "some") = some (.s (.bl false)) := by rw [eq_ss]; rfl
@[simp] theorem eqw_choice_choice : eqOp (.str "choice") (.str "choice") = some (.s (.bl true)) := by rw [eq_ss]; rfl
@[simp] theorem eqw_choice_number : eqOp (.str "choice") (.str "number") = some (.s (.bl false)) := by rw [eq_ss]; rfl
theorem sk_number : PyData.strOk "number" = true := by decide +kernel
@[simp] theorem eqw_number_is : eqOp (.str "number") (.str "is") = some (.s (.bl false)) := by rw [eq_ss]; rfl
@[simp] theorem eqw_number_among : eqOp (.str "number") (.str "among") = some (.s (.bl false)) := by rw [eq_ss]; rfl
@[simp] theorem eqw_number_least : eqOp (.str "number") (.str "least") = some (.s (.bl false)) := by rw [eq_ss]; rfl
@[simp] theorem eqw_number_most : eqOp (.str "number") (.str "most") = some (.s (.bl false)) := by rw [eq_ss]; rfl
@[simp] theorem eqw_number_sum : eqOp (.str "number") (.str "sum") = some (.s (.bl false)) := by rw [eq_ss]; rfl
@[simp] theorem eqw_number_not : eqOp (.str "number") (.str "not") = some (.s (.bl false)) := by rw [eq_ss]; rfl
@[simp] theorem eqw_number_count : eqOp (.str "number") (.str "count") = some (.s (.bl false)) := by rw [eq_ss]; rfl
@[simp] theorem eqw_number_all : eqOp (.str "number") (.str "all") = some (.s (.bl false)) := by rw [eq_ss]; rfl
@[simp] theorem eqw_number_some : eqOp (.str "number") (.str "some") = some (.s (.bl false)) := by rw [eq_ss]; rfl
@[simp] theorem eqw_number_choice : eqOp (.str "number") (.str "choice") = some (.s (.bl false)) := by rw [eq_ss]; rfl
@[simp] theorem eqw_number_number : eqOp (.str "number") (.str "number") = some (.s (.bl true)) := by rw [eq_ss]; rfl
@[simp] theorem sne_is_among : ((("is" : Str) = "among")) = False := eq_false (by decide)
@[simp] theorem sne_is_least : ((("is" : Str) = "least")) = False := eq_false (by decide)
@[simp] theorem sne_is_most : ((("is" : Str) = "most")) = False := eq_false (by decide)
@[simp] theorem sne_is_sum : ((("is" : Str) = "sum")) = False := eq_false (by decide)
@[simp] theorem sne_is_not : ((("is" : Str) = "not")) = False := eq_false (by decide)
@[simp] theorem sne_is_count : ((("is" : Str) = "count")) = False := eq_false (by decide)
@[simp] theorem sne_is_all : ((("is" : Str) = "all")) = False := eq_false (by decide)
@[simp] theorem sne_is_some : ((("is" : Str) = "some")) = False := eq_false (by decide)
@[simp] theorem sne_is_choice : ((("is" : Str) = "choice")) = False := eq_false (by decide)
@[simp] theorem sne_is_number : ((("is" : Str) = "number")) = False := eq_false (by decide)
@[simp] theorem sne_among_is : ((("among" : Str) = "is")) = False := eq_false (by decide)
@[simp] theorem sne_among_least : ((("among" : Str) = "least")) = False := eq_false (by decide)
@[simp] theorem sne_among_most : ((("among" : Str) = "most")) = False := eq_false (by decide)
@[simp] theorem sne_among_sum : ((("among" : Str) = "sum")) = False := eq_false (by decide)
@[simp] theorem sne_among_not : ((("among" : Str) = "not")) = False := eq_false (by decide)
@[simp] theorem sne_among_count : ((("among" : Str) = "count")) = False := eq_false (by decide)
@[simp] theorem sne_among_all : ((("among" : Str) = "all")) = False := eq_false (by decide)
@[simp] theorem sne_among_some : ((("among" : Str) = "some")) = False := eq_false (by decide)
@[simp] theorem sne_among_choice : ((("among" : Str) = "choice")) = False := eq_false (by decide)
@[simp] theorem sne_among_number : ((("among" : Str) = "number")) = False := eq_false (by decide)
@[simp] theorem sne_least_is : ((("least" : Str) = "is")) = False := eq_false (by decide)
@[simp] theorem sne_least_among : ((("least" : Str) = "among")) = False := eq_false (by decide)
@[simp] theorem sne_least_most : ((("least" : Str) = "most")) = False := eq_false (by decide)
@[simp] theorem sne_least_sum : ((("least" : Str) = "sum")) = False := eq_false (by decide)
@[simp] theorem sne_least_not : ((("least" : Str) = "not")) = False := eq_false (by decide)
@[simp] theorem sne_least_count : ((("least" : Str) = "count")) = False := eq_false (by decide)
@[simp] theorem sne_least_all : ((("least" : Str) = "all")) = False := eq_false (by decide)
@[simp] theorem sne_least_some : ((("least" : Str) = "some")) = False := eq_false (by decide)
@[simp] theorem sne_least_choice : ((("least" : Str) = "choice")) = False := eq_false (by decide)
@[simp] theorem sne_least_number : ((("least" : Str) = "number")) = False := eq_false (by decide)
@[simp] theorem sne_most_is : ((("most" : Str) = "is")) = False := eq_false (by decide)
@[simp] theorem sne_most_among : ((("most" : Str) = "among")) = False := eq_false (by decide)
@[simp] theorem sne_most_least : ((("most" : Str) = "least")) = False := eq_false (by decide)
@[simp] theorem sne_most_sum : ((("most" : Str) = "sum")) = False := eq_false (by decide)
@[simp] theorem sne_most_not : ((("most" : Str) = "not")) = False := eq_false (by decide)
@[simp] theorem sne_most_count : ((("most" : Str) = "count")) = False := eq_false (by decide)
@[simp] theorem sne_most_all : ((("most" : Str) = "all")) = False := eq_false (by decide)
@[simp] theorem sne_most_some : ((("most" : Str) = "some")) = False := eq_false (by decide)
@[simp] theorem sne_most_choice : ((("most" : Str) = "choice")) = False := eq_false (by decide)
@[simp] theorem sne_most_number : ((("most" : Str) = "number")) = False := eq_false (by decide)
@[simp] theorem sne_sum_is : ((("sum" : Str) = "is")) = False := eq_false (by decide)
@[simp] theorem sne_sum_among : ((("sum" : Str) = "among")) = False := eq_false (by decide)
@[simp] theorem sne_sum_least : ((("sum" : Str) = "least")) = False := eq_false (by decide)
@[simp] theorem sne_sum_most : ((("sum" : Str) = "most")) = False := eq_false (by decide)
@[simp] theorem sne_sum_not : ((("sum" : Str) = "not")) = False := eq_false (by decide)
@[simp] theorem sne_sum_count : ((("sum" : Str) = "count")) = False := eq_false (by decide)
@[simp] theorem sne_sum_all : ((("sum" : Str) = "all")) = False := eq_false (by decide)
@[simp] theorem sne_sum_some : ((("sum" : Str) = "some")) = False := eq_false (by decide)
@[simp] theorem sne_sum_choice : ((("sum" : Str) = "choice")) = False := eq_false (by decide)
@[simp] theorem sne_sum_number : ((("sum" : Str) = "number")) = False := eq_false (by decide)
@[simp] theorem sne_not_is : ((("not" : Str) = "is")) = False := eq_false (by decide)
@[simp] theorem sne_not_among : ((("not" : Str) = "among")) = False := eq_false (by decide)
@[simp] theorem sne_not_least : ((("not" : Str) = "least")) = False := eq_false (by decide)
@[simp] theorem sne_not_most : ((("not" : Str) = "most")) = False := eq_false (by decide)
@[simp] theorem sne_not_sum : ((("not" : Str) = "sum")) = False := eq_false (by decide)
@[simp] theorem sne_not_count : ((("not" : Str) = "count")) = False := eq_false (by decide)
@[simp] theorem sne_not_all : ((("not" : Str) = "all")) = False := eq_false (by decide)
@[simp] theorem sne_not_some : ((("not" : Str) = "some")) = False := eq_false (by decide)
@[simp] theorem sne_not_choice : ((("not" : Str) = "choice")) = False := eq_false (by decide)
@[simp] theorem sne_not_number : ((("not" : Str) = "number")) = False := eq_false (by decide)
@[simp] theorem sne_count_is : ((("count" : Str) = "is")) = False := eq_false (by decide)
@[simp] theorem sne_count_among : ((("count" : Str) = "among")) = False := eq_false (by decide)
@[simp] theorem sne_count_least : ((("count" : Str) = "least")) = False := eq_false (by decide)
@[simp] theorem sne_count_most : ((("count" : Str) = "most")) = False := eq_false (by decide)
@[simp] theorem sne_count_sum : ((("count" : Str) = "sum")) = False := eq_false (by decide)
@[simp] theorem sne_count_not : ((("count" : Str) = "not")) = False := eq_false (by decide)
@[simp] theorem sne_count_all : ((("count" : Str) = "all")) = False := eq_false (by decide)
@[simp] theorem sne_count_some : ((("count" : Str) = "some")) = False := eq_false (by decide)
@[simp] theorem sne_count_choice : ((("count" : Str) = "choice")) = False := eq_false (by decide)
@[simp] theorem sne_count_number : ((("count" : Str) = "number")) = False := eq_false (by decide)
@[simp] theorem sne_all_is : ((("all" : Str) = "is")) = False := eq_false (by decide)
@[simp] theorem sne_all_among : ((("all" : Str) = "among")) = False := eq_false (by decide)
@[simp] theorem sne_all_least : ((("all" : Str) = "least")) = False := eq_false (by decide)
@[simp] theorem sne_all_most : ((("all" : Str) = "most")) = False := eq_false (by decide)
@[simp] theorem sne_all_sum : ((("all" : Str) = "sum")) = False := eq_false (by decide)
@[simp] theorem sne_all_not : ((("all" : Str) = "not")) = False := eq_false (by decide)
@[simp] theorem sne_all_count : ((("all" : Str) = "count")) = False := eq_false (by decide)
@[simp] theorem sne_all_some : ((("all" : Str) = "some")) = False := eq_false (by decide)
@[simp] theorem sne_all_choice : ((("all" : Str) = "choice")) = False := eq_false (by decide)
@[simp] theorem sne_all_number : ((("all" : Str) = "number")) = False := eq_false (by decide)
@[simp] theorem sne_some_is : ((("some" : Str) = "is")) = False := eq_false (by decide)
@[simp] theorem sne_some_among : ((("some" : Str) = "among")) = False := eq_false (by decide)
@[simp] theorem sne_some_least : ((("some" : Str) = "least")) = False := eq_false (by decide)
@[simp] theorem sne_some_most : ((("some" : Str) = "most")) = False := eq_false (by decide)
@[simp] theorem sne_some_sum : ((("some" : Str) = "sum")) = False := eq_false (by decide)
@[simp] theorem sne_some_not : ((("some" : Str) = "not")) = False := eq_false (by decide)
@[simp] theorem sne_some_count : ((("some" : Str) = "count")) = False := eq_false (by decide)
@[simp] theorem sne_some_all : ((("some" : Str) = "all")) = False := eq_false (by decide)
@[simp] theorem sne_some_choice : ((("some" : Str) = "choice")) = False := eq_false (by decide)
@[simp] theorem sne_some_number : ((("some" : Str) = "number")) = False := eq_false (by decide)
@[simp] theorem sne_choice_is : ((("choice" : Str) = "is")) = False := eq_false (by decide)
@[simp] theorem sne_choice_among : ((("choice" : Str) = "among")) = False := eq_false (by decide)
@[simp] theorem sne_choice_least : ((("choice" : Str) = "least")) = False := eq_false (by decide)
@[simp] theorem sne_choice_most : ((("choice" : Str) = "most")) = False := eq_false (by decide)
@[simp] theorem sne_choice_sum : ((("choice" : Str) = "sum")) = False := eq_false (by decide)
@[simp] theorem sne_choice_not : ((("choice" : Str) = "not")) = False := eq_false (by decide)
@[simp] theorem sne_choice_count : ((("choice" : Str) = "count")) = False := eq_false (by decide)
@[simp] theorem sne_choice_all : ((("choice" : Str) = "all")) = False := eq_false (by decide)
@[simp] theorem sne_choice_some : ((("choice" : Str) = "some")) = False := eq_false (by decide)
@[simp] theorem sne_choice_number : ((("choice" : Str) = "number")) = False := eq_false (by decide)
@[simp] theorem sne_number_is : ((("number" : Str) = "is")) = False := eq_false (by decide)
@[simp] theorem sne_number_among : ((("number" : Str) = "among")) = False := eq_false (by decide)
@[simp] theorem sne_number_least : ((("number" : Str) = "least")) = False := eq_false (by decide)
@[simp] theorem sne_number_most : ((("number" : Str) = "most")) = False := eq_false (by decide)
@[simp] theorem sne_number_sum : ((("number" : Str) = "sum")) = False := eq_false (by decide)
@[simp] theorem sne_number_not : ((("number" : Str) = "not")) = False := eq_false (by decide)
@[simp] theorem sne_number_count : ((("number" : Str) = "count")) = False := eq_false (by decide)
@[simp] theorem sne_number_all : ((("number" : Str) = "all")) = False := eq_false (by decide)
@[simp] theorem sne_number_some : ((("number" : Str) = "some")) = False := eq_false (by decide)
@[simp] theorem sne_number_choice : ((("number" : Str) = "choice")) = False := eq_false (by decide)
@[simp] theorem inw0_is : inOp (.str "is") (.tup [.str "is", .str "among"]) = some (.s (.bl true)) := (in_ts (x := "is") (ys := ["is", "among"]) sk_is (fun y hy => by simp only [List.mem_cons, List.not_mem_nil, or_false] at hy; rcases hy with rfl | rfl; all_goals decide +kernel)).trans (by rw [show decide (("is" : Str) ∈ (["is", "among"] : List Str)) = true by decide +kernel])
@[simp] theorem nin0_is : notInOp (.str "is") (.tup [.str "is", .str "among"]) = some (.s (.bl false)) := notIn_of inw0_is
@[simp] theorem inw0_among : inOp (.str "among") (.tup [.str "is", .str "among"]) = some (.s (.bl true)) := (in_ts (x := "among") (ys := ["is", "among"]) sk_among (fun y hy => by simp only [List.mem_cons, List.not_mem_nil, or_false] at hy; rcases hy with rfl | rfl; all_goals decide +kernel)).trans (by rw [show decide (("among" : Str) ∈ (["is", "among"] : List Str)) = true by decide +kernel])
@[simp] theorem nin0_among : notInOp (.str "among") (.tup [.str "is", .str "among"]) = some (.s (.bl false)) := notIn_of inw0_among
@[simp] theorem inw0_least : inOp (.str "least") (.tup [.str "is", .str "among"]) = some (.s (.bl false)) := (in_ts (x := "least") (ys := ["is", "among"]) sk_least (fun y hy => by simp only [List.mem_cons, List.not_mem_nil, or_false] at hy; rcases hy with rfl | rfl; all_goals decide +kernel)).trans (by rw [show decide (("least" : Str) ∈ (["is", "among"] : List Str)) = false by decide +kernel])
@[simp] theorem nin0_least : notInOp (.str "least") (.tup [.str "is", .str "among"]) = some (.s (.bl true)) := notIn_of inw0_least
@[simp] theorem inw0_most : inOp (.str "most") (.tup [.str "is", .str "among"]) = some (.s (.bl false)) := (in_ts (x := "most") (ys := ["is", "among"]) sk_most (fun y hy => by simp only [List.mem_cons, List.not_mem_nil, or_false] at hy; rcases hy with rfl | rfl; all_goals decide +kernel)).trans (by rw [show decide (("most" : Str) ∈ (["is", "among"] : List Str)) = false by decide +kernel])
@[simp] theorem nin0_most : notInOp (.str "most") (.tup [.str "is", .str "among"]) = some (.s (.bl true)) := notIn_of inw0_most
@[simp] theorem inw0_sum : inOp (.str "sum") (.tup [.str "is", .str "among"]) = some (.s (.bl false)) := (in_ts (x := "sum") (ys := ["is", "among"]) sk_sum (fun y hy => by simp only [List.mem_cons, List.not_mem_nil, or_false] at hy; rcases hy with rfl | rfl; all_goals decide +kernel)).trans (by rw [show decide (("sum" : Str) ∈ (["is", "among"] : List Str)) = false by decide +kernel])
@[simp] theorem nin0_sum : notInOp (.str "sum") (.tup [.str "is", .str "among"]) = some (.s (.bl true)) := notIn_of inw0_sum
@[simp] theorem inw0_not : inOp (.str "not") (.tup [.str "is", .str "among"]) = some (.s (.bl false)) := (in_ts (x := "not") (ys := ["is", "among"]) sk_not (fun y hy => by simp only [List.mem_cons, List.not_mem_nil, or_false] at hy; rcases hy with rfl | rfl; all_goals decide +kernel)).trans (by rw [show decide (("not" : Str) ∈ (["is", "among"] : List Str)) = false by decide +kernel])
@[simp] theorem nin0_not : notInOp (.str "not") (.tup [.str "is", .str "among"]) = some (.s (.bl true)) := notIn_of inw0_not
@[simp] theorem inw0_count : inOp (.str "count") (.tup [.str "is", .str "among"]) = some (.s (.bl false)) := (in_ts (x := "count") (ys := ["is", "among"]) sk_count (fun y hy => by simp only [List.mem_cons, List.not_mem_nil, or_false] at hy; rcases hy with rfl | rfl; all_goals decide +kernel)).trans (by rw [show decide (("count" : Str) ∈ (["is", "among"] : List Str)) = false by decide +kernel])
@[simp] theorem nin0_count : notInOp (.str "count") (.tup [.str "is", .str "among"]) = some (.s (.bl true)) := notIn_of inw0_count
@[simp] theorem inw0_all : inOp (.str "all") (.tup [.str "is", .str "among"]) = some (.s (.bl false)) := (in_ts (x := "all") (ys := ["is", "among"]) sk_all (fun y hy => by simp only [List.mem_cons, List.not_mem_nil, or_false] at hy; rcases hy with rfl | rfl; all_goals decide +kernel)).trans (by rw [show decide (("all" : Str) ∈ (["is", "among"] : List Str)) = false by decide +kernel])
@[simp] theorem nin0_all : notInOp (.str "all") (.tup [.str "is", .str "among"]) = some (.s (.bl true)) := notIn_of inw0_all
@[simp] theorem inw0_some : inOp (.str "some") (.tup [.str "is", .str "among"]) = some (.s (.bl false)) := (in_ts (x := "some") (ys := ["is", "among"]) sk_some (fun y hy => by simp only [List.mem_cons, List.not_mem_nil, or_false] at hy; rcases hy with rfl | rfl; all_goals decide +kernel)).trans (by rw [show decide (("some" : Str) ∈ (["is", "among"] : List Str)) = false by decide +kernel])
@[simp] theorem nin0_some : notInOp (.str "some") (.tup [.str "is", .str "among"]) = some (.s (.bl true)) := notIn_of inw0_some
@[simp] theorem inw1_is : inOp (.str "is") (.tup [.str "least", .str "most"]) = some (.s (.bl false)) := (in_ts (x := "is") (ys := ["least", "most"]) sk_is (fun y hy => by simp only [List.mem_cons, List.not_mem_nil, or_false] at hy; rcases hy with rfl | rfl; all_goals decide +kernel)).trans (by rw [show decide (("is" : Str) ∈ (["least", "most"] : List Str)) = false by decide +kernel])
@[simp] theorem nin1_is : notInOp (.str "is") (.tup [.str "least", .str "most"]) = some (.s (.bl true)) := notIn_of inw1_is
@[simp] theorem inw1_among : inOp (.str "among") (.tup [.str "least", .str "most"]) = some (.s (.bl false)) := (in_ts (x := "among") (ys := ["least", "most"]) sk_among (fun y hy => by simp only [List.mem_cons, List.not_mem_nil, or_false] at hy; rcases hy with rfl | rfl; all_goals decide +kernel)).trans (by rw [show decide (("among" : Str) ∈ (["least", "most"] : List Str)) = false by decide +kernel])
@[simp] theorem nin1_among : notInOp (.str "among") (.tup [.str "least", .str "most"]) = some (.s (.bl true)) := notIn_of inw1_among
@[simp] theorem inw1_least : inOp (.str "least") (.tup [.str "least", .str "most"]) = some (.s (.bl true)) := (in_ts (x := "least") (ys := ["least", "most"]) sk_least (fun y hy => by simp only [List.mem_cons, List.not_mem_nil, or_false] at hy; rcases hy with rfl | rfl; all_goals decide +kernel)).trans (by rw [show decide (("least" : Str) ∈ (["least", "most"] : List Str)) = true by decide +kernel])
@[simp] theorem nin1_least : notInOp (.str "least") (.tup [.str "least", .str "most"]) = some (.s (.bl false)) := notIn_of inw1_least
@[simp] theorem inw1_most : inOp (.str "most") (.tup [.str "least", .str "most"]) = some (.s (.bl true)) := (in_ts (x := "most") (ys := ["least", "most"]) sk_most (fun y hy => by simp only [List.mem_cons, List.not_mem_nil, or_false] at hy; rcases hy with rfl | rfl; all_goals decide +kernel)).trans (by rw [show decide (("most" : Str) ∈ (["least", "most"] : List Str)) = true by decide +kernel])
@[simp] theorem nin1_most : notInOp (.str "most") (.tup [.str "least", .str "most"]) = some (.s (.bl false)) := notIn_of inw1_most
@[simp] theorem inw1_sum : inOp (.str "sum") (.tup [.str "least", .str "most"]) = some (.s (.bl false)) := (in_ts (x := "sum") (ys := ["least", "most"]) sk_sum (fun y hy => by simp only [List.mem_cons, List.not_mem_nil, or_false] at hy; rcases hy with rfl | rfl; all_goals decide +kernel)).trans (by rw [show decide (("sum" : Str) ∈ (["least", "most"] : List Str)) = false by decide +kernel])
@[simp] theorem nin1_sum : notInOp (.str "sum") (.tup [.str "least", .str "most"]) = some (.s (.bl true)) := notIn_of inw1_sum
@[simp] theorem inw1_not : inOp (.str "not") (.tup [.str "least", .str "most"]) = some (.s (.bl false)) := (in_ts (x := "not") (ys := ["least", "most"]) sk_not (fun y hy => by simp only [List.mem_cons, List.not_mem_nil, or_false] at hy; rcases hy with rfl | rfl; all_goals decide +kernel)).trans (by rw [show decide (("not" : Str) ∈ (["least", "most"] : List Str)) = false by decide +kernel])
@[simp] theorem nin1_not : notInOp (.str "not") (.tup [.str "least", .str "most"]) = some (.s (.bl true)) := notIn_of inw1_not
@[simp] theorem inw1_count : inOp (.str "count") (.tup [.str "least", .str "most"]) = some (.s (.bl false)) := (in_ts (x := "count") (ys := ["least", "most"]) sk_count (fun y hy => by simp only [List.mem_cons, List.not_mem_nil, or_false] at hy; rcases hy with rfl | rfl; all_goals decide +kernel)).trans (by rw [show decide (("count" : Str) ∈ (["least", "most"] : List Str)) = false by decide +kernel])
@[simp] theorem nin1_count : notInOp (.str "count") (.tup [.str "least", .str "most"]) = some (.s (.bl true)) := notIn_of inw1_count
@[simp] theorem inw1_all : inOp (.str "all") (.tup [.str "least", .str "most"]) = some (.s (.bl false)) := (in_ts (x := "all") (ys := ["least", "most"]) sk_all (fun y hy => by simp only [List.mem_cons, List.not_mem_nil, or_false] at hy; rcases hy with rfl | rfl; all_goals decide +kernel)).trans (by rw [show decide (("all" : Str) ∈ (["least", "most"] : List Str)) = false by decide +kernel])
@[simp] theorem nin1_all : notInOp (.str "all") (.tup [.str "least", .str "most"]) = some (.s (.bl true)) := notIn_of inw1_all
@[simp] theorem inw1_some : inOp (.str "some") (.tup [.str "least", .str "most"]) = some (.s (.bl false)) := (in_ts (x := "some") (ys := ["least", "most"]) sk_some (fun y hy => by simp only [List.mem_cons, List.not_mem_nil, or_false] at hy; rcases hy with rfl | rfl; all_goals decide +kernel)).trans (by rw [show decide (("some" : Str) ∈ (["least", "most"] : List Str)) = false by decide +kernel])
@[simp] theorem nin1_some : notInOp (.str "some") (.tup [.str "least", .str "most"]) = some (.s (.bl true)) := notIn_of inw1_some
@[simp] theorem inw2_is : inOp (.str "is") (.tup [.str "all", .str "some"]) = some (.s (.bl false)) := (in_ts (x := "is") (ys := ["all", "some"]) sk_is (fun y hy => by simp only [List.mem_cons, List.not_mem_nil, or_false] at hy; rcases hy with rfl | rfl; all_goals decide +kernel)).trans (by rw [show decide (("is" : Str) ∈ (["all", "some"] : List Str)) = false by decide +kernel])
@[simp] theorem nin2_is : notInOp (.str "is") (.tup [.str "all", .str "some"]) = some (.s (.bl true)) := notIn_of inw2_is
@[simp] theorem inw2_among : inOp (.str "among") (.tup [.str "all", .str "some"]) = some (.s (.bl false)) := (in_ts (x := "among") (ys := ["all", "some"]) sk_among (fun y hy => by simp only [List.mem_cons, List.not_mem_nil, or_false] at hy; rcases hy with rfl | rfl; all_goals decide +kernel)).trans (by rw [show decide (("among" : Str) ∈ (["all", "some"] : List Str)) = false by decide +kernel])
@[simp] theorem nin2_among : notInOp (.str "among") (.tup [.str "all", .str "some"]) = some (.s (.bl true)) := notIn_of inw2_among
@[simp] theorem inw2_least : inOp (.str "least") (.tup [.str "all", .str "some"]) = some (.s (.bl false)) := (in_ts (x := "least") (ys := ["all", "some"]) sk_least (fun y hy => by simp only [List.mem_cons, List.not_mem_nil, or_false] at hy; rcases hy with rfl | rfl; all_goals decide +kernel)).trans (by rw [show decide (("least" : Str) ∈ (["all", "some"] : List Str)) = false by decide +kernel])
@[simp] theorem nin2_least : notInOp (.str "least") (.tup [.str "all", .str "some"]) = some (.s (.bl true)) := notIn_of inw2_least
@[simp] theorem inw2_most : inOp (.str "most") (.tup [.str "all", .str "some"]) = some (.s (.bl false)) := (in_ts (x := "most") (ys := ["all", "some"]) sk_most (fun y hy => by simp only [List.mem_cons, List.not_mem_nil, or_false] at hy; rcases hy with rfl | rfl; all_goals decide +kernel)).trans (by rw [show decide (("most" : Str) ∈ (["all", "some"] : List Str)) = false by decide +kernel])
@[simp] theorem nin2_most : notInOp (.str "most") (.tup [.str "all", .str "some"]) = some (.s (.bl true)) := notIn_of inw2_most
@[simp] theorem inw2_sum : inOp (.str "sum") (.tup [.str "all", .str "some"]) = some (.s (.bl false)) := (in_ts (x := "sum") (ys := ["all", "some"]) sk_sum (fun y hy => by simp only [List.mem_cons, List.not_mem_nil, or_false] at hy; rcases hy with rfl | rfl; all_goals decide +kernel)).trans (by rw [show decide (("sum" : Str) ∈ (["all", "some"] : List Str)) = false by decide +kernel])
@[simp] theorem nin2_sum : notInOp (.str "sum") (.tup [.str "all", .str "some"]) = some (.s (.bl true)) := notIn_of inw2_sum
@[simp] theorem inw2_not : inOp (.str "not") (.tup [.str "all", .str "some"]) = some (.s (.bl false)) := (in_ts (x := "not") (ys := ["all", "some"]) sk_not (fun y hy => by simp only [List.mem_cons, List.not_mem_nil, or_false] at hy; rcases hy with rfl | rfl; all_goals decide +kernel)).trans (by rw [show decide (("not" : Str) ∈ (["all", "some"] : List Str)) = false by decide +kernel])
@[simp] theorem nin2_not : notInOp (.str "not") (.tup [.str "all", .str "some"]) = some (.s (.bl true)) := notIn_of inw2_not
@[simp] theorem inw2_count : inOp (.str "count") (.tup [.str "all", .str "some"]) = some (.s (.bl false)) := (in_ts (x := "count") (ys := ["all", "some"]) sk_count (fun y hy => by simp only [List.mem_cons, List.not_mem_nil, or_false] at hy; rcases hy with rfl | rfl; all_goals decide +kernel)).trans (by rw [show decide (("count" : Str) ∈ (["all", "some"] : List Str)) = false by decide +kernel])
@[simp] theorem nin2_count : notInOp (.str "count") (.tup [.str "all", .str "some"]) = some (.s (.bl true)) := notIn_of inw2_count
@[simp] theorem inw2_all : inOp (.str "all") (.tup [.str "all", .str "some"]) = some (.s (.bl true)) := (in_ts (x := "all") (ys := ["all", "some"]) sk_all (fun y hy => by simp only [List.mem_cons, List.not_mem_nil, or_false] at hy; rcases hy with rfl | rfl; all_goals decide +kernel)).trans (by rw [show decide (("all" : Str) ∈ (["all", "some"] : List Str)) = true by decide +kernel])
@[simp] theorem nin2_all : notInOp (.str "all") (.tup [.str "all", .str "some"]) = some (.s (.bl false)) := notIn_of inw2_all
@[simp] theorem inw2_some : inOp (.str "some") (.tup [.str "all", .str "some"]) = some (.s (.bl true)) := (in_ts (x := "some") (ys := ["all", "some"]) sk_some (fun y hy => by simp only [List.mem_cons, List.not_mem_nil, or_false] at hy; rcases hy with rfl | rfl; all_goals decide +kernel)).trans (by rw [show decide (("some" : Str) ∈ (["all", "some"] : List Str)) = true by decide +kernel])
@[simp] theorem nin2_some : notInOp (.str "some") (.tup [.str "all", .str "some"]) = some (.s (.bl false)) := notIn_of inw2_some
@[simp] theorem inw3_is : inOp (.str "is") (.tup [.str "all", .str "some", .str "count", .str "not"]) = some (.s (.bl false)) := (in_ts (x := "is") (ys := ["all", "some", "count", "not"]) sk_is (fun y hy => by simp only [List.mem_cons, List.not_mem_nil, or_false] at hy; rcases hy with rfl | rfl | rfl | rfl; all_goals decide +kernel)).trans (by rw [show decide (("is" : Str) ∈ (["all", "some", "count", "not"] : List Str)) = false by decide +kernel])
@[simp] theorem nin3_is : notInOp (.str "is") (.tup [.str "all", .str "some", .str "count", .str "not"]) = some (.s (.bl true)) := notIn_of inw3_is
@[simp] theorem inw3_among : inOp (.str "among") (.tup [.str "all", .str "some", .str "count", .str "not"]) = some (.s (.bl false)) := (in_ts (x := "among") (ys := ["all", "some", "count", "not"]) sk_among (fun y hy => by simp only [List.mem_cons, List.not_mem_nil, or_false] at hy; rcases hy with rfl | rfl | rfl | rfl; all_goals decide +kernel)).trans (by rw [show decide (("among" : Str) ∈ (["all", "some", "count", "not"] : List Str)) = false by decide +kernel])
@[simp] theorem nin3_among : notInOp (.str "among") (.tup [.str "all", .str "some", .str "count", .str "not"]) = some (.s (.bl true)) := notIn_of inw3_among
@[simp] theorem inw3_least : inOp (.str "least") (.tup [.str "all", .str "some", .str "count", .str "not"]) = some (.s (.bl false)) := (in_ts (x := "least") (ys := ["all", "some", "count", "not"]) sk_least (fun y hy => by simp only [List.mem_cons, List.not_mem_nil, or_false] at hy; rcases hy with rfl | rfl | rfl | rfl; all_goals decide +kernel)).trans (by rw [show decide (("least" : Str) ∈ (["all", "some", "count", "not"] : List Str)) = false by decide +kernel])
@[simp] theorem nin3_least : notInOp (.str "least") (.tup [.str "all", .str "some", .str "count", .str "not"]) = some (.s (.bl true)) := notIn_of inw3_least
@[simp] theorem inw3_most : inOp (.str "most") (.tup [.str "all", .str "some", .str "count", .str "not"]) = some (.s (.bl false)) := (in_ts (x := "most") (ys := ["all", "some", "count", "not"]) sk_most (fun y hy => by simp only [List.mem_cons, List.not_mem_nil, or_false] at hy; rcases hy with rfl | rfl | rfl | rfl; all_goals decide +kernel)).trans (by rw [show decide (("most" : Str) ∈ (["all", "some", "count", "not"] : List Str)) = false by decide +kernel])
@[simp] theorem nin3_most : notInOp (.str "most") (.tup [.str "all", .str "some", .str "count", .str "not"]) = some (.s (.bl true)) := notIn_of inw3_most
@[simp] theorem inw3_sum : inOp (.str "sum") (.tup [.str "all", .str "some", .str "count", .str "not"]) = some (.s (.bl false)) := (in_ts (x := "sum") (ys := ["all", "some", "count", "not"]) sk_sum (fun y hy => by simp only [List.mem_cons, List.not_mem_nil, or_false] at hy; rcases hy with rfl | rfl | rfl | rfl; all_goals decide +kernel)).trans (by rw [show decide (("sum" : Str) ∈ (["all", "some", "count", "not"] : List Str)) = false by decide +kernel])
@[simp] theorem nin3_sum : notInOp (.str "sum") (.tup [.str "all", .str "some", .str "count", .str "not"]) = some (.s (.bl true)) := notIn_of inw3_sum
@[simp] theorem inw3_not : inOp (.str "not") (.tup [.str "all", .str "some", .str "count", .str "not"]) = some (.s (.bl true)) := (in_ts (x := "not") (ys := ["all", "some", "count", "not"]) sk_not (fun y hy => by simp only [List.mem_cons, List.not_mem_nil, or_false] at hy; rcases hy with rfl | rfl | rfl | rfl; all_goals decide +kernel)).trans (by rw [show decide (("not" : Str) ∈ (["all", "some", "count", "not"] : List Str)) = true by decide +kernel])
@[simp] theorem nin3_not : notInOp (.str "not") (.tup [.str "all", .str "some", .str "count", .str "not"]) = some (.s (.bl false)) := notIn_of inw3_not
@[simp] theorem inw3_count : inOp (.str "count") (.tup [.str "all", .str "some", .str "count", .str "not"]) = some (.s (.bl true)) := (in_ts (x := "count") (ys := ["all", "some", "count", "not"]) sk_count (fun y hy => by simp only [List.mem_cons, List.not_mem_nil, or_false] at hy; rcases hy with rfl | rfl | rfl | rfl; all_goals decide +kernel)).trans (by rw [show decide (("count" : Str) ∈ (["all", "some", "count", "not"] : List Str)) = true by decide +kernel])
@[simp] theorem nin3_count : notInOp (.str "count") (.tup [.str "all", .str "some", .str "count", .str "not"]) = some (.s (.bl false)) := notIn_of inw3_count
@[simp] theorem inw3_all : inOp (.str "all") (.tup [.str "all", .str "some", .str "count", .str "not"]) = some (.s (.bl true)) := (in_ts (x := "all") (ys := ["all", "some", "count", "not"]) sk_all (fun y hy => by simp only [List.mem_cons, List.not_mem_nil, or_false] at hy; rcases hy with rfl | rfl | rfl | rfl; all_goals decide +kernel)).trans (by rw [show decide (("all" : Str) ∈ (["all", "some", "count", "not"] : List Str)) = true by decide +kernel])
@[simp] theorem nin3_all : notInOp (.str "all") (.tup [.str "all", .str "some", .str "count", .str "not"]) = some (.s (.bl false)) := notIn_of inw3_all
@[simp] theorem inw3_some : inOp (.str "some") (.tup [.str "all", .str "some", .str "count", .str "not"]) = some (.s (.bl true)) := (in_ts (x := "some") (ys := ["all", "some", "count", "not"]) sk_some (fun y hy => by simp only [List.mem_cons, List.not_mem_nil, or_false] at hy; rcases hy with rfl | rfl | rfl | rfl; all_goals decide +kernel)).trans (by rw [show decide (("some" : Str) ∈ (["all", "some", "count", "not"] : List Str)) = true by decide +kernel])
@[simp] theorem nin3_some : notInOp (.str "some") (.tup [.str "all", .str "some", .str "count", .str "not"]) = some (.s (.bl false)) := notIn_of inw3_some
@[simp] theorem inw4_is : inOp (.str "is") (.tup [.str "is", .str "among", .str "least", .str "most"]) = some (.s (.bl true)) := (in_ts (x := "is") (ys := ["is", "among", "least", "most"]) sk_is (fun y hy => by simp only [List.mem_cons, List.not_mem_nil, or_false] at hy; rcases hy with rfl | rfl | rfl | rfl; all_goals decide +kernel)).trans (by rw [show decide (("is" : Str) ∈ (["is", "among", "least", "most"] : List Str)) = true by decide +kernel])
@[simp] theorem nin4_is : notInOp (.str "is") (.tup [.str "is", .str "among", .str "least", .str "most"]) = some (.s (.bl false)) := notIn_of inw4_is
@[simp] theorem inw4_among : inOp (.str "among") (.tup [.str "is", .str "among", .str "least", .str "most"]) = some (.s (.bl true)) := (in_ts (x := "among") (ys := ["is", "among", "least", "most"]) sk_among (fun y hy => by simp only [List.mem_cons, List.not_mem_nil, or_false] at hy; rcases hy with rfl | rfl | rfl | rfl; all_goals decide +kernel)).trans (by rw [show decide (("among" : Str) ∈ (["is", "among", "least", "most"] : List Str)) = true by decide +kernel])
@[simp] theorem nin4_among : notInOp (.str "among") (.tup [.str "is", .str "among", .str "least", .str "most"]) = some (.s (.bl false)) := notIn_of inw4_among
@[simp] theorem inw4_least : inOp (.str "least") (.tup [.str "is", .str "among", .str "least", .str "most"]) = some (.s (.bl true)) := (in_ts (x := "least") (ys := ["is", "among", "least", "most"]) sk_least (fun y hy => by simp only [List.mem_cons, List.not_mem_nil, or_false] at hy; rcases hy with rfl | rfl | rfl | rfl; all_goals decide +kernel)).trans (by rw [show decide (("least" : Str) ∈ (["is", "among", "least", "most"] : List Str)) = true by decide +kernel])
@[simp] theorem nin4_least : notInOp (.str "least") (.tup [.str "is", .str "among", .str "least", .str "most"]) = some (.s (.bl false)) := notIn_of inw4_least
@[simp] theorem inw4_most : inOp (.str "most") (.tup [.str "is", .str "among", .str "least", .str "most"]) = some (.s (.bl true)) := (in_ts (x := "most") (ys := ["is", "among", "least", "most"]) sk_most (fun y hy => by simp only [List.mem_cons, List.not_mem_nil, or_false] at hy; rcases hy with rfl | rfl | rfl | rfl; all_goals decide +kernel)).trans (by rw [show decide (("most" : Str) ∈ (["is", "among", "least", "most"] : List Str)) = true by decide +kernel])
@[simp] theorem nin4_most : notInOp (.str "most") (.tup [.str "is", .str "among", .str "least", .str "most"]) = some (.s (.bl false)) := notIn_of inw4_most
@[simp] theorem inw4_sum : inOp (.str "sum") (.tup [.str "is", .str "among", .str "least", .str "most"]) = some (.s (.bl false)) := (in_ts (x := "sum") (ys := ["is", "among", "least", "most"]) sk_sum (fun y hy => by simp only [List.mem_cons, List.not_mem_nil, or_false] at hy; rcases hy with rfl | rfl | rfl | rfl; all_goals decide +kernel)).trans (by rw [show decide (("sum" : Str) ∈ (["is", "among", "least", "most"] : List Str)) = false by decide +kernel])
@[simp] theorem nin4_sum : notInOp (.str "sum") (.tup [.str "is", .str "among", .str "least", .str "most"]) = some (.s (.bl true)) := notIn_of inw4_sum
@[simp] theorem inw4_not : inOp (.str "not") (.tup [.str "is", .str "among", .str "least", .str "most"]) = some (.s (.bl false)) := (in_ts (x := "not") (ys := ["is", "among", "least", "most"]) sk_not (fun y hy => by simp only [List.mem_cons, List.not_mem_nil, or_false] at hy; rcases hy with rfl | rfl | rfl | rfl; all_goals decide +kernel)).trans (by rw [show decide (("not" : Str) ∈ (["is", "among", "least", "most"] : List Str)) = false by decide +kernel])
@[simp] theorem nin4_not : notInOp (.str "not") (.tup [.str "is", .str "among", .str "least", .str "most"]) = some (.s (.bl true)) := notIn_of inw4_not
@[simp] theorem inw4_count : inOp (.str "count") (.tup [.str "is", .str "among", .str "least", .str "most"]) = some (.s (.bl false)) := (in_ts (x := "count") (ys := ["is", "among", "least", "most"]) sk_count (fun y hy => by simp only [List.mem_cons, List.not_mem_nil, or_false] at hy; rcases hy with rfl | rfl | rfl | rfl; all_goals decide +kernel)).trans (by rw [show decide (("count" : Str) ∈ (["is", "among", "least", "most"] : List Str)) = false by decide +kernel])
@[simp] theorem nin4_count : notInOp (.str "count") (.tup [.str "is", .str "among", .str "least", .str "most"]) = some (.s (.bl true)) := notIn_of inw4_count
@[simp] theorem inw4_all : inOp (.str "all") (.tup [.str "is", .str "among", .str "least", .str "most"]) = some (.s (.bl false)) := (in_ts (x := "all") (ys := ["is", "among", "least", "most"]) sk_all (fun y hy => by simp only [List.mem_cons, List.not_mem_nil, or_false] at hy; rcases hy with rfl | rfl | rfl | rfl; all_goals decide +kernel)).trans (by rw [show decide (("all" : Str) ∈ (["is", "among", "least", "most"] : List Str)) = false by decide +kernel])
@[simp] theorem nin4_all : notInOp (.str "all") (.tup [.str "is", .str "among", .str "least", .str "most"]) = some (.s (.bl true)) := notIn_of inw4_all
@[simp] theorem inw4_some : inOp (.str "some") (.tup [.str "is", .str "among", .str "least", .str "most"]) = some (.s (.bl false)) := (in_ts (x := "some") (ys := ["is", "among", "least", "most"]) sk_some (fun y hy => by simp only [List.mem_cons, List.not_mem_nil, or_false] at hy; rcases hy with rfl | rfl | rfl | rfl; all_goals decide +kernel)).trans (by rw [show decide (("some" : Str) ∈ (["is", "among", "least", "most"] : List Str)) = false by decide +kernel])
@[simp] theorem nin4_some : notInOp (.str "some") (.tup [.str "is", .str "among", .str "least", .str "most"]) = some (.s (.bl true)) := notIn_of inw4_some
@[simp] theorem inw5_is : inOp (.str "is") (.lst [.str "is", .str "among", .str "least", .str "most"]) = some (.s (.bl true)) := (in_ls (x := "is") (ys := ["is", "among", "least", "most"]) sk_is (fun y hy => by simp only [List.mem_cons, List.not_mem_nil, or_false] at hy; rcases hy with rfl | rfl | rfl | rfl; all_goals decide +kernel)).trans (by rw [show decide (("is" : Str) ∈ (["is", "among", "least", "most"] : List Str)) = true by decide +kernel])
@[simp] theorem nin5_is : notInOp (.str "is") (.lst [.str "is", .str "among", .str "least", .str "most"]) = some (.s (.bl false)) := notIn_of inw5_is
@[simp] theorem inw5_among : inOp (.str "among") (.lst [.str "is", .str "among", .str "least", .str "most"]) = some (.s (.bl true)) := (in_ls (x := "among") (ys := ["is", "among", "least", "most"]) sk_among (fun y hy => by simp only [List.mem_cons, List.not_mem_nil, or_false] at hy; rcases hy with rfl | rfl | rfl | rfl; all_goals decide +kernel)).trans (by rw [show decide (("among" : Str) ∈ (["is", "among", "least", "most"] : List Str)) = true by decide +kernel])
@[simp] theorem nin5_among : notInOp (.str "among") (.lst [.str "is", .str "among", .str "least", .str "most"]) = some (.s (.bl false)) := notIn_of inw5_among
@[simp] theorem inw5_least : inOp (.str "least") (.lst [.str "is", .str "among", .str "least", .str "most"]) = some (.s (.bl true)) := (in_ls (x := "least") (ys := ["is", "among", "least", "most"]) sk_least (fun y hy => by simp only [List.mem_cons, List.not_mem_nil, or_false] at hy; rcases hy with rfl | rfl | rfl | rfl; all_goals decide +kernel)).trans (by rw [show decide (("least" : Str) ∈ (["is", "among", "least", "most"] : List Str)) = true by decide +kernel])
@[simp] theorem nin5_least : notInOp (.str "least") (.lst [.str "is", .str "among", .str "least", .str "most"]) = some (.s (.bl false)) := notIn_of inw5_least
@[simp] theorem inw5_most : inOp (.str "most") (.lst [.str "is", .str "among", .str "least", .str "most"]) = some (.s (.bl true)) := (in_ls (x := "most") (ys := ["is", "among", "least", "most"]) sk_most (fun y hy => by simp only [List.mem_cons, List.not_mem_nil, or_false] at hy; rcases hy with rfl | rfl | rfl | rfl; all_goals decide +kernel)).trans (by rw [show decide (("most" : Str) ∈ (["is", "among", "least", "most"] : List Str)) = true by decide +kernel])
@[simp] theorem nin5_most : notInOp (.str "most") (.lst [.str "is", .str "among", .str "least", .str "most"]) = some (.s (.bl false)) := notIn_of inw5_most
@[simp] theorem inw5_sum : inOp (.str "sum") (.lst [.str "is", .str "among", .str "least", .str "most"]) = some (.s (.bl false)) := (in_ls (x := "sum") (ys := ["is", "among", "least", "most"]) sk_sum (fun y hy => by simp only [List.mem_cons, List.not_mem_nil, or_false] at hy; rcases hy with rfl | rfl | rfl | rfl; all_goals decide +kernel)).trans (by rw [show decide (("sum" : Str) ∈ (["is", "among", "least", "most"] : List Str)) = false by decide +kernel])
@[simp] theorem nin5_sum : notInOp (.str "sum") (.lst [.str "is", .str "among", .str "least", .str "most"]) = some (.s (.bl true)) := notIn_of inw5_sum
@[simp] theorem inw5_not : inOp (.str "not") (.lst [.str "is", .str "among", .str "least", .str "most"]) = some (.s (.bl false)) := (in_ls (x := "not") (ys := ["is", "among", "least", "most"]) sk_not (fun y hy => by simp only [List.mem_cons, List.not_mem_nil, or_false] at hy; rcases hy with rfl | rfl | rfl | rfl; all_goals decide +kernel)).trans (by rw [show decide (("not" : Str) ∈ (["is", "among", "least", "most"] : List Str)) = false by decide +kernel])
@[simp] theorem nin5_not : notInOp (.str "not") (.lst [.str "is", .str "among", .str "least", .str "most"]) = some (.s (.bl true)) := notIn_of inw5_not
@[simp] theorem inw5_count : inOp (.str "count") (.lst [.str "is", .str "among", .str "least", .str "most"]) = some (.s (.bl false)) := (in_ls (x := "count") (ys := ["is", "among", "least", "most"]) sk_count (fun y hy => by simp only [List.mem_cons, List.not_mem_nil, or_false] at hy; rcases hy with rfl | rfl | rfl | rfl; all_goals decide +kernel)).trans (by rw [show decide (("count" : Str) ∈ (["is", "among", "least", "most"] : List Str)) = false by decide +kernel])
@[simp] theorem nin5_count : notInOp (.str "count") (.lst [.str "is", .str "among", .str "least", .str "most"]) = some (.s (.bl true)) := notIn_of inw5_count
@[simp] theorem inw5_all : inOp (.str "all") (.lst [.str "is", .str "among", .str "least", .str "most"]) = some (.s (.bl false)) := (in_ls (x := "all") (ys := ["is", "among", "least", "most"]) sk_all (fun y hy => by simp only [List.mem_cons, List.not_mem_nil, or_false] at hy; rcases hy with rfl | rfl | rfl | rfl; all_goals decide +kernel)).trans (by rw [show decide (("all" : Str) ∈ (["is", "among", "least", "most"] : List Str)) = false by decide +kernel])
@[simp] theorem nin5_all : notInOp (.str "all") (.lst [.str "is", .str "among", .str "least", .str "most"]) = some (.s (.bl true)) := notIn_of inw5_all
@[simp] theorem inw5_some : inOp (.str "some") (.lst [.str "is", .str "among", .str "least", .str "most"]) = some (.s (.bl false)) := (in_ls (x := "some") (ys := ["is", "among", "least", "most"]) sk_some (fun y hy => by simp only [List.mem_cons, List.not_mem_nil, or_false] at hy; rcases hy with rfl | rfl | rfl | rfl; all_goals decide +kernel)).trans (by rw [show decide (("some" : Str) ∈ (["is", "among", "least", "most"] : List Str)) = false by decide +kernel])
@[simp] theorem nin5_some : notInOp (.str "some") (.lst [.str "is", .str "among", .str "least", .str "most"]) = some (.s (.bl true)) := notIn_of inw5_some
section
variable {x y z u : D} {l : List D}
@[simp] theorem atl_0 : atI (x :: l) 0 = some x := by simp [atI, ixN]
@[simp] theorem atl_1 : atI (x :: y :: l) 1 = some y := by
  have : (1 : Int) < ((l.length : Int) + 1 + 1) := by omega
  simp [atI, ixN, this]
@[simp] theorem atl_2 : atI (x :: y :: z :: l) 2 = some z := by
  have : (2 : Int) < ((l.length : Int) + 1 + 1 + 1) := by omega
  simp [atI, ixN, this]
end
end Den

namespace Den
open PySem PySem.Spec PyProof.Rows L2
/-! fields, values, conditions as plain data -/
inductive Val where
  | s (x : Str) | i (z : Int)
  deriving DecidableEq
def Val.d : Val → D
  | .s x => .str x
  | .i z => .int z
inductive Dom where
  | ch (ns : List Str) | nu (lo hi : Int)
def Dom.d : Dom → D
  | .ch ns => .tup [.str "choice", .set (ns.map D.str)]
  | .nu lo hi => .tup [.str "number", .int lo, .int hi]
def Dom.has : Dom → Val → Prop
  | .ch ns, .s x => x ∈ ns
  | .nu lo hi, .i z => lo ≤ z ∧ z ≤ hi
  | _, _ => False
def Dom.vals : Dom → List Val
  | .ch ns => ns.map .s
  | .nu lo hi => (List.range (hi + 1 - lo).toNat).map fun k => .i (lo + (k : Nat))
/-- at most w values -/
def Dom.ok (w : Nat) : Dom → Prop
  | .ch ns => 0 < ns.length ∧ ns.length ≤ 4 ∧ ∀ n ∈ ns, PyData.strOk n = true
  | .nu lo hi => lo ≤ hi ∧ hi < lo + w ∧ -100 ≤ lo ∧ lo ≤ 100
abbrev Fld := Str × Dom
def fD (f : Fld) : D := .tup [.str f.1, f.2.d]
abbrev fsD (fs : List Fld) : D := .lst (fs.map fD)
structure FOk (m w : Nat) (fs : List Fld) : Prop where
  pos : 0 < fs.length
  few : fs.length ≤ m
  nd : (fs.map (·.1)).Nodup
  nm : ∀ f ∈ fs, PyData.strOk f.1 = true
  dm : ∀ f ∈ fs, f.2.ok w
theorem Dom.vals_has {d : Dom} {v : Val} : v ∈ d.vals ↔ d.has v := by
  cases d with
  | ch ns => cases v <;> simp [Dom.vals, Dom.has]
  | nu lo hi =>
    cases v with
    | s x => simp [Dom.vals, Dom.has]
    | i z =>
      simp only [Dom.vals, Dom.has, List.mem_map, List.mem_range, Val.i.injEq]
      constructor
      · rintro ⟨k, h1, rfl⟩; omega
      · rintro ⟨h1, h2⟩; exact ⟨(z - lo).toNat, by omega, by omega⟩
theorem Dom.vals_len {w : Nat} {d : Dom} (h : d.ok w) : 0 < d.vals.length ∧ d.vals.length ≤ max 4 w := by
  cases d with
  | ch ns => simp only [Dom.vals, List.length_map]; exact ⟨h.1, by have := h.2.1; omega⟩
  | nu lo hi => simp only [Dom.vals, List.length_map, List.length_range]; obtain ⟨h1, h2, _, _⟩ := h; omega
variable {Q : DV → List (Sh × D) → Prop} {X : Exn → List (Sh × D) → Prop}
@[simp] theorem Val.d_scal {v : Val} : v.d.scal = true := by cases v <;> rfl
@[simp] theorem item_val {a : DV} {v : Val} : itemMd a v.d = (.sh .im, v.d) := by cases v <;> simp [Val.d]
theorem e_whole_w {s : Sh} {v : Val} (h : Q (.sh .im, .bl (match v with | .i _ => true | .s _ => false)) [(s, v.d)]) : wF dp_is_whole Q X [(s, v.d)] := by
  unfold dp_is_whole; rw [wF_fn_z]; unfold bp_is_whole
  cases v <;> (simp [Val.d]; exact h)
def placeV : Dom → Val → Option Int
  | .ch ns, .s x => (firstS x ns).map fun j => (j : Int)
  | .nu lo hi, .i z => if lo ≤ z ∧ z ≤ hi then some (z - lo) else none
  | _, _ => none
def optI : Option Int → D
  | none => .non
  | some z => .int z
theorem placeV_has {d : Dom} {v : Val} (h : d.has v) : ∃ z, placeV d v = some z := by
  cases d <;> cases v <;> simp only [Dom.has] at h
  · obtain ⟨j, h1, _⟩ := firstS_mem h
    exact ⟨j, by simp [placeV, h1]⟩
  · exact ⟨_, if_pos h⟩
theorem firstS_none {z : Str} : ∀ {ys : List Str}, z ∉ ys → firstS z ys = none
  | [], _ => rfl
  | y :: ys, h => by
    unfold firstS
    rw [if_neg (fun e => h (by simp [e])), firstS_none (fun e => h (by simp [e]))]; rfl
def Val.ok : Val → Prop
  | .s x => PyData.strOk x = true
  | .i _ => True
theorem place_w {w : Nat} {dm : Dom} {v : Val} (hd : dm.ok w) (hv : v.ok) (h : Q (.sh .im, optI (placeV dm v)) [(.im, dm.d), (.im, v.d)]) : wF dp_place_in Q X [(.im, dm.d), (.im, v.d)] := by
  unfold dp_place_in; rw [wF_fn_z]; unfold bp_place_in
  cases dm with
  | ch ns =>
    cases v with
    | s x =>
      simp [Dom.d, Val.d, in_xs hv hd.2.2]
      by_cases hx : x ∈ ns
      · obtain ⟨j, h1, _⟩ := firstS_mem hx
        simp [hx, h1]
        simpa [Dom.d, Val.d, placeV, h1, optI] using h
      · simp [hx]
        simpa [Dom.d, Val.d, placeV, firstS_none hx, optI] using h
    | i z =>
      simp [Dom.d, Val.d]
      simpa [Dom.d, Val.d, placeV, optI] using h
  | nu lo hi =>
    cases v with
    | s x =>
      simp [Dom.d, Val.d]
      refine e_whole_w (v := .s x) ?_
      simp
      simpa [Dom.d, Val.d, placeV, optI] using h
    | i z =>
      simp [Dom.d, Val.d]
      refine e_whole_w (v := .i z) ?_
      simp
      by_cases h1 : lo ≤ z
      · by_cases h2 : z ≤ hi
        · simp [h1, h2]
          simpa [Dom.d, Val.d, placeV, optI, h1, h2] using h
        · simp [h1, h2]
          simpa [Dom.d, Val.d, placeV, optI, h1, h2] using h
      · simp [h1]
        simpa [Dom.d, Val.d, placeV, optI, h1] using h
end Den

set_option maxHeartbeats 1000000
namespace Den
open PySem PySem.Spec PyProof.Rows L2
/-! sheets -/
abbrev Al := List (Str × Val)
def shK (al : Al) : List (D × D) := al.map fun p => (.str p.1, p.2.d)
abbrev shD (al : Al) : D := .dic (shK al)
def getA (al : Al) (n : Str) : Option Val := (al.find? fun p => decide (p.1 = n)).map (·.2)
theorem getK_sh {n : Str} : ∀ {al : Al}, getK (shK al) (.str n) = (getA al n).map Val.d
  | [] => rfl
  | p :: al => by
    have ih := getK_sh (n := n) (al := al)
    unfold getK getA shK at ih ⊢
    rw [List.map_cons, List.find?_cons, List.find?_cons]
    have hk : keyEq (D.str p.1) (.str n) = decide (p.1 = n) := rfl
    have hk2 : keyEq (D.str n) (.str n) = true := decide_eq_true rfl
    by_cases h : p.1 = n
    · simp [hk2, h]
    · simp [hk, h]; simpa using ih
def domK (fs : List Fld) : List (D × D) := fs.map fun f => (.str f.1, f.2.d)
def getF (fs : List Fld) (n : Str) : Option Dom := (fs.find? fun p => decide (p.1 = n)).map (·.2)
theorem getK_dom {n : Str} : ∀ {fs : List Fld}, getK (domK fs) (.str n) = (getF fs n).map Dom.d
  | [] => rfl
  | p :: al => by
    have ih := getK_dom (n := n) (fs := al)
    unfold getK getF domK at ih ⊢
    rw [List.map_cons, List.find?_cons, List.find?_cons]
    have hk : keyEq (D.str p.1) (.str n) = decide (p.1 = n) := rfl
    have hk2 : keyEq (D.str n) (.str n) = true := decide_eq_true rfl
    by_cases h : p.1 = n
    · simp [hk2, h]
    · simp [hk, h]; simpa using ih
theorem find_nd {β : Type} {n : Str} {v : β} : ∀ {l : List (Str × β)}, (l.map (·.1)).Nodup → (n, v) ∈ l → (l.find? fun p => decide (p.1 = n)).map (·.2) = some v
  | p :: l, nd, h => by
    rw [List.map_cons, List.nodup_cons] at nd
    rw [List.find?_cons]
    rcases List.mem_cons.1 h with rfl | h
    · simp
    · have : p.1 ≠ n := fun e => nd.1 (by rw [e]; exact List.mem_map.2 ⟨_, h, rfl⟩)
      simp [this]
      have := find_nd (n := n) (v := v) nd.2 h
      simpa using this
theorem getF_mem {fs : List Fld} (nd : (fs.map (·.1)).Nodup) {f : Fld} (h : f ∈ fs) : getF fs f.1 = some f.2 := find_nd nd h
structure ShOk (fs : List Fld) (al : Al) : Prop where
  keys : al.map (·.1) = fs.map (·.1)
  has : ∀ f ∈ fs, ∃ v, getA al f.1 = some v ∧ f.2.has v
theorem pairs_fs : ∀ {fs : List Fld}, pairsOf (fs.map fD) = some (domK fs)
  | [] => rfl
  | f :: fs => by
    rw [List.map_cons]; unfold pairsOf
    rw [pairs_fs]; rfl
theorem putD_new {kds : List (D × D)} {n : Str} {d : D} (h : ∀ p ∈ kds, keyEq p.1 (.str n) = false) : putD kds (.str n) d = kds ++ [(.str n, d)] := by
  unfold putD
  rw [if_neg]
  rw [List.any_eq_true]
  rintro ⟨p, hp, e⟩
  rw [h p hp] at e; cases e
theorem mergeD_nd {more : List (D × D)} : ∀ (kds : List (D × D)) (ns ms : List Str), kds.map (·.1) = ms.map D.str → more.map (·.1) = ns.map D.str → (ms ++ ns).Nodup → mergeD kds more = kds ++ more := by
  induction more with
  | nil => intro kds ns ms _ _ _; simp [mergeD]
  | cons m more ih =>
    intro kds ns ms h1 h2 nd
    cases ns with
    | nil => simp at h2
    | cons n ns =>
      simp only [List.map_cons, List.cons.injEq] at h2
      have hm : m = (.str n, m.2) := by rw [← h2.1]
      have e : putD kds m.1 m.2 = kds ++ [m] := by
        rw [h2.1, putD_new, ← hm]
        intro p hp
        have : p.1 ∈ ms.map D.str := by rw [← h1]; exact List.mem_map.2 ⟨p, hp, rfl⟩
        obtain ⟨x, hx, hxe⟩ := List.mem_map.1 this
        rw [← hxe]
        show decide (x = n) = false
        rw [decide_eq_false_iff_not]; rintro rfl
        rw [List.nodup_append] at nd
        exact nd.2.2 x hx x (by simp) rfl
      show mergeD (putD kds m.1 m.2) more = _
      rw [e, ih (kds ++ [m]) ns (ms ++ [n]) (by rw [List.map_append, h1, List.map_append]; simp [h2.1]) h2.2 (by simpa using nd)]
      simp
theorem merge_fs {fs : List Fld} (nd : (fs.map (·.1)).Nodup) : mergeD [] (domK fs) = domK fs := by
  have := mergeD_nd (more := domK fs) [] (fs.map (·.1)) [] rfl (by simp [domK]) (by simpa using nd)
  simpa using this
theorem dict_fs {fs : List Fld} (nd : (fs.map (·.1)).Nodup) : dictAOp [fsD fs] = some (.k (domK fs)) := by
  show (pairsOf (fs.map fD)).map _ = _
  rw [pairs_fs]
  have := mergeD_nd (more := domK fs) [] (fs.map (·.1)) [] rfl (by simp [domK]) (by simpa using nd)
  simp [this]
theorem keysS_sh : ∀ {al : Al}, keysS (shK al) = some (al.map (·.1))
  | [] => rfl
  | p :: al => by
    show (keysS (shK al)).map _ = _
    rw [keysS_sh]; rfl
theorem sorted_sh {al : Al} (h : al.length < 64) : sortedAOp [shD al] = some (.l ((sSort (al.map (·.1))).map D.str)) := by
  show (match keysS (shK al) with | some ks => if ks.length < 64 then some (OR.l ((sSort ks).map D.str)) else none | none => none) = _
  rw [keysS_sh]
  simp [h]
theorem Dom.has_ok {w : Nat} {d : Dom} {v : Val} (h : d.ok w) (hv : d.has v) : v.ok := by
  cases d <;> cases v <;> simp only [Dom.has] at hv
  · exact h.2.2 _ hv
  · trivial
variable {Q : DV → List (Sh × D) → Prop} {X : Exn → List (Sh × D) → Prop}
theorem isOp_opt {z : Int} : isOp (.int z) .non = some (.s (.bl false)) := by simp [isOp, isD]
theorem need_sheet_w {m w : Nat} {fs : List Fld} {al : Al} {s s' : Sh} (hf : FOk m w fs) (hm : m ≤ 60) (ha : ShOk fs al) (h : Q (.sh .im, .non) [(.im, fsD fs), (.im, shD al)]) : wF dp_need_sheet Q X [(s, fsD fs), (s', shD al)] := by
  have hl : al.length < 64 := by
    have := congrArg List.length ha.keys
    simp at this; have := hf.few; omega
  have e1 : notInOp (.str "") (.str "") = notInOp (.str "") (.str "") := rfl
  unfold dp_need_sheet; rw [wF_fn_z]; unfold bp_need_sheet
  refine seq_op (fun ρ => ρ = [some (.im, fsD fs), some (s', shD al), some (.ow .im, .dic (domK fs)), none, none, none]) (fun I hI => ?_) ?_
  · simp [fsD, pairs_fs, merge_fs hf.nd]; exact hI _ rfl
  rintro _ rfl
  refine seq_op (fun ρ => ∃ x y, ρ = [some (.im, fsD fs), some (s', shD al), some (.ow .im, .dic (domK fs)), x, y, none]) (fun I hI => ?_) ?_
  · simp [fsD]
    refine loop_inv (I := fun _ ρ => ∃ x y, ρ = [some (.im, fsD fs), some (s', shD al), some (.ow .im, .dic (domK fs)), x, y, none]) ⟨_, _, rfl⟩ ?_ ?_
    · rintro k d ρ hk ⟨x, y, rfl⟩
      obtain ⟨f, hf1, rfl⟩ := List.mem_map.1 (List.mem_of_getElem? hk)
      obtain ⟨v, hv, _⟩ := ha.has f hf1
      simp [fD, shD, getK_sh, hv]
    · rintro ρ ⟨x, y, rfl⟩; exact hI _ ⟨_, _, rfl⟩
  rintro _ ⟨x, y, rfl⟩
  refine seq_op (fun ρ => ∃ x y, ρ = [some (.im, fsD fs), some (.im, shD al), some (.ow .im, .dic (domK fs)), x, y, none]) (fun I hI => ?_) ?_
  · have := sorted_sh hl
    simp [shD] at this
    simp [shD, this]
    refine loop_inv (I := fun _ ρ => ∃ x y, ρ = [some (.im, fsD fs), some (.im, shD al), some (.ow .im, .dic (domK fs)), x, y, none]) ⟨_, _, rfl⟩ ?_ ?_
    · rintro k d ρ hk ⟨x, y, rfl⟩
      obtain ⟨n, hn, rfl⟩ := List.mem_map.1 (List.mem_of_getElem? hk)
      rw [sSort_mem, ha.keys] at hn
      obtain ⟨f, hf1, rfl⟩ := List.mem_map.1 hn
      simp [getK_dom, getF_mem hf.nd hf1]
    · rintro ρ ⟨x, y, rfl⟩; exact hI _ ⟨_, _, rfl⟩
  rintro _ ⟨x, y, rfl⟩
  simp [fsD]
  refine loop_inv (I := fun _ ρ => ∃ x y z, ρ = [some (.im, fsD fs), some (.im, shD al), some (.ow .im, .dic (domK fs)), x, y, z]) ⟨_, _, _, rfl⟩ ?_ ?_
  · rintro k d ρ hk ⟨x, y, z, rfl⟩
    obtain ⟨f, hf1, rfl⟩ := List.mem_map.1 (List.mem_of_getElem? hk)
    obtain ⟨v, hv, hd⟩ := ha.has f hf1
    obtain ⟨p, hp⟩ := placeV_has hd
    simp [fD, shD, getK_sh, hv]
    refine place_w (hf.dm f hf1) (Dom.has_ok (hf.dm f hf1) hd) ?_
    simp [hp, optI, isOp_opt]
  · rintro ρ ⟨x, y, z, rfl⟩
    simp
    exact h
end Den

set_option maxHeartbeats 1000000
namespace Den
open PySem PySem.Spec PyProof.Rows L2
/-! conditions -/
inductive Cond where
  | bl (b : Bool) | is (n : Str) (v : Val) | among (n : Str) (vs : List Val) | least (n : Str) (k : Int) | most (n : Str) (k : Int)
  | sum (ts : List (Int × Str)) (k : Int) | nots (c : Cond) | count (k : Int) (cs : List Cond) | alls (cs : List Cond) | anys (cs : List Cond)
def trD (t : Int × Str) : D := .tup [.int t.1, .str t.2]
mutual
def Cond.d : Cond → D
  | .bl b => .bl b
  | .is n v => .tup [.str "is", .str n, v.d]
  | .among n vs => .tup [.str "among", .str n, .tup (vs.map Val.d)]
  | .least n k => .tup [.str "least", .str n, .int k]
  | .most n k => .tup [.str "most", .str n, .int k]
  | .sum ts k => .tup [.str "sum", .tup (ts.map trD), .int k]
  | .nots c => .tup [.str "not", Cond.d c]
  | .count k cs => .tup [.str "count", .int k, .tup (Cond.ds cs)]
  | .alls cs => .tup [.str "all", .tup (Cond.ds cs)]
  | .anys cs => .tup [.str "some", .tup (Cond.ds cs)]
def Cond.ds : List Cond → List D
  | [] => []
  | c :: cs => Cond.d c :: Cond.ds cs
end
theorem Cond.ds_map : ∀ cs : List Cond, Cond.ds cs = cs.map Cond.d
  | [] => by simp [Cond.ds]
  | c :: cs => by rw [Cond.ds, Cond.ds_map cs]; rfl
def Cond.ok (fs : List Fld) : Nat → Cond → Prop
  | _, .bl _ => True
  | _, .is n v => ∃ d, (n, d) ∈ fs ∧ d.has v
  | _, .among n vs => ∃ d, (n, d) ∈ fs ∧ vs.length ≤ 100 ∧ ∀ v ∈ vs, d.has v
  | _, .least n _ => ∃ lo hi, (n, .nu lo hi) ∈ fs
  | _, .most n _ => ∃ lo hi, (n, .nu lo hi) ∈ fs
  | _, .sum ts _ => ts.length ≤ fs.length ∧ (ts.map (·.2)).Nodup ∧ ∀ t ∈ ts, (-10 ≤ t.1 ∧ t.1 ≤ 10) ∧ ∃ lo hi, (t.2, .nu lo hi) ∈ fs
  | 0, _ => False
  | k + 1, .nots c => Cond.ok fs k c
  | k + 1, .count _ cs => cs.length ≤ 10 ∧ ∀ c ∈ cs, Cond.ok fs k c
  | k + 1, .alls cs => cs.length ≤ 10 ∧ ∀ c ∈ cs, Cond.ok fs k c
  | k + 1, .anys cs => cs.length ≤ 10 ∧ ∀ c ∈ cs, Cond.ok fs k c
def intA (al : Al) (n : Str) : Int := match getA al n with
  | some (.i z) => z
  | _ => 0
mutual
def Cond.ev (al : Al) : Cond → Bool
  | .bl b => b
  | .is n v => decide (getA al n = some v)
  | .among n vs => match getA al n with
    | some v => decide (v ∈ vs)
    | none => false
  | .least n k => decide (k ≤ intA al n)
  | .most n k => decide (intA al n ≤ k)
  | .sum ts k => decide (k ≤ (ts.map fun t => t.1 * intA al t.2).sum)
  | .nots c => !Cond.ev al c
  | .count k cs => decide (k ≤ (Cond.evN al cs : Int))
  | .alls cs => decide (Cond.evN al cs = cs.length)
  | .anys cs => decide (0 < Cond.evN al cs)
def Cond.evN (al : Al) : List Cond → Nat
  | [] => 0
  | c :: cs => (if Cond.ev al c = true then 1 else 0) + Cond.evN al cs
end
theorem evN_app {al : Al} : ∀ {xs ys : List Cond}, Cond.evN al (xs ++ ys) = Cond.evN al xs + Cond.evN al ys
  | [], ys => by simp [Cond.evN]
  | x :: xs, ys => by rw [List.cons_append, Cond.evN, Cond.evN, evN_app]; omega
theorem evN_take {al : Al} {cs : List Cond} {j : Nat} {c : Cond} (h : cs[j]? = some c) : Cond.evN al (cs.take (j + 1)) = Cond.evN al (cs.take j) + if Cond.ev al c = true then 1 else 0 := by
  rw [List.take_add_one, h, evN_app]; simp [Cond.evN]
theorem beq_val {v w : Val} : D.beq v.d w.d = decide (v = w) := by
  cases v <;> cases w
  · rename_i x y
    show (x == y) = _
    by_cases h : x = y <;> simp [h]
  · rfl
  · rfl
  · rename_i x y
    show (x == y) = _
    by_cases h : x = y <;> simp [h]
theorem shp_val {v : Val} (h : v.ok) {n : Nat} : D.shp n v.d = true := by
  cases v with
  | s x => cases n <;> exact h
  | i z => cases n <;> rfl
theorem eq_val {v w : Val} (hv : v.ok) (hw : w.ok) : eqOp v.d w.d = some (.s (.bl (decide (v = w)))) := by
  unfold eqOp eqOk
  rw [shp_val hv, shp_val hw, beq_val]; simp
theorem shps_val {n : Nat} : ∀ {vs : List Val}, (∀ v ∈ vs, v.ok) → D.shps n (vs.map Val.d) = true
  | [], _ => by cases n <;> rfl
  | v :: vs, h => by
    rw [List.map_cons]; unfold D.shps
    rw [shps_val fun w hw => h w (List.mem_cons_of_mem _ hw), shp_val (h v (List.mem_cons_self ..))]; rfl
theorem mem_val {v : Val} : ∀ {vs : List Val}, D.mem v.d (vs.map Val.d) = decide (v ∈ vs)
  | [] => by simp [D.mem]
  | w :: vs => by
    have ih := mem_val (v := v) (vs := vs)
    unfold D.mem at ih ⊢
    rw [List.map_cons, List.any_cons, ih, beq_val]
    by_cases h : w = v
    · simp [h]
    · have : ¬ v = w := fun e => h e.symm
      simp [h, this]
theorem in_val {v : Val} {vs : List Val} (hv : v.ok) (hs : ∀ v ∈ vs, v.ok) : inOp v.d (.tup (vs.map Val.d)) = some (.s (.bl (decide (v ∈ vs)))) := by
  unfold inOp
  have : inD v.d (.tup (vs.map Val.d)) = if (D.shp 60 v.d && D.shps 60 (vs.map Val.d)) = true then some (D.mem v.d (vs.map Val.d)) else none := by
    cases v <;> rfl
  rw [this, shp_val hv, shps_val hs, mem_val]; rfl
def isO (s : Sh) : Prop := s = .im ∨ s = .ow .im
@[simp] theorem isO_im : isO .im := .inl rfl
@[simp] theorem isO_ow : isO (.ow .im) := .inr rfl
variable {Q : DV → List (Sh × D) → Prop} {X : Exn → List (Sh × D) → Prop}
abbrev domD (fs : List Fld) : D := .dic (domK fs)
theorem domain_w {m w : Nat} {fs : List Fld} (hf : FOk m w fs) {s : Sh} (hs : isO s) {n : Str} {d : Dom} (hm : (n, d) ∈ fs) (h : Q (.sh .im, d.d) [(.im, domD fs), (.im, .str n)]) : wF dp_domain_of Q X [(s, domD fs), (.im, .str n)] := by
  unfold dp_domain_of; rw [wF_fn_z]; unfold bp_domain_of
  have e := getF_mem hf.nd hm
  simp at e
  rcases hs with rfl | rfl <;> (simp [getK_dom, e]; exact h)
theorem need_number_w {m w : Nat} {fs : List Fld} (hf : FOk m w fs) {s : Sh} (hs : isO s) {n : Str} {lo hi : Int} (hm : (n, .nu lo hi) ∈ fs) (h : Q (.sh .im, (Dom.nu lo hi).d) [(.im, domD fs), (.im, .str n)]) : wF dp_need_number Q X [(s, domD fs), (.im, .str n)] := by
  unfold dp_need_number; rw [wF_fn_z]; unfold bp_need_number
  rcases hs with rfl | rfl
  all_goals
    simp
    first | refine domain_w hf (.inl rfl) hm ?_ | refine domain_w hf (.inr rfl) hm ?_
    simp [Dom.d]
    exact h
theorem size_w {lo hi : Int} (h : Q (.sh .im, .int (hi - lo + 1)) [(.im, (Dom.nu lo hi).d)]) : wF dp_size Q X [(.im, (Dom.nu lo hi).d)] := by
  unfold dp_size; rw [wF_fn_z]; unfold bp_size
  simp [Dom.d]; exact h
def Cond.parts : Cond → List Cond
  | .nots c => [c]
  | .count _ cs => cs
  | .alls cs => cs
  | .anys cs => cs
  | _ => []
def Cond.deep : Cond → Bool
  | .nots _ => true
  | .count _ _ => true
  | .alls _ => true
  | .anys _ => true
  | _ => false
theorem parts_w {c : Cond} (hc : c.deep = true) (h : Q (.sh .im, .tup (c.parts.map Cond.d)) [(.im, c.d)]) : wF dp_parts_of Q X [(.im, c.d)] := by
  unfold dp_parts_of; rw [wF_fn_z]; unfold bp_parts_of
  cases c <;> simp [Cond.deep] at hc <;> (simp [Cond.d, sizeLine]; simpa [Cond.d, Cond.parts, Cond.ds_map] using h)
theorem parts_ok {fs : List Fld} {k : Nat} {c : Cond} (hc : c.deep = true) (h : c.ok fs k) : ∃ j, k = j + 1 ∧ c.parts.length ≤ 10 ∧ ∀ x ∈ c.parts, x.ok fs j := by
  cases k with
  | zero => cases c <;> simp [Cond.deep] at hc <;> exact h.elim
  | succ j => cases c <;> simp [Cond.deep] at hc <;> refine ⟨j, rfl, ?_⟩
              · exact ⟨by simp [Cond.parts], fun x hx => by simp [Cond.parts] at hx; rw [hx]; exact h⟩
              · exact h
              · exact h
              · exact h
@[simp] theorem cut23 {a b c : D} : Den.cutD [a, b, c] (some 2) (some 3) = [c] := id rfl
@[simp] theorem leS {n : Nat} : (n ≤ sizeLine) = (n ≤ 16777216) := id rfl
@[simp] theorem ltS {n : Nat} : (n < sizeLine) = (n < 16777216) := id rfl
@[simp] theorem isOp_in {z : Int} : isOp (.int z) .non = some (.s (.bl false)) := isOp_opt
theorem need_part_w {m w : Nat} {fs : List Fld} (hf : FOk m w fs) (hw : w ≤ 40) {k : Nat} {c : Cond} (hc : c.ok fs k) (hd : ∀ b, c ≠ .bl b)
    (ih : ∀ (c : Cond) (j : Nat), k = j + 1 → c.ok fs j → ∀ {s : Sh}, isO s → ∀ {Q : DV → List (Sh × D) → Prop} {X : Exn → List (Sh × D) → Prop}, (∀ s, isO s → Q (.sh .im, .non) [(s, domD fs), (.im, c.d)]) → wF (dp_need_all k) Q X [(s, domD fs), (.im, c.d)])
    {s : Sh} (hs : isO s) (h : ∀ s, isO s → Q (.sh .im, .non) [(s, domD fs), (.im, c.d)]) : wF (dp_need_part (dp_need_all k)) Q X [(s, domD fs), (.im, c.d)] := by
  unfold dp_need_part; rw [wF_fn_z]; unfold bp_need_part
  have deep : ∀ (cs : List Cond) (D0 : D) (w0 : Slot), (∀ x ∈ cs, ∀ {s : Sh}, isO s → ∀ {Q : DV → List (Sh × D) → Prop} {X : Exn → List (Sh × D) → Prop}, (∀ s, isO s → Q (.sh .im, .non) [(s, domD fs), (.im, x.d)]) → wF (dp_need_all k) Q X [(s, domD fs), (.im, x.d)]) →
      ∀ {N : Rho → Prop} {T : Rho → DV → Prop} {B C : Rho → Prop} {X : Rho → Exn → Prop} {s : Sh} {x3 x4 x5 x6 x7 : Slot}, isO s → (∀ s x5, isO s → N [some (s, domD fs), some (.im, D0), w0, x3, x4, x5, x6, x7]) →
      wS (loopF (gSet 5) (sExpr (dCallF 2 (dp_need_all k) (dAsV 0 (dAsV 5 dAsNil)))) (cs.map Cond.d)) N T B C X [some (s, domD fs), some (.im, D0), w0, x3, x4, x5, x6, x7] := by
    intro cs D0 w0 hx N T B C X s x3 x4 x5 x6 x7 hs hN
    refine loop_inv (I := fun _ ρ => ∃ s x5, isO s ∧ ρ = [some (s, domD fs), some (.im, D0), w0, x3, x4, x5, x6, x7]) ⟨s, x5, hs, rfl⟩ ?_ ?_
    · rintro j d ρ hj ⟨s, x5, hs, rfl⟩
      obtain ⟨c, hc, rfl⟩ := List.mem_map.1 (List.mem_of_getElem? hj)
      rcases hs with rfl | rfl
      all_goals
        simp
        refine hx c hc (by first | exact .inl rfl | exact .inr rfl) fun s hs => ?_
        simp
        try exact hs
    · rintro ρ ⟨s, x5, hs, rfl⟩; exact hN s x5 hs
  have vals : ∀ (dm : Dom) (vs : List Val) (D0 : D) (w0 : Slot), dm.ok w → (∀ v ∈ vs, dm.has v) →
      ∀ {N : Rho → Prop} {T : Rho → DV → Prop} {B C : Rho → Prop} {X : Rho → Exn → Prop} {s : Slot} {x4 x5 x6 x7 : Slot}, (∀ x4, N [s, some (.im, D0), w0, some (.im, dm.d), x4, x5, x6, x7]) →
      wS (loopF (gSet 4) (sIf (dTst (dBin true isOp (dCallF 2 dp_place_in (dAsV 3 (dAsV 4 dAsNil))) (dC .non))) (sRaise "WrongValue" ["field", "value"] (dCons true (dIdx true (dVarF 1) (dC (.int 1))) (dCons true (dVarF 4) dNil))) sNil) (vs.map Val.d)) N T B C X [s, some (.im, D0), w0, some (.im, dm.d), x4, x5, x6, x7] := by
    intro dm vs D0 w0 hdm hv N T B C X s x4 x5 x6 x7 hN
    refine loop_inv (I := fun _ ρ => ∃ x4, ρ = [s, some (.im, D0), w0, some (.im, dm.d), x4, x5, x6, x7]) ⟨x4, rfl⟩ ?_ ?_
    · rintro j d ρ hj ⟨x4, rfl⟩
      obtain ⟨v, hvm, rfl⟩ := List.mem_map.1 (List.mem_of_getElem? hj)
      obtain ⟨p, hp⟩ := placeV_has (hv v hvm)
      simp
      refine place_w hdm (Dom.has_ok hdm (hv v hvm)) ?_
      simp [hp, optI]
    · rintro ρ ⟨x4, rfl⟩; exact hN x4
  cases c with
  | bl b => exact absurd rfl (hd b)
  | is n v =>
    obtain ⟨d, h1, h2⟩ := (by cases k <;> exact hc : ∃ d, (n, d) ∈ fs ∧ d.has v)
    have hdk : d.ok w := hf.dm _ h1
    rcases hs with rfl | rfl
    all_goals
      simp [Cond.d]
      first | refine domain_w hf (.inl rfl) h1 ?_ | refine domain_w hf (.inr rfl) h1 ?_
      simp
      refine vals d [v] _ _ hdk (by simpa using h2) fun x4 => ?_
      simp
      exact h _ (by first | exact .inl rfl | exact .inr rfl)
  | among n vs =>
    obtain ⟨d, h1, h3, h2⟩ := (by cases k <;> exact hc : ∃ d, (n, d) ∈ fs ∧ vs.length ≤ 100 ∧ ∀ v ∈ vs, d.has v)
    have hdk : d.ok w := hf.dm _ h1
    rcases hs with rfl | rfl
    all_goals
      simp [Cond.d]
      first | refine domain_w hf (.inl rfl) h1 ?_ | refine domain_w hf (.inr rfl) h1 ?_
      simp
      refine vals d vs _ _ hdk h2 fun x4 => ?_
      simp
      exact h _ (by first | exact .inl rfl | exact .inr rfl)
  | least n z =>
    obtain ⟨lo, hi, h1⟩ := (by cases k <;> exact hc : ∃ lo hi, (n, Dom.nu lo hi) ∈ fs)
    rcases hs with rfl | rfl
    all_goals
      simp [Cond.d]
      first | refine need_number_w hf (.inl rfl) h1 ?_ | refine need_number_w hf (.inr rfl) h1 ?_
      simp
      exact h _ (by first | exact .inl rfl | exact .inr rfl)
  | most n z =>
    obtain ⟨lo, hi, h1⟩ := (by cases k <;> exact hc : ∃ lo hi, (n, Dom.nu lo hi) ∈ fs)
    rcases hs with rfl | rfl
    all_goals
      simp [Cond.d]
      first | refine need_number_w hf (.inl rfl) h1 ?_ | refine need_number_w hf (.inr rfl) h1 ?_
      simp
      exact h _ (by first | exact .inl rfl | exact .inr rfl)
  | sum ts z =>
    obtain ⟨h1, h2, h3⟩ := (by cases k <;> exact hc : ts.length ≤ fs.length ∧ (ts.map (·.2)).Nodup ∧ ∀ t ∈ ts, (-10 ≤ t.1 ∧ t.1 ≤ 10) ∧ ∃ lo hi, (t.2, Dom.nu lo hi) ∈ fs)
    have key : ∀ (s : Sh), isO s → (∀ s, isO s → Q (.sh .im, .non) [(s, domD fs), (.im, (Cond.sum ts z).d)]) → ∀ {T : Rho → DV → Prop} {B C : Rho → Prop} {X : Rho → Exn → Prop} {N : Rho → Prop} {D0 : D} {w0 x3 x4 x5 x6 x7 : Slot}, (∀ s x6 x7, isO s → N [some (s, domD fs), some (.im, D0), w0, x3, x4, x5, x6, x7]) →
        wS (loopF (gTupD 2 (gsCons (gSet 6) (gsCons (gSet 7) gsNil))) (sIf (dTst (dBin true gtOp (dCallF 1 (dp_size) (dAsC true (dCallF 2 (dp_need_number) (dAsV 0 (dAsV 7 dAsNil))) dAsNil)) (dC (.int 40)))) (sRaise "TooWide" ["field"] (dCons true (dVarF 7) dNil)) sNil) (ts.map trD)) N T B C X [some (s, domD fs), some (.im, D0), w0, x3, x4, x5, x6, x7] := by
      intro s hs h T B C X N D0 w0 x3 x4 x5 x6 x7 hN
      refine loop_inv (I := fun _ ρ => ∃ s x6 x7, isO s ∧ ρ = [some (s, domD fs), some (.im, D0), w0, x3, x4, x5, x6, x7]) ⟨s, x6, x7, hs, rfl⟩ ?_ ?_
      · rintro j d ρ hj ⟨s, x6, x7, hs, rfl⟩
        obtain ⟨t, ht, rfl⟩ := List.mem_map.1 (List.mem_of_getElem? hj)
        obtain ⟨_, lo, hi, h4⟩ := h3 t ht
        have h5 : (Dom.nu lo hi).ok w := hf.dm _ h4
        obtain ⟨h6, h7, _, _⟩ := h5
        rcases hs with rfl | rfl
        all_goals
          simp [trD]
          first | refine need_number_w hf (.inl rfl) h4 ?_ | refine need_number_w hf (.inr rfl) h4 ?_
          simp
          refine size_w ?_
          have h8 : ¬ (40 < hi - lo + 1) := by omega
          simp [h8]
      · rintro ρ ⟨s, x6, x7, hs, rfl⟩; exact hN s x6 x7 hs
    rcases hs with rfl | rfl
    all_goals
      simp [Cond.d]
      refine key _ (by first | exact .inl rfl | exact .inr rfl) h fun s x6 x7 hs => ?_
      rcases hs with rfl | rfl
      all_goals
        simp
        exact h _ (by first | exact .inl rfl | exact .inr rfl)
  | nots c =>
    obtain ⟨j, hk, _, hp⟩ := parts_ok (c := .nots c) rfl hc
    rcases hs with rfl | rfl
    all_goals
      simp [Cond.d]
      refine parts_w (c := .nots c) rfl ?_
      simp
      refine deep _ _ _ (fun x hx => ih x j hk (hp x hx)) (by simp) fun s x5 hs => ?_
      rcases hs with rfl | rfl
      all_goals
        simp [Cond.d]
        exact h _ (by simp)
  | count z cs =>
    obtain ⟨j, hk, _, hp⟩ := parts_ok (c := .count z cs) rfl hc
    rcases hs with rfl | rfl
    all_goals
      simp [Cond.d]
      refine parts_w (c := .count z cs) rfl ?_
      simp
      refine deep _ _ _ (fun x hx => ih x j hk (hp x hx)) (by simp) fun s x5 hs => ?_
      rcases hs with rfl | rfl
      all_goals
        simp [Cond.d]
        exact h _ (by simp)
  | alls cs =>
    obtain ⟨j, hk, _, hp⟩ := parts_ok (c := .alls cs) rfl hc
    rcases hs with rfl | rfl
    all_goals
      simp [Cond.d]
      refine parts_w (c := .alls cs) rfl ?_
      simp
      refine deep _ _ _ (fun x hx => ih x j hk (hp x hx)) (by simp) fun s x5 hs => ?_
      rcases hs with rfl | rfl
      all_goals
        simp [Cond.d]
        exact h _ (by simp)
  | anys cs =>
    obtain ⟨j, hk, _, hp⟩ := parts_ok (c := .anys cs) rfl hc
    rcases hs with rfl | rfl
    all_goals
      simp [Cond.d]
      refine parts_w (c := .anys cs) rfl ?_
      simp
      refine deep _ _ _ (fun x hx => ih x j hk (hp x hx)) (by simp) fun s x5 hs => ?_
      rcases hs with rfl | rfl
      all_goals
        simp [Cond.d]
        exact h _ (by simp)
theorem need_all_w {m w : Nat} {fs : List Fld} (hf : FOk m w fs) (hw : w ≤ 40) : ∀ (k : Nat) (c : Cond), c.ok fs k → ∀ {s : Sh}, isO s → ∀ {Q : DV → List (Sh × D) → Prop} {X : Exn → List (Sh × D) → Prop}, (∀ s, isO s → Q (.sh .im, .non) [(s, domD fs), (.im, c.d)]) → wF (dp_need_all (k + 1)) Q X [(s, domD fs), (.im, c.d)] := by
  have step : ∀ (k : Nat) (c : Cond), c.ok fs k → (∀ (c : Cond) (j : Nat), k = j + 1 → c.ok fs j → ∀ {s : Sh}, isO s → ∀ {Q : DV → List (Sh × D) → Prop} {X : Exn → List (Sh × D) → Prop}, (∀ s, isO s → Q (.sh .im, .non) [(s, domD fs), (.im, c.d)]) → wF (dp_need_all k) Q X [(s, domD fs), (.im, c.d)]) →
      ∀ {s : Sh}, isO s → ∀ {Q : DV → List (Sh × D) → Prop} {X : Exn → List (Sh × D) → Prop}, (∀ s, isO s → Q (.sh .im, .non) [(s, domD fs), (.im, c.d)]) → wF (dp_need_all (k + 1)) Q X [(s, domD fs), (.im, c.d)] := by
    intro k c hc ih s hs Q X h
    have pt := fun (hd : ∀ b, c ≠ .bl b) (Q : DV → List (Sh × D) → Prop) (X : Exn → List (Sh × D) → Prop) s hs h => need_part_w (Q := Q) (X := X) (s := s) hf hw hc hd ih hs h
    unfold dp_need_all; rw [wF_fn_z]; unfold bp_need_all
    cases c with
    | bl b => rcases hs with rfl | rfl <;> (simp [Cond.d]; exact h _ (by simp))
    | _ =>
      have pt := pt (by simp)
      simp only [Cond.d] at pt h ⊢
      rcases hs with rfl | rfl
      all_goals
        simp
        refine pt _ _ _ (by simp) fun s hs => ?_
        rcases hs with rfl | rfl
        all_goals
          simp
          exact h _ (by simp)
  intro k
  induction k with
  | zero => exact fun c hc => step 0 c hc (fun c j e => by omega)
  | succ k ih =>
    intro c hc
    refine step (k + 1) c hc fun c j e hc => ?_
    have : k = j := by omega
    subst this
    intro s hs Q X h
    exact ih c hc hs h
theorem need_condition_w {m w : Nat} {fs : List Fld} (hf : FOk m w fs) (hw : w ≤ 40) {k : Nat} (hk : k ≤ 9) {c : Cond} (hc : c.ok fs k) {s : Sh} (h : Q (.sh .im, .non) [(.im, fsD fs), (.im, c.d)]) : wF dp_need_condition Q X [(s, fsD fs), (.im, c.d)] := by
  have up : ∀ (k : Nat) (c : Cond), c.ok fs k → ∀ j, k ≤ j → c.ok fs j := by
    intro k
    induction k with
    | zero => intro c hc j _; cases c <;> cases j <;> first | exact hc | exact hc.elim
    | succ k ih =>
      intro c hc j hj
      obtain ⟨j, rfl⟩ : ∃ i, j = i + 1 := ⟨j - 1, by omega⟩
      cases c with
      | nots c => exact ih c hc j (by omega)
      | count z cs => exact ⟨hc.1, fun x hx => ih x (hc.2 x hx) j (by omega)⟩
      | alls cs => exact ⟨hc.1, fun x hx => ih x (hc.2 x hx) j (by omega)⟩
      | anys cs => exact ⟨hc.1, fun x hx => ih x (hc.2 x hx) j (by omega)⟩
      | _ => exact hc
  unfold dp_need_condition; rw [wF_fn_z]; unfold bp_need_condition
  simp [fsD, pairs_fs, merge_fs hf.nd]
  refine need_all_w hf hw 9 c (up k c hc 9 hk) (by simp) fun s hs => ?_
  simp
  exact h
end Den

set_option maxHeartbeats 1000000
namespace Den
open PySem PySem.Spec PyProof.Rows L2
/-! what holds -/
variable {Q : DV → List (Sh × D) → Prop} {X : Exn → List (Sh × D) → Prop}
@[simp] theorem ivM_val {d0 : D} {v : Val} {s : Sh} : ivM d0 v.d s = (.sh .im, v.d) := by cases v <;> simp [Val.d]
theorem sh_int {m w : Nat} {fs : List Fld} {al : Al} (ha : ShOk fs al) (hf : FOk m w fs) {n : Str} {lo hi : Int} (h : (n, Dom.nu lo hi) ∈ fs) : getA al n = some (.i (intA al n)) ∧ lo ≤ intA al n ∧ intA al n ≤ hi := by
  obtain ⟨v, h1, h2⟩ := ha.has _ h
  simp at h1
  cases v with
  | s x => exact h2.elim
  | i z => unfold intA; rw [h1]; exact ⟨rfl, h2⟩
theorem sumOp_map {α : Type} {l : List α} {g : α → Int} : sumOp [.lst (l.map fun a => D.int (g a))] = some (.s (.int (l.map g).sum)) := by
  have : l.map (fun a => D.int (g a)) = (l.map g).map D.int := by simp
  rw [this, sum_l]
/-- the words of a sum -/
def trV (al : Al) : D → D
  | .tup [.int f, .str n] => .int (f * intA al n)
  | _ => .non
theorem trV_tr {al : Al} {t : Int × Str} : trV al (trD t) = .int (t.1 * intA al t.2) := rfl
theorem flat_w {m w : Nat} {fs : List Fld} (hf : FOk m w fs) (hm : m ≤ 60) (hw : w ≤ 1000) {al : Al} (ha : ShOk fs al) {k : Nat} {c : Cond} (hc : c.ok fs k) (hd : c.deep = false) (hb : ∀ b, c ≠ .bl b) {s : Sh} (hs : isO s)
    (h : ∀ s, isO s → Q (.sh .im, .bl (c.ev al)) [(.im, c.d), (s, shD al)]) : wF dp_holds_plainly Q X [(.im, c.d), (s, shD al)] := by
  unfold dp_holds_plainly; rw [wF_fn_z]; unfold bp_holds_plainly
  cases c with
  | bl b => exact absurd rfl (hb b)
  | is n v =>
    obtain ⟨d, h1, h2⟩ := (by cases k <;> exact hc : ∃ d, (n, d) ∈ fs ∧ d.has v)
    have hdk : d.ok w := hf.dm _ h1
    obtain ⟨v', h3, h4⟩ := ha.has _ h1
    simp at h3
    have e : decide (v' = v) = (Cond.is n v).ev al := by simp [Cond.ev, h3]
    have q := h .im (by simp)
    rw [← e] at q
    rcases hs with rfl | rfl
    all_goals
      simp [Cond.d, getK_sh, h3, eq_val (Dom.has_ok hdk h4) (Dom.has_ok hdk h2)]
      simpa [Cond.d] using q
  | among n vs =>
    obtain ⟨d, h1, h0, h2⟩ := (by cases k <;> exact hc : ∃ d, (n, d) ∈ fs ∧ vs.length ≤ 100 ∧ ∀ v ∈ vs, d.has v)
    have hdk : d.ok w := hf.dm _ h1
    obtain ⟨v', h3, h4⟩ := ha.has _ h1
    simp at h3
    have e : decide (v' ∈ vs) = (Cond.among n vs).ev al := by simp [Cond.ev, h3]
    have q := h .im (by simp)
    rw [← e] at q
    rcases hs with rfl | rfl
    all_goals
      simp [Cond.d, getK_sh, h3, in_val (Dom.has_ok hdk h4) (fun v hv => Dom.has_ok hdk (h2 v hv))]
      simpa [Cond.d] using q
  | least n z =>
    obtain ⟨lo, hi, h1⟩ := (by cases k <;> exact hc : ∃ lo hi, (n, Dom.nu lo hi) ∈ fs)
    obtain ⟨h2, _, _⟩ := sh_int ha hf h1
    have q := h .im (by simp)
    simp only [Cond.ev] at q
    rcases hs with rfl | rfl
    all_goals
      simp [Cond.d, getK_sh, h2, Val.d]
      simpa [Cond.d] using q
  | most n z =>
    obtain ⟨lo, hi, h1⟩ := (by cases k <;> exact hc : ∃ lo hi, (n, Dom.nu lo hi) ∈ fs)
    obtain ⟨h2, _, _⟩ := sh_int ha hf h1
    have q := h .im (by simp)
    simp only [Cond.ev] at q
    rcases hs with rfl | rfl
    all_goals
      simp [Cond.d, getK_sh, h2, Val.d]
      simpa [Cond.d] using q
  | sum ts z =>
    obtain ⟨h1, h2, h3⟩ := (by cases k <;> exact hc : ts.length ≤ fs.length ∧ (ts.map (·.2)).Nodup ∧ ∀ t ∈ ts, (-10 ≤ t.1 ∧ t.1 ≤ 10) ∧ ∃ lo hi, (t.2, Dom.nu lo hi) ∈ fs)
    simp only [Cond.ev] at h
    have hl : ts.length ≤ 1000000 := by have := hf.few; omega
    have e : (ts.map trD).map (trV al) = ts.map fun t => D.int (t.1 * intA al t.2) := by simp [trV_tr]
    rcases hs with rfl | rfl
    all_goals
      simp [Cond.d, ownIm, wipeR]
      refine wC_map (trV al) (by simp; omega) ?_ ?_
      · intro d hd
        obtain ⟨t, ht, rfl⟩ := List.mem_map.1 hd
        obtain ⟨⟨h5, h6⟩, lo, hi, h4⟩ := h3 t ht
        obtain ⟨h7, _, _⟩ := sh_int ha hf h4
        have mo : mulOk t.1 (intA al t.2) = true := mulOk_l (by omega)
        simp [trD, getK_sh, h7, Val.d, mo, wipeR, trV]
      · rw [e]
        simp [sumOp_map, mergeR]
        simpa [Cond.d] using h _ (by simp)
  | _ => cases hd
end Den

set_option maxHeartbeats 1000000
namespace Den
open PySem PySem.Spec PyProof.Rows L2
variable {Q : DV → List (Sh × D) → Prop} {X : Exn → List (Sh × D) → Prop}
theorem sum_ones {n : Nat} : sumOp [.lst (List.replicate n (.int 1))] = some (.s (.int (n : Nat))) := by
  have : List.replicate n (D.int 1) = (List.replicate n (1 : Int)).map D.int := by simp
  rw [this, sum_l]; simp
theorem evN_le {al : Al} : ∀ cs : List Cond, Cond.evN al cs ≤ cs.length
  | [] => by simp [Cond.evN]
  | c :: cs => by
    have := evN_le (al := al) cs
    rw [Cond.evN, List.length_cons]; split <;> omega
theorem met_w {m w : Nat} {fs : List Fld} (hf : FOk m w fs) (hm : m ≤ 60) (hw : w ≤ 1000) {al : Al} (ha : ShOk fs al) : ∀ (k : Nat) (c : Cond), c.ok fs k → ∀ {s : Sh}, isO s → ∀ {Q : DV → List (Sh × D) → Prop} {X : Exn → List (Sh × D) → Prop}, (∀ s, isO s → Q (.sh .im, .bl (c.ev al)) [(.im, c.d), (s, shD al)]) → wF (dp_is_met (k + 1)) Q X [(.im, c.d), (s, shD al)] := by
  have step : ∀ (k : Nat) (c : Cond), c.ok fs k → (∀ (c : Cond) (j : Nat), k = j + 1 → c.ok fs j → ∀ {s : Sh}, isO s → ∀ {Q : DV → List (Sh × D) → Prop} {X : Exn → List (Sh × D) → Prop}, (∀ s, isO s → Q (.sh .im, .bl (c.ev al)) [(.im, c.d), (s, shD al)]) → wF (dp_is_met k) Q X [(.im, c.d), (s, shD al)]) →
      ∀ {s : Sh}, isO s → ∀ {Q : DV → List (Sh × D) → Prop} {X : Exn → List (Sh × D) → Prop}, (∀ s, isO s → Q (.sh .im, .bl (c.ev al)) [(.im, c.d), (s, shD al)]) → wF (dp_is_met (k + 1)) Q X [(.im, c.d), (s, shD al)] := by
    intro k c hc ih s hs Q X h
    have fl := fun (hd : c.deep = false) (hb : ∀ b, c ≠ .bl b) (Q : DV → List (Sh × D) → Prop) (X : Exn → List (Sh × D) → Prop) s hs h => flat_w (Q := Q) (X := X) (s := s) hf hm hw ha hc hd hb hs h
    have loop : ∀ (cs : List Cond) (D0 : D) (w0 x3 : Slot), cs.length ≤ 10 → (∀ x ∈ cs, ∀ {s : Sh}, isO s → ∀ {Q : DV → List (Sh × D) → Prop} {X : Exn → List (Sh × D) → Prop}, (∀ s, isO s → Q (.sh .im, .bl (x.ev al)) [(.im, x.d), (s, shD al)]) → wF (dp_is_met k) Q X [(.im, x.d), (s, shD al)]) →
        ∀ {N : Rho → List D → Prop} {s : Sh}, isO s → (∀ s, isO s → N [some (.im, D0), some (s, shD al), w0, x3, none] (List.replicate (Cond.evN al cs) (.int 1))) →
        wC [4] .im (gSet 4) (dTruth (dCallF 2 (dp_is_met k) (dAsV 4 (dAsV 1 dAsNil)))) (dC (.int 1)) (cs.map Cond.d) N [some (.im, D0), some (s, shD al), w0, x3, none] [] := by
      intro cs D0 w0 x3 hl hx N s hs hN
      refine wC_inv (I := fun j ρ acc => ∃ s, isO s ∧ ρ = [some (.im, D0), some (s, shD al), w0, x3, none] ∧ acc = List.replicate (Cond.evN al (cs.take j)) (.int 1)) ⟨s, hs, rfl, rfl⟩ ?_ ?_
      · rintro j d ρ acc hj ⟨s, hs, rfl, rfl⟩
        rw [List.getElem?_map] at hj
        obtain ⟨c, hcj, rfl⟩ := Option.map_eq_some_iff.1 hj
        have en := evN_take (al := al) hcj
        have el := evN_le (al := al) (cs.take j)
        have el2 : (cs.take j).length ≤ 10 := by rw [List.length_take]; omega
        have hcm := List.mem_of_getElem? hcj
        rcases hs with rfl | rfl
        all_goals
          simp
          refine hx c hcm (by first | exact isO_im | exact isO_ow) fun s hs => ?_
          cases hv : c.ev al with
          | true =>
            rw [hv, if_pos rfl] at en
            simp [wipeR, en, List.replicate_succ']
            first | exact ⟨by omega, hs⟩ | omega
          | false =>
            rw [hv, if_neg (by simp)] at en
            simp [wipeR, en]
            try exact hs
      · rintro ρ acc ⟨s, hs, rfl, rfl⟩
        rw [List.length_map, List.take_length]
        exact hN s hs
    unfold dp_is_met; rw [wF_fn_z]; unfold bp_is_met
    cases c with
    | bl b => rcases hs with rfl | rfl <;> (simp [Cond.d]; simpa [Cond.d, Cond.ev] using h _ (by simp))
    | nots c =>
      obtain ⟨j, hk, h10, hp⟩ := parts_ok (c := .nots c) rfl hc
      have e : decide (Cond.evN al [c] = 0) = !c.ev al := by
        have e1 : Cond.evN al [c] = if c.ev al = true then 1 else 0 := by simp only [Cond.evN]; rfl
        rw [e1]; split <;> simp_all
      have q := h
      simp only [Cond.d, Cond.ev] at q
      rcases hs with rfl | rfl
      all_goals
        simp [Cond.d, ownIm]
        refine parts_w (c := .nots c) rfl ?_
        simp [wipeR, ownIm]
        refine loop (Cond.parts (.nots c)) _ _ _ h10 (fun x hx => ih x j hk (hp x hx)) (by first | exact isO_im | exact isO_ow) fun s hs => ?_
        rcases hs with rfl | rfl
        all_goals
          simp [mergeR, sum_ones, Cond.parts, Cond.d]
          rw [e]; exact q _ (by simp)
    | count z cs =>
      obtain ⟨j, hk, h10, hp⟩ := parts_ok (c := .count z cs) rfl hc
      have q := h
      simp only [Cond.d, Cond.ev] at q
      rcases hs with rfl | rfl
      all_goals
        simp [Cond.d, ownIm]
        refine parts_w (c := .count z cs) rfl ?_
        simp [wipeR, ownIm]
        refine loop (Cond.parts (.count z cs)) _ _ _ h10 (fun x hx => ih x j hk (hp x hx)) (by first | exact isO_im | exact isO_ow) fun s hs => ?_
        rcases hs with rfl | rfl
        all_goals
          simp [mergeR, sum_ones, Cond.parts, Cond.d]
          exact q _ (by simp)
    | alls cs =>
      obtain ⟨j, hk, h10, hp⟩ := parts_ok (c := .alls cs) rfl hc
      have e : decide (((Cond.evN al cs : Nat) : Int) = ((Cond.ds cs).length : Nat)) = decide (Cond.evN al cs = cs.length) := by rw [Cond.ds_map, List.length_map]; exact decide_eq_decide.2 (by omega)
      have q := h
      simp only [Cond.d, Cond.ev] at q
      rcases hs with rfl | rfl
      all_goals
        simp [Cond.d, ownIm]
        refine parts_w (c := .alls cs) rfl ?_
        simp [wipeR, ownIm]
        refine loop (Cond.parts (.alls cs)) _ _ _ h10 (fun x hx => ih x j hk (hp x hx)) (by first | exact isO_im | exact isO_ow) fun s hs => ?_
        rcases hs with rfl | rfl
        all_goals
          simp [mergeR, sum_ones, Cond.parts, Cond.d]
          rw [e]; exact q _ (by simp)
    | anys cs =>
      obtain ⟨j, hk, h10, hp⟩ := parts_ok (c := .anys cs) rfl hc
      have q := h
      simp only [Cond.d, Cond.ev] at q
      rcases hs with rfl | rfl
      all_goals
        simp [Cond.d, ownIm]
        refine parts_w (c := .anys cs) rfl ?_
        simp [wipeR, ownIm]
        refine loop (Cond.parts (.anys cs)) _ _ _ h10 (fun x hx => ih x j hk (hp x hx)) (by first | exact isO_im | exact isO_ow) fun s hs => ?_
        rcases hs with rfl | rfl
        all_goals
          simp [mergeR, sum_ones, Cond.parts, Cond.d]
          exact q _ (by simp)
    | _ =>
      have fl := fl rfl (by simp)
      simp only [Cond.d] at fl h ⊢
      rcases hs with rfl | rfl
      all_goals
        simp
        refine fl _ _ _ (by simp) fun s hs => ?_
        rcases hs with rfl | rfl
        all_goals
          simp
          exact h _ (by simp)
  intro k
  induction k with
  | zero => exact fun c hc => step 0 c hc (fun c j e => by omega)
  | succ k ih =>
    intro c hc
    refine step (k + 1) c hc fun c j e hc => ?_
    have : k = j := by omega
    subst this
    intro s hs Q X h
    exact ih c hc hs h
theorem ok_up {fs : List Fld} : ∀ (k : Nat) (c : Cond), c.ok fs k → ∀ j, k ≤ j → c.ok fs j := by
  intro k
  induction k with
  | zero => intro c hc j _; cases c <;> cases j <;> first | exact hc | exact hc.elim
  | succ k ih =>
    intro c hc j hj
    obtain ⟨j, rfl⟩ : ∃ i, j = i + 1 := ⟨j - 1, by omega⟩
    cases c with
    | nots c => exact ih c hc j (by omega)
    | count z cs => exact ⟨hc.1, fun x hx => ih x (hc.2 x hx) j (by omega)⟩
    | alls cs => exact ⟨hc.1, fun x hx => ih x (hc.2 x hx) j (by omega)⟩
    | anys cs => exact ⟨hc.1, fun x hx => ih x (hc.2 x hx) j (by omega)⟩
    | _ => exact hc
theorem holds_w {m w : Nat} {fs : List Fld} (hf : FOk m w fs) (hm : m ≤ 60) (hw : w ≤ 40) {al : Al} (ha : ShOk fs al) {k : Nat} (hk : k ≤ 9) {c : Cond} (hc : c.ok fs k) {s s' : Sh} (hs : isO s) (hs' : isO s')
    (h : ∀ s s', isO s → isO s' → Q (.sh .im, .bl (c.ev al)) [(s, fsD fs), (.im, c.d), (s', shD al)]) : wF dp_holds Q X [(s, fsD fs), (.im, c.d), (s', shD al)] := by
  unfold dp_holds; rw [wF_fn_z]; unfold bp_holds
  rcases hs with rfl | rfl <;> rcases hs' with rfl | rfl
  all_goals
    simp
    refine need_condition_w hf hw hk hc ?_
    simp
    refine need_sheet_w hf hm ha ?_
    simp
    refine met_w hf hm (by omega) ha 9 c (ok_up k c hc 9 hk) (by first | exact isO_im | exact isO_ow) fun s hs => ?_
    rcases hs with rfl | rfl
    all_goals
      simp
      exact h _ _ (by simp) (by simp)
end Den

set_option maxHeartbeats 1000000
namespace Den
open PySem PySem.Spec PyProof.Rows L2
variable {Q : DV → List (Sh × D) → Prop} {X : Exn → List (Sh × D) → Prop}
@[simp] theorem isOp_t {xs : List D} {b : Bool} : isOp (.tup xs) (.bl b) = some (.s (.bl false)) := by simp [isOp, isD]
@[simp] theorem isOp_b {a b : Bool} : isOp (.bl a) (.bl b) = some (.s (.bl (decide (a = b)))) := by cases a <;> cases b <;> rfl
theorem mone_w {m w : Nat} {fs : List Fld} (hf : FOk m w fs) (hm : m ≤ 60) (hw : w ≤ 1000) {al : Al} (ha : ShOk fs al) : ∀ (k : Nat) (c : Cond), c.ok fs k → ∀ {s : Sh}, isO s → ∀ {Q : DV → List (Sh × D) → Prop} {X : Exn → List (Sh × D) → Prop}, (∀ s, isO s → Q (.sh .im, .bl (c.ev al)) [(.im, c.d), (s, shD al)]) → wF (dp_l_meets_one (k + 1)) Q X [(.im, c.d), (s, shD al)] := by
  have step : ∀ (k : Nat) (c : Cond), c.ok fs k → (∀ (c : Cond) (j : Nat), k = j + 1 → c.ok fs j → ∀ {s : Sh}, isO s → ∀ {Q : DV → List (Sh × D) → Prop} {X : Exn → List (Sh × D) → Prop}, (∀ s, isO s → Q (.sh .im, .bl (c.ev al)) [(.im, c.d), (s, shD al)]) → wF (dp_l_meets_one k) Q X [(.im, c.d), (s, shD al)]) →
      ∀ {s : Sh}, isO s → ∀ {Q : DV → List (Sh × D) → Prop} {X : Exn → List (Sh × D) → Prop}, (∀ s, isO s → Q (.sh .im, .bl (c.ev al)) [(.im, c.d), (s, shD al)]) → wF (dp_l_meets_one (k + 1)) Q X [(.im, c.d), (s, shD al)] := by
    intro k c hc ih s hs Q X h
    have loop : ∀ (cs : List Cond) (D0 : D) (w0 x3 x4 x6 x7 : Slot), cs.length ≤ 10 → (∀ x ∈ cs, ∀ {s : Sh}, isO s → ∀ {Q : DV → List (Sh × D) → Prop} {X : Exn → List (Sh × D) → Prop}, (∀ s, isO s → Q (.sh .im, .bl (x.ev al)) [(.im, x.d), (s, shD al)]) → wF (dp_l_meets_one k) Q X [(.im, x.d), (s, shD al)]) →
        ∀ {N : Rho → List D → Prop} {s : Sh}, isO s → (∀ s acc, isO s → acc.length = Cond.evN al cs → N [some (.im, D0), some (s, shD al), w0, x3, x4, none, x6, x7] acc) →
        wC [5] .im (gSet 5) (dTruth (dCallF 2 (dp_l_meets_one k) (dAsV 5 (dAsV 1 dAsNil)))) (dVarF 5) (cs.map Cond.d) N [some (.im, D0), some (s, shD al), w0, x3, x4, none, x6, x7] [] := by
      intro cs D0 w0 x3 x4 x6 x7 hl hx N s hs hN
      refine wC_inv (I := fun j ρ acc => ∃ s, isO s ∧ ρ = [some (.im, D0), some (s, shD al), w0, x3, x4, none, x6, x7] ∧ acc.length = Cond.evN al (cs.take j)) ⟨s, hs, rfl, rfl⟩ ?_ ?_
      · rintro j d ρ acc hj ⟨s, hs, rfl, ea⟩
        rw [List.getElem?_map] at hj
        obtain ⟨c, hcj, rfl⟩ := Option.map_eq_some_iff.1 hj
        have en := evN_take (al := al) hcj
        have el := evN_le (al := al) (cs.take j)
        have el2 : (cs.take j).length ≤ 10 := by rw [List.length_take]; omega
        have hcm := List.mem_of_getElem? hcj
        rcases hs with rfl | rfl
        all_goals
          simp
          refine hx c hcm (by first | exact isO_im | exact isO_ow) fun s hs => ?_
          cases hv : c.ev al with
          | true =>
            rw [hv, if_pos rfl] at en
            simp [wipeR, en, ea]
            first | exact ⟨by omega, hs⟩ | omega
          | false =>
            rw [hv, if_neg (by simp)] at en
            simp [wipeR, en, ea]
            try exact hs
      · rintro ρ acc ⟨s, hs, rfl, ea⟩
        rw [List.length_map, List.take_length] at ea
        exact hN s acc hs ea
    have q := h
    unfold dp_l_meets_one; rw [wF_fn_z]; unfold bp_l_meets_one
    cases c with
    | bl b => rcases hs with rfl | rfl <;> cases b <;> (simp [Cond.d]; simpa [Cond.d, Cond.ev] using h _ (by first | exact isO_im | exact isO_ow))
    | is n v =>
      obtain ⟨d, h1, h2⟩ := (by cases k <;> exact hc : ∃ d, (n, d) ∈ fs ∧ d.has v)
      have hdk : d.ok w := hf.dm _ h1
      obtain ⟨v', h3, h4⟩ := ha.has _ h1
      simp at h3
      have e : decide (v' = v) = (Cond.is n v).ev al := by simp [Cond.ev, h3]
      simp only [← e, Cond.d] at q
      rcases hs with rfl | rfl
      all_goals
        simp [Cond.d, getK_sh, h3, eq_val (Dom.has_ok hdk h4) (Dom.has_ok hdk h2)]
        exact q _ (by first | exact isO_im | exact isO_ow)
    | among n vs =>
      obtain ⟨d, h1, h0, h2⟩ := (by cases k <;> exact hc : ∃ d, (n, d) ∈ fs ∧ vs.length ≤ 100 ∧ ∀ v ∈ vs, d.has v)
      have hdk : d.ok w := hf.dm _ h1
      obtain ⟨v', h3, h4⟩ := ha.has _ h1
      simp at h3
      have e : decide (v' ∈ vs) = (Cond.among n vs).ev al := by simp [Cond.ev, h3]
      simp only [← e, Cond.d] at q
      rcases hs with rfl | rfl
      all_goals
        simp [Cond.d, getK_sh, h3, in_val (Dom.has_ok hdk h4) (fun v hv => Dom.has_ok hdk (h2 v hv))]
        exact q _ (by first | exact isO_im | exact isO_ow)
    | least n z =>
      obtain ⟨lo, hi, h1⟩ := (by cases k <;> exact hc : ∃ lo hi, (n, Dom.nu lo hi) ∈ fs)
      obtain ⟨h2, _, _⟩ := sh_int ha hf h1
      simp only [Cond.d, Cond.ev] at q
      rcases hs with rfl | rfl
      all_goals
        simp [Cond.d, getK_sh, h2, Val.d]
        exact q _ (by first | exact isO_im | exact isO_ow)
    | most n z =>
      obtain ⟨lo, hi, h1⟩ := (by cases k <;> exact hc : ∃ lo hi, (n, Dom.nu lo hi) ∈ fs)
      obtain ⟨h2, _, _⟩ := sh_int ha hf h1
      simp only [Cond.d, Cond.ev] at q
      rcases hs with rfl | rfl
      all_goals
        simp [Cond.d, getK_sh, h2, Val.d]
        exact q _ (by first | exact isO_im | exact isO_ow)
    | sum ts z =>
      obtain ⟨h1, h2, h3⟩ := (by cases k <;> exact hc : ts.length ≤ fs.length ∧ (ts.map (·.2)).Nodup ∧ ∀ t ∈ ts, (-10 ≤ t.1 ∧ t.1 ≤ 10) ∧ ∃ lo hi, (t.2, Dom.nu lo hi) ∈ fs)
      simp only [Cond.d, Cond.ev] at q
      have hl : ts.length ≤ 1000000 := by have := hf.few; omega
      have e : (ts.map trD).map (trV al) = ts.map fun t => D.int (t.1 * intA al t.2) := by simp [trV_tr]
      rcases hs with rfl | rfl
      all_goals
        simp [Cond.d, ownIm, wipeR]
        refine wC_map (trV al) (by simp; omega) ?_ ?_
        · intro d hd
          obtain ⟨t, ht, rfl⟩ := List.mem_map.1 hd
          obtain ⟨⟨h5, h6⟩, lo, hi, h4⟩ := h3 t ht
          obtain ⟨h7, _, _⟩ := sh_int ha hf h4
          have mo : mulOk t.1 (intA al t.2) = true := mulOk_l (by omega)
          simp [trD, getK_sh, h7, Val.d, mo, wipeR, trV]
        · rw [e]
          simp [sumOp_map, mergeR]
          exact q _ (by first | exact isO_im | exact isO_ow)
    | nots c =>
      obtain ⟨j, hk, h10, hp⟩ := parts_ok (c := .nots c) rfl hc
      simp only [Cond.d, Cond.ev] at q
      rcases hs with rfl | rfl
      all_goals
        simp [Cond.d]
        refine ih c j hk (hp c (by simp [Cond.parts])) (by first | exact isO_im | exact isO_ow) fun s hs => ?_
        rcases hs with rfl | rfl
        all_goals
          simp
          exact q _ (by first | exact isO_im | exact isO_ow)
    | count z cs =>
      obtain ⟨j, hk, h10, hp⟩ := parts_ok (c := .count z cs) rfl hc
      simp only [Cond.d, Cond.ev] at q
      rcases hs with rfl | rfl
      all_goals
        simp [Cond.d, ownIm, wipeR]
        rw [Cond.ds_map]
        refine loop cs _ _ _ _ _ _ h10 (fun x hx => ih x j hk (hp x hx)) (by first | exact isO_im | exact isO_ow) fun s acc hs ea => ?_
        rcases hs with rfl | rfl
        all_goals
          simp [mergeR, ea]
          simp only [← Cond.ds_map]
          exact q _ (by first | exact isO_im | exact isO_ow)
    | alls cs =>
      obtain ⟨j, hk, h10, hp⟩ := parts_ok (c := .alls cs) rfl hc
      simp only [Cond.d, Cond.ev] at q
      have e : decide (((Cond.evN al cs : Nat) : Int) = (cs.length : Nat)) = decide (Cond.evN al cs = cs.length) := decide_eq_decide.2 (by omega)
      rcases hs with rfl | rfl
      all_goals
        simp [Cond.d, ownIm, wipeR]
        rw [Cond.ds_map]
        refine loop cs _ _ _ _ _ _ h10 (fun x hx => ih x j hk (hp x hx)) (by first | exact isO_im | exact isO_ow) fun s acc hs ea => ?_
        rcases hs with rfl | rfl
        all_goals
          simp [mergeR, ea]
          simp only [← Cond.ds_map]
          rw [e]
          exact q _ (by first | exact isO_im | exact isO_ow)
    | anys cs =>
      obtain ⟨j, hk, h10, hp⟩ := parts_ok (c := .anys cs) rfl hc
      simp only [Cond.d, Cond.ev] at q
      rcases hs with rfl | rfl
      all_goals
        simp [Cond.d, ownIm, wipeR]
        rw [Cond.ds_map]
        refine loop cs _ _ _ _ _ _ h10 (fun x hx => ih x j hk (hp x hx)) (by first | exact isO_im | exact isO_ow) fun s acc hs ea => ?_
        rcases hs with rfl | rfl
        all_goals
          simp [mergeR, ea]
          simp only [← Cond.ds_map]
          exact q _ (by first | exact isO_im | exact isO_ow)
  intro k
  induction k with
  | zero => exact fun c hc => step 0 c hc (fun c j e => by omega)
  | succ k ih =>
    intro c hc
    refine step (k + 1) c hc fun c j e hc => ?_
    have : k = j := by omega
    subst this
    intro s hs Q X h
    exact ih c hc hs h
end Den

set_option maxHeartbeats 1000000
namespace Den
open PySem PySem.Spec PyProof.Rows L2
/-! the names in a condition -/
mutual
def Cond.nm : Cond → List Str
  | .bl _ => []
  | .is n _ => [n]
  | .among n _ => [n]
  | .least n _ => [n]
  | .most n _ => [n]
  | .sum ts _ => ts.map (·.2)
  | .nots c => Cond.nm c
  | .count _ cs => Cond.nms cs
  | .alls cs => Cond.nms cs
  | .anys cs => Cond.nms cs
def Cond.nms : List Cond → List Str
  | [] => []
  | c :: cs => Cond.nm c ++ Cond.nms cs
end
theorem nms_app : ∀ {xs ys : List Cond}, Cond.nms (xs ++ ys) = Cond.nms xs ++ Cond.nms ys
  | [], _ => by simp [Cond.nms]
  | x :: xs, ys => by rw [List.cons_append, Cond.nms, Cond.nms, nms_app, List.append_assoc]
theorem nms_take {cs : List Cond} {j : Nat} {c : Cond} (h : cs[j]? = some c) : Cond.nms (cs.take (j + 1)) = Cond.nms (cs.take j) ++ Cond.nm c := by
  rw [List.take_add_one, h, nms_app]; simp [Cond.nms]
theorem mem_nms {x : Str} : ∀ {cs : List Cond}, x ∈ Cond.nms cs ↔ ∃ c ∈ cs, x ∈ Cond.nm c
  | [] => by simp [Cond.nms]
  | c :: cs => by rw [Cond.nms, List.mem_append, mem_nms]; simp
theorem nm_parts {c : Cond} (h : c.deep = true) : c.nm = Cond.nms c.parts := by
  cases c <;> simp [Cond.deep] at h <;> simp [Cond.nm, Cond.parts, Cond.nms]
theorem nms_len {n : Nat} : ∀ {cs : List Cond}, (∀ c ∈ cs, (Cond.nm c).length ≤ n) → (Cond.nms cs).length ≤ cs.length * n
  | [], _ => by simp [Cond.nms]
  | c :: cs, h => by
    rw [Cond.nms, List.length_append, List.length_cons, Nat.add_mul]
    have := h c (List.mem_cons_self ..)
    have := nms_len fun d hd => h d (List.mem_cons_of_mem _ hd)
    omega
theorem nm_len {fs : List Fld} (hl : fs.length ≤ 60) : ∀ (k : Nat) (c : Cond), c.ok fs k → (Cond.nm c).length ≤ 60 * 10 ^ k := by
  intro k
  induction k with
  | zero =>
    intro c hc
    cases c <;> simp [Cond.nm]
    · have := hc.1; omega
    all_goals exact hc.elim
  | succ k ih =>
    intro c hc
    have p10 : 1 ≤ 10 ^ (k + 1) := Nat.pos_of_ne_zero (by simp)
    by_cases hd : c.deep = true
    · rw [nm_parts hd]
      obtain ⟨j, hj, h1, h2⟩ := parts_ok hd hc
      obtain rfl : k = j := by omega
      refine Nat.le_trans (nms_len fun x hx => ih x (h2 x hx)) ?_
      rw [Nat.pow_succ]
      have := Nat.mul_le_mul_right (60 * 10 ^ k) h1
      omega
    · cases c <;> simp [Cond.deep] at hd <;> simp [Cond.nm]
      all_goals first | omega | (have := hc.1; omega)
theorem nm_sub {fs : List Fld} : ∀ (k : Nat) (c : Cond), c.ok fs k → ∀ x ∈ Cond.nm c, ∃ f ∈ fs, f.1 = x := by
  intro k
  induction k with
  | zero =>
    intro c hc x hx
    cases c <;> simp [Cond.nm] at hx
    · obtain ⟨d, h, _⟩ := hc; exact ⟨_, h, by simp [hx]⟩
    · obtain ⟨d, h, _⟩ := hc; exact ⟨_, h, by simp [hx]⟩
    · obtain ⟨_, _, h⟩ := hc; exact ⟨_, h, by simp [hx]⟩
    · obtain ⟨_, _, h⟩ := hc; exact ⟨_, h, by simp [hx]⟩
    · obtain ⟨a, ha⟩ := hx; obtain ⟨_, _, _, h⟩ := hc.2.2 _ ha; exact ⟨_, h, rfl⟩
    all_goals exact hc.elim
  | succ k ih =>
    intro c hc x hx
    by_cases hd : c.deep = true
    · rw [nm_parts hd, mem_nms] at hx
      obtain ⟨j, hj, h1, h2⟩ := parts_ok hd hc
      obtain rfl : k = j := by omega
      obtain ⟨y, hy, hx⟩ := hx
      exact ih y (h2 y hy) x hx
    · cases c <;> simp [Cond.deep] at hd <;> simp [Cond.nm] at hx
      · obtain ⟨d, h, _⟩ := hc; exact ⟨_, h, by simp [hx]⟩
      · obtain ⟨d, h, _⟩ := hc; exact ⟨_, h, by simp [hx]⟩
      · obtain ⟨_, _, h⟩ := hc; exact ⟨_, h, by simp [hx]⟩
      · obtain ⟨_, _, h⟩ := hc; exact ⟨_, h, by simp [hx]⟩
      · obtain ⟨a, ha⟩ := hx; obtain ⟨_, _, _, h⟩ := hc.2.2 _ ha; exact ⟨_, h, rfl⟩
theorem len_sub {α : Type} [DecidableEq α] : ∀ {l m : List α}, l.Nodup → (∀ x ∈ l, x ∈ m) → l.length ≤ m.length
  | [], _, _, _ => Nat.zero_le _
  | x :: l, m, nd, h => by
    rw [List.nodup_cons] at nd
    have hx := h x (List.mem_cons_self ..)
    have := len_sub (l := l) (m := m.erase x) nd.2 fun y hy => (List.mem_erase_of_ne (fun e => nd.1 (by rw [← e]; exact hy))).2 (h y (List.mem_cons_of_mem _ hy))
    rw [List.length_erase_of_mem hx] at this
    have := List.length_pos_of_mem hx
    rw [List.length_cons]; omega
variable {Q : DV → List (Sh × D) → Prop} {X : Exn → List (Sh × D) → Prop}
abbrev sD (l : List Str) : D := .lst (l.map D.str)
theorem snd_comp {ts : List (Int × Str)} : (ts.map trD).map (fun d => match d with | .tup [_, n] => n | _ => .non) = (ts.map (·.2)).map D.str := by
  simp [trD]
def sndD : D → D
  | .tup [_, n] => n
  | _ => .non
theorem snd_tr {ts : List (Int × Str)} : (ts.map trD).map sndD = (ts.map (·.2)).map D.str := by simp [trD, sndD]
theorem nms_mem_len {x : Cond} : ∀ {cs : List Cond}, x ∈ cs → x.nm.length ≤ (Cond.nms cs).length
  | c :: cs, h => by
    rw [Cond.nms, List.length_append]
    rcases List.mem_cons.1 h with rfl | h
    · omega
    · have := nms_mem_len h; omega
/-- what the law tells of names -/
theorem names_w {m w : Nat} {fs : List Fld} (hf : FOk m w fs) (hm : m ≤ 60) : ∀ (k : Nat) (c : Cond), c.nm.length ≤ 10000000 → c.ok fs k → ∀ {Q : DV → List (Sh × D) → Prop} {X : Exn → List (Sh × D) → Prop}, (∀ s, isO s → Q (.sh s, sD c.nm) [(.im, c.d)]) → wF (dp_l_names (k + 1)) Q X [(.im, c.d)] := by
  have step : ∀ (k : Nat) (c : Cond), c.nm.length ≤ 10000000 → c.ok fs k → (∀ (c : Cond) (j : Nat), k = j + 1 → c.nm.length ≤ 10000000 → c.ok fs j → ∀ {Q : DV → List (Sh × D) → Prop} {X : Exn → List (Sh × D) → Prop}, (∀ s, isO s → Q (.sh s, sD c.nm) [(.im, c.d)]) → wF (dp_l_names k) Q X [(.im, c.d)]) →
      ∀ {Q : DV → List (Sh × D) → Prop} {X : Exn → List (Sh × D) → Prop}, (∀ s, isO s → Q (.sh s, sD c.nm) [(.im, c.d)]) → wF (dp_l_names (k + 1)) Q X [(.im, c.d)] := by
    intro k c hB hc ih Q X h
    have fl := hf.few
    have loop : ∀ (cs : List Cond) (D0 : D) (w1 x4 x5 : Slot), (Cond.nms cs).length ≤ 10000000 → cs.length ≤ 10 → (∀ x ∈ cs, ∀ {Q : DV → List (Sh × D) → Prop} {X : Exn → List (Sh × D) → Prop}, (∀ s, isO s → Q (.sh s, sD x.nm) [(.im, x.d)]) → wF (dp_l_names k) Q X [(.im, x.d)]) →
        ∀ {N : Rho → Prop} {T : Rho → DV → Prop} {B C : Rho → Prop} {X : Rho → Exn → Prop}, (∀ x3, N [some (.im, D0), w1, some (.ow .im, sD (Cond.nms cs)), x3, x4, x5]) →
        wS (loopF (gSet 3) (sSet 2 (dBin false addOp (dVarF 2) (dCallF 1 (dp_l_names k) (dAsV 3 dAsNil)))) (cs.map Cond.d)) N T B C X [some (.im, D0), w1, some (.ow .im, sD []), none, x4, x5] := by
      intro cs D0 w1 x4 x5 hn hl hx N T B C X hN
      refine loop_inv (I := fun j ρ => ∃ x3, ρ = [some (.im, D0), w1, some (.ow .im, sD (Cond.nms (cs.take j))), x3, x4, x5]) ⟨none, rfl⟩ ?_ ?_
      · rintro j d ρ hj ⟨x3, rfl⟩
        rw [List.getElem?_map] at hj
        obtain ⟨c, hcj, rfl⟩ := Option.map_eq_some_iff.1 hj
        have en := nms_take hcj
        have hcm := List.mem_of_getElem? hcj
        have l1 : (Cond.nms (cs.take (j + 1))).length ≤ (Cond.nms cs).length := by
          conv => rhs; rw [← List.take_append_drop (j + 1) cs]
          rw [nms_app, List.length_append]; omega
        rw [en, List.length_append] at l1
        simp [sD]
        refine hx c hcm fun s hs => ?_
        rcases hs with rfl | rfl
        all_goals
          simp [sD, en]
          omega
      · rintro ρ ⟨x3, rfl⟩
        rw [List.length_map, List.take_length]
        exact hN x3
    have q := h
    unfold dp_l_names; rw [wF_fn_z]; unfold bp_l_names
    cases c with
    | bl b => cases b <;> (simp [Cond.d]; simpa [sD, Cond.d, Cond.nm] using h _ (by first | exact isO_ow))
    | is n v => simp [Cond.d]; simpa [sD, Cond.d, Cond.nm] using h _ isO_ow
    | among n v => simp [Cond.d]; simpa [sD, Cond.d, Cond.nm] using h _ isO_ow
    | least n v => simp [Cond.d]; simpa [sD, Cond.d, Cond.nm] using h _ isO_ow
    | most n v => simp [Cond.d]; simpa [sD, Cond.d, Cond.nm] using h _ isO_ow
    | sum ts z =>
      have hl : ts.length ≤ 60 := by
        have : ts.length ≤ fs.length := by cases k <;> exact hc.1
        omega
      simp [Cond.d, ownIm, wipeR]
      refine wC_map sndD (by simp; omega) ?_ ?_
      · intro d hd
        obtain ⟨t, ht, rfl⟩ := List.mem_map.1 hd
        simp [trD, wipeR, sndD]
      · rw [snd_tr]
        simp [mergeR]
        simpa [sD, Cond.d, Cond.nm] using h _ isO_ow
    | nots c =>
      obtain ⟨j, hk, h10, hp⟩ := parts_ok (c := .nots c) rfl hc
      simp only [Cond.d, Cond.nm] at q
      simp [Cond.d]
      refine ih c j hk (by simpa only [Cond.nm] using hB) (hp c (by simp [Cond.parts])) fun s hs => ?_
      simp
      exact q s hs
    | count z cs =>
      obtain ⟨j, hk, h10, hp⟩ := parts_ok (c := .count z cs) rfl hc
      simp only [Cond.d, Cond.nm] at q
      have lc : (Cond.nms cs).length ≤ 10000000 := by simpa only [Cond.nm] using hB
      have lx : ∀ x ∈ cs, (Cond.nm x).length ≤ 10000000 := fun x hx => by
        have := nms_mem_len hx
        omega
      simp [Cond.d]
      rw [Cond.ds_map]
      refine loop cs _ _ _ _ lc h10 (fun x hx => ih x j hk (lx x hx) (hp x hx)) fun x3 => ?_
      simp
      simp only [← Cond.ds_map]
      exact q _ isO_ow
    | alls cs =>
      obtain ⟨j, hk, h10, hp⟩ := parts_ok (c := .alls cs) rfl hc
      simp only [Cond.d, Cond.nm] at q
      have lc : (Cond.nms cs).length ≤ 10000000 := by simpa only [Cond.nm] using hB
      have lx : ∀ x ∈ cs, (Cond.nm x).length ≤ 10000000 := fun x hx => by
        have := nms_mem_len hx
        omega
      simp [Cond.d]
      rw [Cond.ds_map]
      refine loop cs _ _ _ _ lc h10 (fun x hx => ih x j hk (lx x hx) (hp x hx)) fun x3 => ?_
      simp
      simp only [← Cond.ds_map]
      exact q _ isO_ow
    | anys cs =>
      obtain ⟨j, hk, h10, hp⟩ := parts_ok (c := .anys cs) rfl hc
      simp only [Cond.d, Cond.nm] at q
      have lc : (Cond.nms cs).length ≤ 10000000 := by simpa only [Cond.nm] using hB
      have lx : ∀ x ∈ cs, (Cond.nm x).length ≤ 10000000 := fun x hx => by
        have := nms_mem_len hx
        omega
      simp [Cond.d]
      rw [Cond.ds_map]
      refine loop cs _ _ _ _ lc h10 (fun x hx => ih x j hk (lx x hx) (hp x hx)) fun x3 => ?_
      simp
      simp only [← Cond.ds_map]
      exact q _ isO_ow
  intro k
  induction k with
  | zero => exact fun c hB hc => step 0 c hB hc (fun c j e => by omega)
  | succ k ih =>
    intro c hB hc
    refine step (k + 1) c hB hc fun c j e hB hc => ?_
    have : k = j := by omega
    subst this
    intro Q X h
    exact ih c hB hc h
/-- what the program tells of names -/
structure NmOk (fs : List Fld) (c : Cond) (l : List Str) : Prop where
  nd : l.Nodup
  so : sSort l = l
  mem : ∀ x, x ∈ l ↔ x ∈ c.nm
theorem named_w {m w : Nat} {fs : List Fld} (hf : FOk m w fs) (hm : m ≤ 60) : ∀ (k : Nat) (c : Cond), c.ok fs k → ∀ {Q : DV → List (Sh × D) → Prop} {X : Exn → List (Sh × D) → Prop}, (∀ l, NmOk fs c l → Q (.sh (.ow .im), sD l) [(.im, c.d)]) → wF (dp_named (k + 1)) Q X [(.im, c.d)] := by
  have sok : ∀ (c : Cond) (k : Nat), c.ok fs k → ∀ x ∈ c.nm, PyData.strOk x = true := fun c k hc x hx => by
    obtain ⟨f, hf1, rfl⟩ := nm_sub k c hc x hx
    exact hf.nm f hf1
  have step : ∀ (k : Nat) (c : Cond), c.ok fs k → (∀ (c : Cond) (j : Nat), k = j + 1 → c.ok fs j → ∀ {Q : DV → List (Sh × D) → Prop} {X : Exn → List (Sh × D) → Prop}, (∀ l, NmOk fs c l → Q (.sh (.ow .im), sD l) [(.im, c.d)]) → wF (dp_named k) Q X [(.im, c.d)]) →
      ∀ {Q : DV → List (Sh × D) → Prop} {X : Exn → List (Sh × D) → Prop}, (∀ l, NmOk fs c l → Q (.sh (.ow .im), sD l) [(.im, c.d)]) → wF (dp_named (k + 1)) Q X [(.im, c.d)] := by
    intro k c hc ih Q X h
    have fl := hf.few
    have loop : ∀ (cs : List Cond) (D0 : D) (x4 : Slot), cs.length ≤ 10 → (∀ x ∈ cs, (∀ y ∈ x.nm, ∃ f ∈ fs, f.1 = y) ∧ ∀ {Q : DV → List (Sh × D) → Prop} {X : Exn → List (Sh × D) → Prop}, (∀ l, NmOk fs x l → Q (.sh (.ow .im), sD l) [(.im, x.d)]) → wF (dp_named k) Q X [(.im, x.d)]) →
        ∀ {N : Rho → Prop} {T : Rho → DV → Prop} {B C : Rho → Prop} {X : Rho → Exn → Prop}, (∀ x2 l, l.Nodup → (∀ x, x ∈ l ↔ x ∈ Cond.nms cs) → N [some (.im, D0), some (.ow .im, sD l), x2, none, x4]) →
        wS (loopF (gSet 2) (sExtend 1 (dComp [3] .im (dItems (dCallF 1 (dp_named k) (dAsV 2 dAsNil))) (gSet 3) (dTst (dBin true notInOp (dVar 3) (dVar 1))) (dVarF 3))) (cs.map Cond.d)) N T B C X [some (.im, D0), some (.ow .im, sD []), none, none, x4] := by
      intro cs D0 x4 hl hx N T B C X hN
      refine loop_inv (I := fun j ρ => ∃ x2 l, l.Nodup ∧ (∀ x, x ∈ l ↔ x ∈ Cond.nms (cs.take j)) ∧ ρ = [some (.im, D0), some (.ow .im, sD l), x2, none, x4]) ⟨none, [], List.nodup_nil, by simp [Cond.nms], rfl⟩ ?_ ?_
      · rintro j d ρ hj ⟨x2, l, nd, hl2, rfl⟩
        rw [List.getElem?_map] at hj
        obtain ⟨c, hcj, rfl⟩ := Option.map_eq_some_iff.1 hj
        have en := nms_take hcj
        have hcm := List.mem_of_getElem? hcj
        have small : ∀ l' : List Str, l'.Nodup → (∀ x ∈ l', x ∈ Cond.nms (cs.take (j + 1))) → l'.length ≤ 60 := fun l' nd' h' => by
          have := len_sub (m := fs.map (·.1)) nd' fun x hx1 => by
            obtain ⟨y, hy, hxy⟩ := mem_nms.1 (h' x hx1)
            obtain ⟨f, hf1, e⟩ := (hx y (List.mem_of_mem_take hy)).1 x hxy
            exact List.mem_map.2 ⟨f, hf1, e⟩
          rw [List.length_map] at this; omega
        have okl : ∀ x ∈ Cond.nms (cs.take (j + 1)), PyData.strOk x = true := fun x hx1 => by
          obtain ⟨y, hy, hxy⟩ := mem_nms.1 hx1
          obtain ⟨f, hf1, rfl⟩ := (hx y (List.mem_of_mem_take hy)).1 x hxy
          exact hf.nm f hf1
        simp [sD, ownIm]
        refine (hx c hcm).2 fun l' hl' => ?_
        have ok1 : ∀ x ∈ l, PyData.strOk x = true := fun x h1 => okl x (by rw [en]; exact List.mem_append_left _ ((hl2 x).1 h1))
        have ok2 : ∀ x ∈ l', PyData.strOk x = true := fun x h1 => okl x (by rw [en]; exact List.mem_append_right _ ((hl'.mem x).1 h1))
        have s2 := small l' hl'.nd fun x h1 => by rw [en]; exact List.mem_append_right _ ((hl'.mem x).1 h1)
        simp [sD, wipeR, ownIm]
        refine wC_pure (fun d => !D.mem d (l.map D.str)) id (by simp; omega) ?_ ?_
        · intro d hd
          obtain ⟨x, hx1, rfl⟩ := List.mem_map.1 hd
          have := notIn_of (in_ls (ok2 x hx1) ok1)
          simp [this, mem_ss, wipeR]
          try (by_cases c : x ∈ l <;> simp [c])
        · obtain ⟨G, hG⟩ : ∃ G, G = l'.filter fun x => !decide (x ∈ l) := ⟨_, rfl⟩
          have e2 : ((l'.map D.str).filter fun d => !D.mem d (l.map D.str)).map id = G.map D.str := by
            rw [hG, List.map_id, List.filter_map]
            congr 1
            apply List.filter_congr
            intro x _
            simp [mem_ss]
          have mG : ∀ x, x ∈ G ↔ x ∈ l' ∧ x ∉ l := fun x => by rw [hG, List.mem_filter]; simp
          have ndG : G.Nodup := by rw [hG]; exact hl'.nd.filter _
          clear hG
          rw [e2]
          have nd2 : (l ++ G).Nodup := by
            rw [List.nodup_append]
            refine ⟨nd, ndG, fun a ha b hb => ?_⟩
            rw [mG] at hb
            rintro rfl
            exact hb.2 ha
          have m2 : ∀ x, x ∈ l ++ G ↔ x ∈ Cond.nms (cs.take (j + 1)) := fun x => by
            rw [en, List.mem_append, List.mem_append, mG, ← hl2, hl'.mem]
            constructor
            · rintro (h1 | ⟨h1, _⟩)
              · exact .inl h1
              · exact .inr h1
            · rintro (h1 | h1)
              · exact .inl h1
              · by_cases z : x ∈ l
                · exact .inl z
                · exact .inr ⟨h1, z⟩
          have s3 := small _ nd2 fun x h1 => (m2 x).1 h1
          rw [List.length_append] at s3
          simp [mergeR]
          exact ⟨by omega, _, l ++ G, nd2, m2, by simp, rfl⟩
      · rintro ρ ⟨x2, l, nd, hl2, rfl⟩
        rw [List.length_map, List.take_length] at hl2
        exact hN x2 l nd hl2
    have fin : ∀ (c : Cond) (l : List Str), c.ok fs k → l.Nodup → (∀ x, x ∈ l ↔ x ∈ c.nm) → l.length ≤ 60 ∧ (∀ x ∈ l, PyData.strOk x = true) ∧ NmOk fs c (sSort l) := fun c l hc nd hm' => by
      refine ⟨?_, fun x hx => sok c k hc x ((hm' x).1 hx), (sSort_perm l).nodup_iff.2 nd, sSort_idem l, fun x => by rw [sSort_mem, hm']⟩
      have := len_sub (m := fs.map (·.1)) nd fun x hx => by
        obtain ⟨f, hf1, e⟩ := nm_sub k c hc x ((hm' x).1 hx)
        exact List.mem_map.2 ⟨f, hf1, e⟩
      rw [List.length_map] at this; omega
    have one : ∀ (c : Cond) (n : Str), c.nm = [n] → NmOk fs c [n] := fun c n e => ⟨by simp, by simp [sSort], fun x => by rw [e]⟩
    have q := h
    unfold dp_named; rw [wF_fn_z]; unfold bp_named
    cases c with
    | bl b => simp [Cond.d]; simpa [sD, Cond.d] using h [] ⟨by simp, by simp [sSort], by simp [Cond.nm]⟩
    | is n v => simp [Cond.d]; simpa [sD, Cond.d] using h [n] (one _ n (by simp [Cond.nm]))
    | among n v => simp [Cond.d]; simpa [sD, Cond.d] using h [n] (one _ n (by simp [Cond.nm]))
    | least n v => simp [Cond.d]; simpa [sD, Cond.d] using h [n] (one _ n (by simp [Cond.nm]))
    | most n v => simp [Cond.d]; simpa [sD, Cond.d] using h [n] (one _ n (by simp [Cond.nm]))
    | sum ts z =>
      have hl : ts.length ≤ fs.length ∧ (ts.map (·.2)).Nodup := by cases k <;> exact ⟨hc.1, hc.2.1⟩
      obtain ⟨f1, f2, f3⟩ := fin (.sum ts z) (ts.map (·.2)) hc hl.2 fun x => by simp [Cond.nm]
      simp [Cond.d, ownIm, wipeR]
      refine wC_map sndD (by simp; omega) ?_ ?_
      · intro d hd
        obtain ⟨t, ht, rfl⟩ := List.mem_map.1 hd
        simp [trD, wipeR, sndD]
      · rw [snd_tr, List.nil_append]
        generalize ts.map (·.2) = ns at *
        have := sortedOp_strs (l := ns) (by show _ ≤ 16777216; omega) f2
        simp [mergeR, this]
        simpa [sD, Cond.d] using h _ f3
    | nots c =>
      obtain ⟨j, hk, h10, hp⟩ := parts_ok (c := .nots c) rfl hc
      have eP := nm_parts (c := .nots c) rfl
      simp [Cond.d]
      refine parts_w (c := .nots c) rfl ?_
      simp
      refine loop (Cond.parts (.nots c)) _ _ h10 (fun x hx => ⟨nm_sub j x (hp x hx), ih x j hk (hp x hx)⟩) fun x2 l nd hm' => ?_
      obtain ⟨f1, f2, f3⟩ := fin (.nots c) l hc nd (fun x => by rw [hm', eP])
      have := sortedOp_strs (l := l) (by show _ ≤ 16777216; omega) f2
      simp [sD, this]
      simpa [sD, Cond.d] using h _ f3
    | count z cs =>
      obtain ⟨j, hk, h10, hp⟩ := parts_ok (c := .count z cs) rfl hc
      have eP := nm_parts (c := .count z cs) rfl
      simp [Cond.d]
      refine parts_w (c := .count z cs) rfl ?_
      simp
      refine loop (Cond.parts (.count z cs)) _ _ h10 (fun x hx => ⟨nm_sub j x (hp x hx), ih x j hk (hp x hx)⟩) fun x2 l nd hm' => ?_
      obtain ⟨f1, f2, f3⟩ := fin (.count z cs) l hc nd (fun x => by rw [hm', eP])
      have := sortedOp_strs (l := l) (by show _ ≤ 16777216; omega) f2
      simp [sD, this]
      simpa [sD, Cond.d] using h _ f3
    | alls cs =>
      obtain ⟨j, hk, h10, hp⟩ := parts_ok (c := .alls cs) rfl hc
      have eP := nm_parts (c := .alls cs) rfl
      simp [Cond.d]
      refine parts_w (c := .alls cs) rfl ?_
      simp
      refine loop (Cond.parts (.alls cs)) _ _ h10 (fun x hx => ⟨nm_sub j x (hp x hx), ih x j hk (hp x hx)⟩) fun x2 l nd hm' => ?_
      obtain ⟨f1, f2, f3⟩ := fin (.alls cs) l hc nd (fun x => by rw [hm', eP])
      have := sortedOp_strs (l := l) (by show _ ≤ 16777216; omega) f2
      simp [sD, this]
      simpa [sD, Cond.d] using h _ f3
    | anys cs =>
      obtain ⟨j, hk, h10, hp⟩ := parts_ok (c := .anys cs) rfl hc
      have eP := nm_parts (c := .anys cs) rfl
      simp [Cond.d]
      refine parts_w (c := .anys cs) rfl ?_
      simp
      refine loop (Cond.parts (.anys cs)) _ _ h10 (fun x hx => ⟨nm_sub j x (hp x hx), ih x j hk (hp x hx)⟩) fun x2 l nd hm' => ?_
      obtain ⟨f1, f2, f3⟩ := fin (.anys cs) l hc nd (fun x => by rw [hm', eP])
      have := sortedOp_strs (l := l) (by show _ ≤ 16777216; omega) f2
      simp [sD, this]
      simpa [sD, Cond.d] using h _ f3
  intro k
  induction k with
  | zero => exact fun c hc => step 0 c hc (fun c j e => by omega)
  | succ k ih =>
    intro c hc
    refine step (k + 1) c hc fun c j e hc => ?_
    have : k = j := by omega
    subst this
    intro Q X h
    exact ih c hc h
end Den

set_option maxHeartbeats 1000000
namespace Den
open PySem PySem.Spec PyProof.Rows L2
/-! what the laws draw: names, fields -/
variable {Q : DV → List (Sh × D) → Prop} {X : Exn → List (Sh × D) → Prop} {ns : List Int} {a r f : Int}
structure NameAt (j : Nat) (n : Str) : Prop where
  ok : PyData.strOk n = true
  last : n.cps.toList.getLast? = some (48 + j)
  few : n.length ≤ 12
def alpha : List Nat := (List.range 26).map (97 + ·)
def alnum : List Nat := alpha ++ (List.range 10).map (48 + ·)
theorem lit_alpha : (.str "abcdefghijklmnopqrstuvwxyz" : D) = .str (S alpha) := rfl
theorem lit_dig : (.str "0123456789" : D) = .str (S ((List.range 10).map (48 + ·))) := rfl
theorem str_dig : ∀ j : Nat, j < 10 → (toString (j : Int) : Str) = S [48 + j] := by decide +kernel
theorem strOp_dig {j : Nat} (h : j < 10) : strOp [.int (j : Int)] = some (.s (.str (S [48 + j]))) := by
  have e : strOp [.int (j : Int)] = if (j : Int).natAbs.log2 < 1920 then some (.s (.str (toString (j : Int)))) else none := rfl
  rw [e, if_pos, str_dig j h]
  have : ∀ j : Nat, j < 10 → (j : Int).natAbs.log2 < 1920 := by decide +kernel
  exact this j h
theorem getLast_app {l : List Nat} {c : Nat} : (l ++ [c]).getLast? = some c := by simp
theorem ok_S {l : List Nat} (h : ∀ c ∈ l, c < 1114112) : PyData.strOk (S l) = true := by
  show (S l).cps.all (fun c => decide (c < 0x110000)) = true
  rw [Array.all_eq_true_iff_forall_mem]
  intro c hc
  exact decide_eq_true (h c (by simpa [S] using hc))
theorem atI_at {α : Type} {xs : List α} {v : Int} (h : 0 ≤ v) (h2 : v < xs.length) : ∃ x, atI xs v = some x ∧ x ∈ xs := by
  refine ⟨xs[v.toNat]'(by omega), ?_, List.getElem_mem _⟩
  simp [atI, ixN, h, h2]
theorem alnum_lt : ∀ c ∈ alnum, c < 123 := by decide
theorem alpha_lt : ∀ c ∈ alpha, c < 123 := by decide
theorem name_w {j : Nat} (hj : j < 10) (h : ∀ r f n, NameAt j n → Q (.sh .im, .str n) [pS ns a r f, iS j]) : wF dp_l_name Q X [pS ns a r f, iS j] := by
  unfold dp_l_name; rw [wF_fn_z]; unfold bp_l_name
  rw [lit_alpha, lit_dig]
  have la : alpha.length = 26 := rfl
  have ln : alnum.length = 36 := rfl
  refine seq_op (fun ρ => ρ = [some (pS ns a r f), some (iS j), some (.im, .str (S alpha)), none, none]) (fun I hI => ?_) ?_
  · simp; exact hI _ rfl
  rintro _ rfl
  refine seq_op (fun ρ => ∃ r f l, l.length = 1 ∧ (∀ c ∈ l, c < 123) ∧ ρ = [some (pS ns a r f), some (iS j), some (.im, .str (S alpha)), some (.im, .str (S l)), none]) (fun I hI => ?_) ?_
  · simp
    refine draw_w (by decide) (by decide) fun r f v h1 h2 => ?_
    obtain ⟨c, hc, hm⟩ := atI_at (xs := alpha) h1 (by rw [la]; exact h2)
    simp [la, hc]
    exact hI _ ⟨r, f, [c], rfl, by simpa using alpha_lt c hm, rfl⟩
  rintro _ ⟨r, f, l, hl, hc, rfl⟩
  refine seq_op (fun ρ => ∃ r f l x, l.length ≤ 10 ∧ (∀ c ∈ l, c < 123) ∧ ρ = [some (pS ns a r f), some (iS j), some (.im, .str (S alpha)), some (.im, .str (S l)), x]) (fun I hI => ?_) ?_
  · simp
    refine pick_w (by simp) (by simp) fun r f d hd => ?_
    obtain ⟨q, hq, rfl⟩ : ∃ q : Nat, q ≤ 9 ∧ d = .int q := by
      simp at hd; rcases hd with rfl | rfl | rfl | rfl
      · exact ⟨0, by decide, rfl⟩
      · exact ⟨1, by decide, rfl⟩
      · exact ⟨3, by decide, rfl⟩
      · exact ⟨9, by decide, rfl⟩
    simp
    refine ⟨rngOk_n (by omega), ?_⟩
    refine loop_inv (I := fun k ρ => ∃ r f l x, l.length = 1 + k ∧ (∀ c ∈ l, c < 123) ∧ ρ = [some (pS ns a r f), some (iS j), some (.im, .str (S alpha)), some (.im, .str (S l)), x]) ⟨r, f, l, none, hl, hc, rfl⟩ ?_ ?_
    · rintro k d ρ hk ⟨r, f, l, x, hl, hc, rfl⟩
      obtain ⟨hk, rfl⟩ := rangeD_get hk
      have e : alpha ++ (List.range 10).map (48 + ·) = alnum := rfl
      simp [la, -List.map_add_range']
      refine draw_w (by decide) (by decide) fun r f v h1 h2 => ?_
      obtain ⟨c, hc', hm⟩ := atI_at (xs := alnum) h1 (by rw [ln]; exact h2)
      rw [e]
      simp [ln, hc']
      exact ⟨by omega, r, f, l ++ [c], ⟨by simp; omega, fun c' h' => by
        rcases List.mem_append.1 h' with z | z
        · exact hc c' z
        · simp at z; rw [z]; exact alnum_lt c hm, rfl, rfl⟩⟩
    · rintro ρ ⟨r, f, l, x, hl, hc, rfl⟩
      rw [rangeD_len] at hl
      exact hI _ ⟨r, f, l, x, by omega, hc, rfl⟩
  rintro _ ⟨r, f, l, x, hl, hc, rfl⟩
  simp [strOp_dig hj]
  refine ⟨by omega, h r f _ ⟨ok_S fun c h' => ?_, ?_, ?_⟩⟩
  · rcases List.mem_append.1 h' with z | z
    · have := hc c z; omega
    · simp at z; omega
  · simp [S]
  · simp; omega
theorem nameAt_ne {i j : Nat} {x y : Str} (hx : NameAt i x) (hy : NameAt j y) (h : i ≠ j) : x ≠ y := by
  rintro rfl
  have := hx.last.symm.trans hy.last
  simp at this; omega
/-- names at places from b on -/
def NamesFrom (b : Nat) (l : List Str) : Prop := ∀ i x, l[i]? = some x → NameAt (b + i) x
theorem namesFrom_nd : ∀ {l : List Str} {b : Nat}, NamesFrom b l → l.Nodup
  | [], _, _ => List.nodup_nil
  | x :: l, b, h => by
    rw [List.nodup_cons]
    refine ⟨fun hx => ?_, namesFrom_nd (b := b + 1) fun i y hy => ?_⟩
    · obtain ⟨i, hi⟩ := List.mem_iff_getElem?.1 hx
      exact nameAt_ne (h 0 x rfl) (h (i + 1) x (by simpa using hi)) (by omega) rfl
    · have := h (i + 1) y (by simpa using hy)
      rwa [show b + (i + 1) = b + 1 + i by omega] at this
theorem namesFrom_app {l : List Str} {b : Nat} {x : Str} (h : NamesFrom b l) (hx : NameAt (b + l.length) x) : NamesFrom b (l ++ [x]) := by
  intro i y hy
  rw [List.getElem?_append] at hy
  split at hy
  · exact h i y hy
  · rename_i c
    have : i = l.length := by
      have := (List.getElem?_eq_some_iff.1 hy).1
      simp at this; omega
    subst this
    simp at hy; rw [← hy]; exact hx
theorem namesFrom_ok {l : List Str} {b : Nat} (h : NamesFrom b l) : ∀ x ∈ l, PyData.strOk x = true := fun x hx => by
  obtain ⟨i, hi⟩ := List.mem_iff_getElem?.1 hx
  exact (h i x hi).ok
theorem fields_w {m w : Nat} (hm : 1 ≤ m) (hm9 : m ≤ 9) (hw : 2 ≤ w) (hw2 : w ≤ 1000) (h : ∀ a r f fs, FOk m w fs → Q (.sh (.ow .im), fsD fs) [pS ns a r f, iS m, iS w]) : wF dp_l_fields Q X [pS ns a r f, iS m, iS w] := by
  unfold dp_l_fields; rw [wF_fn_z]; unfold bp_l_fields
  refine seq_op (fun ρ => ρ = [some (pS ns a r f), some (iS m), some (iS w), some (.ow .im, fsD []), none, none, none, none]) (fun I hI => ?_) ?_
  · simp; exact hI _ rfl
  rintro _ rfl
  refine seq_op (fun ρ => ∃ r f fs x4 x5 x6, NamesFrom 0 (fs.map (·.1)) ∧ (0 < fs.length ∧ fs.length ≤ m) ∧ (∀ g ∈ fs, g.2.ok w) ∧ ρ = [some (pS ns a r f), some (iS m), some (iS w), some (.ow .im, fsD fs), x4, x5, x6, none]) (fun I hI => ?_) ?_
  · simp
    refine pick_w (by simp) (by simp) fun r f d hd => ?_
    obtain ⟨q, hq, rfl⟩ : ∃ q : Nat, (1 ≤ q ∧ q ≤ m) ∧ d = .int q := by
      simp at hd; rcases hd with rfl | rfl | rfl
      · exact ⟨1, by omega, rfl⟩
      · refine ⟨max 1 (m - 1), by omega, ?_⟩
        congr 1; omega
      · exact ⟨m, by omega, rfl⟩
    simp
    refine ⟨rngOk_n (by omega), ?_⟩
    obtain ⟨J, hJe⟩ : ∃ J : Nat → Rho → Prop, J = fun k ρ => ∃ r f fs x4 x5 x6, NamesFrom 0 (fs.map (·.1)) ∧ fs.length = k ∧ (∀ g ∈ fs, g.2.ok w) ∧ ρ = [some (pS ns a r f), some (iS m), some (iS w), some (.ow .im, fsD fs), x4, x5, x6, none] := ⟨_, rfl⟩
    refine loop_inv (I := J) (by rw [hJe]; exact ⟨r, f, [], none, none, none, fun i x h => by simp at h, rfl, by simp, rfl⟩) ?_ ?_
    · rintro k d ρ hk hJ
      rw [hJe] at hJ
      obtain ⟨r, f, fs, x4, x5, x6, hn, hl, hd, rfl⟩ := hJ
      obtain ⟨hk, rfl⟩ := rangeD_get hk
      have fin : ∀ (r f : Int) (n : Str) (d : Dom) (x5 x6 : Slot), NameAt k n → d.ok w → J (k + 1) [some (pS ns a r f), some (iS m), some (iS w), some (.ow .im, .lst (fs.map fD ++ [.tup [.str n, d.d]])), some (iS k), x5, x6, none] := fun r f n d x5 x6 h1 h2 => by
        rw [hJe]; dsimp only
        refine ⟨r, f, fs ++ [(n, d)], some (iS k), x5, x6, ?_, by simp; omega, fun g hg => ?_, by simp [fsD, fD]⟩
        · rw [List.map_append]; exact namesFrom_app hn (by simpa [hl] using h1)
        · rcases List.mem_append.1 hg with z | z
          · exact hd g z
          · simp at z; rw [z]; exact h2
      clear hJe
      have w4 : ∃ w4 : Nat, min (w : Int) 4 - 1 = w4 ∧ 1 ≤ w4 ∧ w4 ≤ 3 := ⟨min w 4 - 1, by omega, by omega, by omega⟩
      obtain ⟨w4, e4, h41, h42⟩ := w4
      have e1 : (w : Int) - 1 = (w - 1 : Nat) := by omega
      simp
      refine draw_w (by decide) (by decide) fun r f v h1 h2 => ?_
      simp
      split
      · simp [ownIm, e4]
        refine draw_w (by omega) (by omega) fun r f v h3 h4 => ?_
        obtain ⟨z, rfl⟩ : ∃ z : Nat, v = z := ⟨v.toNat, by omega⟩
        simp [ownIm, wipeR]
        refine ⟨rngOk_of (by omega) (by omega), ?_⟩
        refine wC_inv (I := fun j ρ acc => ∃ r f ls, NamesFrom 0 ls ∧ ls.length = j ∧ acc = ls.map D.str ∧ ρ = [some (pS ns a r f), some (iS m), some (iS w), some (.ow .im, fsD fs), some (iS k), x5, x6, none]) ⟨r, f, [], fun i x h => by simp at h, rfl, rfl, rfl⟩ ?_ ?_
        · rintro j d ρ acc hj ⟨r, f, ls, hls, hl2, rfl, rfl⟩
          obtain ⟨hj, rfl⟩ := rangeD_get hj
          simp
          refine name_w (by omega) fun r f n hn' => ?_
          simp [wipeR]
          exact ⟨by omega, r, f, ls ++ [n], namesFrom_app hls (by rw [Nat.zero_add, hl2]; exact hn'), by simp; omega, by simp, rfl⟩
        · rintro ρ acc ⟨r, f, ls, hls, hl2, rfl, rfl⟩
          rw [rangeD_len] at hl2
          simp [mergeR]
          refine name_w (by omega) fun r f n hn' => ?_
          have g1 := fin r f n (.ch ls) (some (.im, .lst (ls.map D.str))) x6 hn' ⟨by omega, by omega, namesFrom_ok hls⟩
          simp
          exact ⟨by omega, g1⟩
      · refine draw_w (by decide) (by decide) fun r f v h3 h4 => ?_
        simp
        refine name_w (by omega) fun r f n hn' => ?_
        simp [e1]
        refine draw_w (by omega) (by omega) fun r f z h5 h6 => ?_
        have g1 := fin r f n (.nu (v - 4) (v - 4 + 1 + z)) x5 (some (iS (v - 4))) hn' ⟨by omega, by omega, by omega, by omega⟩
        simp
        exact ⟨by omega, g1⟩
    · rintro ρ hJ
      rw [hJe] at hJ
      obtain ⟨r, f, fs, x4, x5, x6, hn, hl, hd, rfl⟩ := hJ
      rw [rangeD_len] at hl
      exact hI _ ⟨r, f, fs, x4, x5, x6, hn, by omega, hd, rfl⟩
  rintro _ ⟨r, f, fs, x4, x5, x6, hn, hl, hd, rfl⟩
  simp
  exact h _ _ _ _ ⟨hl.1, hl.2, namesFrom_nd hn, fun g hg => namesFrom_ok hn _ (List.mem_map.2 ⟨g, hg, rfl⟩), hd⟩
end Den

set_option maxHeartbeats 1000000
namespace Den
open PySem PySem.Spec PyProof.Rows L2
/-! what the laws draw: sheets, conditions -/
variable {Q : DV → List (Sh × D) → Prop} {X : Exn → List (Sh × D) → Prop} {ns : List Int} {a r f : Int}
theorem values_w {w : Nat} (hw : w ≤ 1000000) {d : Dom} (hd : d.ok w) (h : Q (.sh (.ow .im), .lst (d.vals.map Val.d)) [(.im, d.d)]) : wF dp_l_values Q X [(.im, d.d)] := by
  unfold dp_l_values; rw [wF_fn_z]; unfold bp_l_values
  cases d with
  | ch ns =>
    simp [Dom.d]
    have e : (Dom.ch ns).vals.map Val.d = ns.map D.str := by simp [Dom.vals, Val.d]
    rw [e] at h
    exact h
  | nu lo hi =>
    obtain ⟨h1, h2, h3, h4⟩ := hd
    have e : (Dom.nu lo hi).vals.map Val.d = rangeD lo (hi + 1 - lo).toNat := by simp [Dom.vals, Val.d, rangeD]
    rw [e] at h
    have g : rgSm lo (hi + 1) = true := by unfold rgSm; rw [decide_eq_true_eq]; omega
    simp [Dom.d, g]
    exact h
/-! sheets -/
theorem getA_app {al : Al} {n m : Str} {v : Val} (h : m ∉ al.map (·.1)) : getA (al ++ [(m, v)]) n = if n = m then some v else getA al n := by
  unfold getA
  rw [List.find?_append]
  by_cases e : n = m
  · subst e
    have : al.find? (fun p => decide (p.1 = n)) = none := by
      rw [List.find?_eq_none]; intro p hp; simp; rintro rfl; exact h (List.mem_map.2 ⟨p, hp, rfl⟩)
    simp [this]
  · have e2 : ¬ m = n := fun z => e z.symm
    cases al.find? (fun p => decide (p.1 = n)) <;> simp [e, e2]
theorem shOk_nil : ShOk [] [] := ⟨rfl, fun _ h => by cases h⟩
theorem shOk_app {fs : List Fld} {al : Al} {g : Fld} {v : Val} (nd : ((fs ++ [g]).map (·.1)).Nodup) (h : ShOk fs al) (hv : g.2.has v) : ShOk (fs ++ [g]) (al ++ [(g.1, v)]) := by
  rw [List.map_append, List.nodup_append] at nd
  have hn : g.1 ∉ fs.map (·.1) := fun z => nd.2.2 _ z g.1 (by simp) rfl
  have hna : g.1 ∉ al.map (·.1) := by rw [h.keys]; exact hn
  refine ⟨by simp [h.keys], fun f hf => ?_⟩
  rw [getA_app hna]
  rcases List.mem_append.1 hf with z | z
  · have : ¬ f.1 = g.1 := fun e => hn (by rw [← e]; exact List.mem_map.2 ⟨f, z, rfl⟩)
    rw [if_neg this]; exact h.has f z
  · simp at z; rw [z, if_pos rfl]; exact ⟨v, rfl, hv⟩
theorem put_sh {al : Al} {n : Str} {v : Val} (h : n ∉ al.map (·.1)) : putD (shK al) (.str n) v.d = shK (al ++ [(n, v)]) := by
  rw [putD_new]
  · simp [shK]
  · intro p hp
    obtain ⟨q, hq, rfl⟩ := List.mem_map.1 hp
    show decide (q.1 = n) = false
    rw [decide_eq_false_iff_not]; rintro rfl; exact h (List.mem_map.2 ⟨q, hq, rfl⟩)
theorem sheet_in {fs : List Fld} {g : Fld} (nd : ((fs ++ [g]).map (·.1)).Nodup) {al : Al} (ha : ShOk fs al) {vs : List Val} (hv : ∀ v ∈ vs, g.2.has v) (hl : vs.length ≤ 40) {N : Rho → Prop} {T : Rho → DV → Prop} {B C : Rho → Prop} {X : Rho → Exn → Prop} {x0 x1 x2 x3 x7 x8 : Slot} {ms : List Al} (hm : ∀ al ∈ ms, ShOk (fs ++ [g]) al) (hz : ms.length ≤ 10000000)
    (hfl : fs.length ≤ 1000) (hN : ∀ (x7 x8 : Slot) (ms' : List Al), (∀ al ∈ ms', ShOk (fs ++ [g]) al) → ms'.length = ms.length + vs.length → N [x0, x1, x2, x3, some (.im, .str g.1), some (.ow .im, .lst (ms'.map shD)), some (.im, shD al), x7, x8]) :
    wS (loopF (gSet 7) (sSeq (sSet 8 (dCall dictAOp (dCons true (dVarF 6) dNil))) (sSeq (sSetKey 8 (dVarF 7) (dVar 4)) (sAppend .im 5 (dVarF 8)))) (vs.map Val.d)) N T B C X [x0, x1, x2, x3, some (.im, .str g.1), some (.ow .im, .lst (ms.map shD)), some (.im, shD al), x7, x8] := by
  have nd' := nd
  rw [List.map_append, List.nodup_append] at nd'
  have hn : g.1 ∉ al.map (·.1) := by rw [ha.keys]; exact fun z => nd'.2.2 _ z g.1 (by simp) rfl
  have nb := (List.nodup_append.1 (by simpa using nd : (fs.map (·.1) ++ [g.1]).Nodup)).1
  obtain ⟨J, hJe⟩ : ∃ J : Nat → Rho → Prop, J = fun j ρ => ∃ (ms' : List Al) (x7 x8 : Slot), (∀ al ∈ ms', ShOk (fs ++ [g]) al) ∧ ms'.length = ms.length + j ∧ ρ = [x0, x1, x2, x3, some (.im, .str g.1), some (.ow .im, .lst (ms'.map shD)), some (.im, shD al), x7, x8] := ⟨_, rfl⟩
  refine loop_inv (I := J) (by rw [hJe]; exact ⟨ms, x7, x8, hm, rfl, rfl⟩) ?_ ?_
  · rintro j d ρ hj hJ
    rw [hJe] at hJ
    obtain ⟨ms', x7, x8, hm', hl', rfl⟩ := hJ
    have hj2 := (List.getElem?_eq_some_iff.1 hj).1
    simp at hj2
    obtain ⟨v, hvm, rfl⟩ := List.mem_map.1 (List.mem_of_getElem? hj)
    have fin : ∀ x7, J (j + 1) [x0, x1, x2, x3, some (.im, .str g.1), some (.ow .im, .lst (ms'.map shD ++ [.dic (shK (al ++ [(g.1, v)]))])), some (.im, shD al), x7, some (.im, .dic (shK (al ++ [(g.1, v)])))] := fun x7 => by
      rw [hJe]; dsimp only
      refine ⟨ms' ++ [al ++ [(g.1, v)]], x7, some (.im, .dic (shK (al ++ [(g.1, v)]))), fun al' h' => ?_, by simp; omega, by simp [shD]⟩
      rcases List.mem_append.1 h' with z | z
      · exact hm' al' z
      · simp at z; rw [z]; exact shOk_app nd ha (hv v hvm)
    clear hJe
    have hs : (shK al).length ≤ 1000000 := by
      have := congrArg List.length ha.keys
      simp at this
      simp [shK]; omega
    simp [shD, put_sh hn]
    exact ⟨by omega, by omega, fin _⟩
  · rintro ρ hJ
    rw [hJe] at hJ
    obtain ⟨ms', x7, x8, hm', hl', rfl⟩ := hJ
    rw [List.length_map] at hl'
    exact hN x7 x8 ms' hm' hl'
theorem sheets_w {m w : Nat} {fs : List Fld} (hf : FOk m w fs) (hm : m ≤ 4) (hw : w ≤ 40) {s s' : Sh} (h : ∀ ss : List Al, 0 < ss.length → ss.length ≤ 3000000 → (∀ al ∈ ss, ShOk fs al) → ∀ s, isO s → Q (.sh s, .lst (ss.map shD)) [(.im, fsD fs), (.im, sD (fs.map (·.1)))]) :
    wF dp_l_sheets Q X [(s, fsD fs), (s', sD (fs.map (·.1)))] := by
  unfold dp_l_sheets; rw [wF_fn_z]; unfold bp_l_sheets
  refine seq_op (fun ρ => ρ = [some (.im, fsD fs), some (s', sD (fs.map (·.1))), some (.ow .im, domD fs), none, none, none, none, none, none]) (fun I hI => ?_) ?_
  · simp [fsD, pairs_fs, merge_fs hf.nd]; exact hI _ rfl
  rintro _ rfl
  refine seq_op (fun ρ => ρ = [some (.im, fsD fs), some (s', sD (fs.map (·.1))), some (.ow .im, domD fs), some (.ow .im, .lst [.dic []]), none, none, none, none, none]) (fun I hI => ?_) ?_
  · simp; exact hI _ rfl
  rintro _ rfl
  have kl := hf.few
  refine seq_op (fun ρ => ∃ (ss : List Al) (x2 x4 x5 x6 x7 x8 : Slot) (s : Sh), isO s ∧ (0 < ss.length ∧ ss.length ≤ 40 ^ fs.length) ∧ (∀ al ∈ ss, ShOk fs al) ∧ ρ = [some (.im, fsD fs), some (.im, sD (fs.map (·.1))), x2, some (s, .lst (ss.map shD)), x4, x5, x6, x7, x8]) (fun I hI => ?_) ?_
  · simp [sD]
    obtain ⟨J, hJe⟩ : ∃ J : Nat → Rho → Prop, J = fun k ρ => ∃ (ss : List Al) (x4 x5 x6 x7 x8 : Slot) (s s2 : Sh), isO s ∧ isO s2 ∧ (0 < ss.length ∧ ss.length ≤ 40 ^ k) ∧ (∀ al ∈ ss, ShOk (fs.take k) al) ∧ ρ = [some (.im, fsD fs), some (.im, sD (fs.map (·.1))), some (s2, domD fs), some (s, .lst (ss.map shD)), x4, x5, x6, x7, x8] := ⟨_, rfl⟩
    refine loop_inv (I := J) (by rw [hJe]; exact ⟨[[]], none, none, none, none, none, _, _, isO_ow, isO_ow, by simp, by simp; exact shOk_nil, by simp [shD, shK, sD]⟩) ?_ ?_
    · rintro k d ρ hk hJ
      rw [hJe] at hJ
      obtain ⟨ss, x4, x5, x6, x7, x8, s, s2, hs, hs2, hl, hss, rfl⟩ := hJ
      rw [List.getElem?_map] at hk
      obtain ⟨g, hg, rfl⟩ := Option.map_eq_some_iff.1 hk
      have hgm := List.mem_of_getElem? hg
      have hk4 := (List.getElem?_eq_some_iff.1 hg).1
      have etk : fs.take (k + 1) = fs.take k ++ [g] := by rw [List.take_add_one, hg]; rfl
      have nd : ((fs.take k ++ [g]).map (·.1)).Nodup := by rw [← etk, List.map_take]; exact hf.nd.take
      have gd : g.2.ok w := hf.dm g hgm
      have gl := Dom.vals_len gd
      have p40 : 40 ^ k ≤ 40 ^ 3 := Nat.pow_le_pow_right (by decide) (by omega)
      have fin : ∀ (ms : List Al) (x6 x7 x8 : Slot) (s2 : Sh), isO s2 → (∀ al ∈ ms, ShOk (fs.take k ++ [g]) al) → ms.length = ss.length * g.2.vals.length → J (k + 1) [some (.im, fsD fs), some (.im, sD (fs.map (·.1))), some (s2, domD fs), some (.im, .lst (ms.map shD)), some (.im, .str g.1), some (.im, .lst (ms.map shD)), x6, x7, x8] := fun ms x6 x7 x8 s2 hs2 h1 h2 => by
        rw [hJe]; dsimp only
        refine ⟨ms, _, _, x6, x7, x8, _, s2, isO_im, hs2, ⟨?_, ?_⟩, by rw [etk]; exact h1, rfl⟩
        · rw [h2]; exact Nat.mul_pos hl.1 gl.1
        · rw [h2, Nat.pow_succ]; exact Nat.mul_le_mul hl.2 (by omega)
      clear hJe
      simp [sD]
      refine loop_inv (I := fun i ρ => ∃ (ms : List Al) (x6 x7 x8 : Slot) (s2 : Sh), isO s2 ∧ (∀ al ∈ ms, ShOk (fs.take k ++ [g]) al) ∧ ms.length = i * g.2.vals.length ∧ ρ = [some (.im, fsD fs), some (.im, sD (fs.map (·.1))), some (s2, domD fs), some (.im, .lst (ss.map shD)), some (.im, .str g.1), some (.ow .im, .lst (ms.map shD)), x6, x7, x8]) ⟨[], x6, x7, x8, s2, hs2, by simp, by simp, by simp [sD]⟩ ?_ ?_
      · rintro i d ρ hi ⟨ms, x6, x7, x8, s2, hs2, hms, hml, rfl⟩
        have hi2 := (List.getElem?_eq_some_iff.1 hi).1
        simp at hi2
        obtain ⟨al, halm, rfl⟩ := List.mem_map.1 (List.mem_of_getElem? hi)
        have e := getF_mem hf.nd hgm
        have b1 : i * g.2.vals.length ≤ 40 ^ 3 * 40 := Nat.mul_le_mul (by omega) (by omega)
        rcases hs2 with rfl | rfl
        all_goals
          simp [getK_dom, e]
          refine values_w (by omega) gd ?_
          simp
          refine sheet_in nd (hss al halm) (fun v hv => Dom.vals_has.1 hv) (by omega) hms (by omega) (by rw [List.length_take]; omega) fun x7 x8 ms' h1 h2 => ?_
          exact ⟨ms', _, x7, x8, _, isO_im, h1, by rw [h2, hml, Nat.add_mul]; omega, rfl⟩
      · rintro ρ ⟨ms, x6, x7, x8, s2, hs2, hms, hml, rfl⟩
        simp
        exact fin ms x6 x7 x8 s2 hs2 hms (by simpa using hml)
    · rintro ρ hJ
      rw [hJe] at hJ
      obtain ⟨ss, x4, x5, x6, x7, x8, s, s2, hs, hs2, hl, hss, rfl⟩ := hJ
      simp only [List.length_map] at hl hss
      rw [List.take_length] at hss
      exact hI _ ⟨ss, _, x4, x5, x6, x7, x8, s, hs, hl, hss, rfl⟩
  rintro _ ⟨ss, x2, x4, x5, x6, x7, x8, s, hs, hl, hss, rfl⟩
  have p40 : 40 ^ fs.length ≤ 40 ^ 4 := Nat.pow_le_pow_right (by decide) (by omega)
  rcases hs with rfl | rfl
  all_goals
    simp
    exact h ss hl.1 (by omega) hss _ (by first | exact isO_im | exact isO_ow)
end Den

set_option maxHeartbeats 1000000
namespace Den
open PySem PySem.Spec PyProof.Rows L2
/-! _law_same of equal data with dicts -/
inductive Plan : Nat → D → Prop
  | leaf {n : Nat} {d : D} : D.plain 0 d = true → Plan n d
  | lst {n : Nat} {xs : List D} : xs.length ≤ 16777216 → (∀ x ∈ xs, Plan n x) → Plan (n + 1) (.lst xs)
  | tup {n : Nat} {xs : List D} : xs.length ≤ 16777216 → (∀ x ∈ xs, Plan n x) → Plan (n + 1) (.tup xs)
  | dic {n : Nat} {ns : List Str} {vs : List D} : ns.length = vs.length → ns.Nodup → ns.length ≤ 1000 → (∀ v ∈ vs, Plan n v) → Plan (n + 1) (.dic ((ns.map D.str).zip vs))
theorem plain_up {k : Nat} {d : D} (h : D.plain 0 d = true) : D.plain k d = true := by
  cases k with
  | zero => exact h
  | succ k => cases d <;> simp [D.plain] at h <;> rfl
theorem getK_zip {n : Str} {v : D} : ∀ {ns : List Str} {vs : List D} {j : Nat}, ns.Nodup → ns[j]? = some n → vs[j]? = some v → getK ((ns.map D.str).zip vs) (.str n) = some v
  | [], _, _, _, h, _ => by simp at h
  | _ :: _, [], _, _, _, h => by simp at h
  | m :: ns, u :: vs, 0, _, h1, h2 => by
    simp at h1 h2
    subst h1 h2
    have : keyEq (D.str m) (.str m) = true := decide_eq_true rfl
    unfold getK
    rw [List.map_cons, List.zip_cons_cons, List.find?_cons]
    simp [this]
  | m :: ns, u :: vs, j + 1, nd, h1, h2 => by
    have ne : m ≠ n := fun e => by
      have : n ∈ ns := List.mem_of_getElem? (by simpa using h1)
      rw [List.nodup_cons] at nd
      exact nd.1 (e ▸ this)
    have hk : keyEq (D.str m) (.str n) = false := decide_eq_false ne
    have ih := getK_zip (n := n) (v := v) (ns := ns) (vs := vs) (j := j) (List.nodup_cons.mp nd).2 (by simpa using h1) (by simpa using h2)
    unfold getK at ih ⊢
    rw [List.map_cons, List.zip_cons_cons, List.find?_cons]
    simp only [hk]
    exact ih
theorem keys_zip {ns : List Str} {vs : List D} (h : ns.length = vs.length) : ((ns.map D.str).zip vs).map (·.1) = ns.map D.str := by
  rw [List.map_fst_zip]; simp; omega
def bp_sameD (den : FDen) : DenS :=
  (sSeq (sIf (dTruth (dCall isiOp (dCons true (dVar 1) (dCons true (dC (.ty "dict")) dNil)))) (sSeq (sIf (dOr (dNot (dTruth (dCall isiOp (dCons true (dVar 0) (dCons true (dC (.ty "dict")) dNil))))) (dTst (dBin true neOp (dCall lenOp (dCons true (dVar 0) dNil)) (dCall lenOp (dCons true (dVar 1) dNil))))) (sRet (dC (.bl false))) sNil) (sRet (dCall allOp (dCons true (dCompN [2] .im 1 (gSet 2) (dRet true) (dAndV (dBin true inOp (dVar 2) (dVar 0)) (dCallF 2 den (dAsC true (dIdx true (dVarF 0) (dVar 2)) (dAsC true (dIdx true (dVarF 1) (dVar 2)) dAsNil))))) dNil)))) sNil) (sSeq (sIf (dOr (dTruth (dCall isiOp (dCons true (dVar 1) (dCons true (dC (.ty "list")) dNil)))) (dTruth (dCall isiOp (dCons true (dVar 1) (dCons true (dC (.ty "tuple")) dNil))))) (sSeq (sIf (dOr (dTst (dBin true neOp (dCall isiOp (dCons true (dVar 1) (dCons true (dC (.ty "list")) dNil))) (dCall isiOp (dCons true (dVar 0) (dCons true (dC (.ty "list")) dNil))))) (dTst (dBin true neOp (dCall isiOp (dCons true (dVar 1) (dCons true (dC (.ty "tuple")) dNil))) (dCall isiOp (dCons true (dVar 0) (dCons true (dC (.ty "tuple")) dNil)))))) (sRet (dC (.bl false))) sNil) (sRet (dAndV (dBin true eqOp (dCall lenOp (dCons true (dVar 0) dNil)) (dCall lenOp (dCons true (dVar 1) dNil))) (dCall allOp (dCons true (dComp [3] .im (dRange (dCons true (dCall lenOp (dCons true (dVar 1) dNil)) dNil)) (gSet 3) (dRet true) (dCallF 2 den (dAsC true (dIdx true (dVarF 0) (dVar 3)) (dAsC true (dIdx true (dVarF 1) (dVar 3)) dAsNil)))) dNil))))) sNil) (sSeq (sIf (dTruth (dCall isiOp (dCons true (dVar 1) (dCons true (dC (.ty "str")) dNil)))) (sRet (dAndV (dCall isiOp (dCons true (dVar 0) (dCons true (dC (.ty "str")) dNil))) (dBin true eqOp (dVar 0) (dVar 1)))) sNil) (sSeq (sIf (dOr (dTst (dBin true isOp (dVar 1) (dC .non))) (dOr (dTst (dBin true isOp (dVar 1) (dC (.bl true)))) (dTst (dBin true isOp (dVar 1) (dC (.bl false)))))) (sRet (dOrV (dAndV (dBin true isOp (dVar 1) (dC .non)) (dBin true isOp (dVar 0) (dC .non))) (dOrV (dAndV (dBin true isOp (dVar 1) (dC (.bl true))) (dBin true isOp (dVar 0) (dC (.bl true)))) (dAndV (dBin true isOp (dVar 1) (dC (.bl false))) (dBin true isOp (dVar 0) (dC (.bl false))))))) sNil) (sRet (dAndV (dCall isiOp (dCons true (dVar 0) (dCons true (dC (.ty "int")) dNil))) (dAndV (dNotV (dCall isiOp (dCons true (dVar 0) (dCons true (dC (.ty "bool")) dNil)))) (dBin true eqOp (dVar 0) (dVar 1)))))))))
def dp_sameD : Nat → FDen
  | 0 => fun _ => none
  | k + 1 => fnDen [] 2 4 (bp_sameD (dp_sameD k))
theorem sameD_w : ∀ (k : Nat) (d : D), D.plain k d = true → ∀ (s s' : Sh) {Q : DV → List (Sh × D) → Prop} {X : Exn → List (Sh × D) → Prop}, (∀ s s', Q (.sh .im, .bl true) [(s, d), (s', d)]) → wF (dp_sameD (k + 1)) Q X [(s, d), (s', d)] := by
  intro k
  induction k with
  | zero =>
    intro d hd s s' Q X h
    unfold dp_sameD; rw [wF_fn_z]; unfold bp_sameD
    cases d <;> simp [D.plain] at hd
    · refine seq_skip (by simp [isiOp, tyName, isiB]) ?_
      refine seq_skip (by simp [isiOp, tyName, isiB]) ?_
      refine seq_skip (by simp [isiOp, tyName, isiB]) ?_
      refine seq_take (by simp [isOp, isD]) ?_
      simp [isOp, isD]; exact h _ _
    · rename_i b
      refine seq_skip (by simp [isiOp, tyName, isiB]) ?_
      refine seq_skip (by simp [isiOp, tyName, isiB]) ?_
      refine seq_skip (by simp [isiOp, tyName, isiB]) ?_
      refine seq_take (by cases b <;> simp [isOp, isD]) ?_
      cases b <;> (simp [isOp, isD]; exact h _ _)
    · refine seq_skip (by simp [isiOp, tyName, isiB]) ?_
      refine seq_skip (by simp [isiOp, tyName, isiB]) ?_
      refine seq_skip (by simp [isiOp, tyName, isiB]) ?_
      refine seq_skip (by simp [isOp, isD]) ?_
      simp [isiOp, tyName, isiB]; exact h _ _
    · refine seq_skip (by simp [isiOp, tyName, isiB]) ?_
      refine seq_skip (by simp [isiOp, tyName, isiB]) ?_
      refine seq_take (by simp [isiOp, tyName, isiB]) ?_
      simp [isiOp, tyName, isiB]; exact h _ _
  | succ k ih =>
    intro d hd s s' Q X h
    unfold dp_sameD; rw [wF_fn_z]; unfold bp_sameD
    cases d with
    | non =>
      refine seq_skip (by simp [isiOp, tyName, isiB]) ?_
      refine seq_skip (by simp [isiOp, tyName, isiB]) ?_
      refine seq_skip (by simp [isiOp, tyName, isiB]) ?_
      refine seq_take (by simp [isOp, isD]) ?_
      simp [isOp, isD]; exact h _ _
    | bl b =>
      refine seq_skip (by simp [isiOp, tyName, isiB]) ?_
      refine seq_skip (by simp [isiOp, tyName, isiB]) ?_
      refine seq_skip (by simp [isiOp, tyName, isiB]) ?_
      refine seq_take (by cases b <;> simp [isOp, isD]) ?_
      cases b <;> (simp [isOp, isD]; exact h _ _)
    | int i =>
      refine seq_skip (by simp [isiOp, tyName, isiB]) ?_
      refine seq_skip (by simp [isiOp, tyName, isiB]) ?_
      refine seq_skip (by simp [isiOp, tyName, isiB]) ?_
      refine seq_skip (by simp [isOp, isD]) ?_
      simp [isiOp, tyName, isiB]; exact h _ _
    | str x =>
      refine seq_skip (by simp [isiOp, tyName, isiB]) ?_
      refine seq_skip (by simp [isiOp, tyName, isiB]) ?_
      refine seq_take (by simp [isiOp, tyName, isiB]) ?_
      simp [isiOp, tyName, isiB]; exact h _ _
    | lst xs =>
      simp [D.plain] at hd
      have hl : xs.length ≤ 16777216 := hd.1
      refine seq_skip (by simp [isiOp, tyName, isiB]) ?_
      refine seq_take (by simp [isiOp, tyName, isiB]) ?_
      refine seq_skip (by simp [isiOp, tyName, isiB]) ?_
      simp [ownIm, wipeR]
      refine ⟨rngOk_n (by omega), ?_⟩
      refine wC_inv (I := fun j ρ acc => (∃ s s', ρ = [some (s, .lst xs), some (s', .lst xs), none, none]) ∧ acc = (List.range j).map fun _ => D.bl true) ⟨⟨_, _, rfl⟩, rfl⟩ ?_ ?_
      · intro j d ρ acc hj hI
        obtain ⟨⟨s, s', rfl⟩, rfl⟩ := hI
        obtain ⟨hk, rfl⟩ := rangeD_get hj
        have h2 : xs[j]? = some xs[j] := by simp [hk]
        simp [atI_n h2]
        refine ih _ (plains_mem hd.2 (List.getElem_mem hk)) .im .im fun s s' => ?_
        simp [wipeR, List.range_succ, sizeLine]
        omega
      · intro ρ acc hI
        obtain ⟨⟨s, s', rfl⟩, rfl⟩ := hI
        simp [rangeD_len, all_true, mergeR]
        exact h _ _
    | tup xs =>
      simp [D.plain] at hd
      have hl : xs.length ≤ 16777216 := hd.1
      refine seq_skip (by simp [isiOp, tyName, isiB]) ?_
      refine seq_take (by simp [isiOp, tyName, isiB]) ?_
      refine seq_skip (by simp [isiOp, tyName, isiB]) ?_
      simp [ownIm, wipeR]
      refine ⟨rngOk_n (by omega), ?_⟩
      refine wC_inv (I := fun j ρ acc => (∃ s s', ρ = [some (s, .tup xs), some (s', .tup xs), none, none]) ∧ acc = (List.range j).map fun _ => D.bl true) ⟨⟨_, _, rfl⟩, rfl⟩ ?_ ?_
      · intro j d ρ acc hj hI
        obtain ⟨⟨s, s', rfl⟩, rfl⟩ := hI
        obtain ⟨hk, rfl⟩ := rangeD_get hj
        have h2 : xs[j]? = some xs[j] := by simp [hk]
        simp [atI_n h2]
        refine ih _ (plains_mem hd.2 (List.getElem_mem hk)) .im .im fun s s' => ?_
        simp [wipeR, List.range_succ, sizeLine]
        omega
      · intro ρ acc hI
        obtain ⟨⟨s, s', rfl⟩, rfl⟩ := hI
        simp [rangeD_len, all_true, mergeR]
        exact h _ _
    | _ => simp [D.plain] at hd
theorem sameP_w : ∀ (k : Nat) (d : D), Plan k d → ∀ (s s' : Sh) {Q : DV → List (Sh × D) → Prop} {X : Exn → List (Sh × D) → Prop}, (∀ s s', Q (.sh .im, .bl true) [(s, d), (s', d)]) → wF (dp_sameD (k + 1)) Q X [(s, d), (s', d)] := by
  intro k
  induction k with
  | zero =>
    intro d hd s s' Q X h
    cases hd with
    | leaf hp => exact sameD_w 0 d hp s s' h
  | succ k ih =>
    intro d hd s s' Q X h
    cases hd with
    | leaf hp => exact sameD_w (k + 1) d (plain_up hp) s s' h
    | @lst _ xs hl hm =>
      unfold dp_sameD; rw [wF_fn_z]; unfold bp_sameD
      refine seq_skip (by simp [isiOp, tyName, isiB]) ?_
      refine seq_take (by simp [isiOp, tyName, isiB]) ?_
      refine seq_skip (by simp [isiOp, tyName, isiB]) ?_
      simp [ownIm, wipeR]
      refine ⟨rngOk_n (by omega), ?_⟩
      refine wC_inv (I := fun j ρ acc => (∃ s s', ρ = [some (s, .lst xs), some (s', .lst xs), none, none]) ∧ acc = (List.range j).map fun _ => D.bl true) ⟨⟨_, _, rfl⟩, rfl⟩ ?_ ?_
      · intro j d ρ acc hj hI
        obtain ⟨⟨s, s', rfl⟩, rfl⟩ := hI
        obtain ⟨hk, rfl⟩ := rangeD_get hj
        have h2 : xs[j]? = some xs[j] := by simp [hk]
        simp [atI_n h2]
        refine ih _ (hm _ (List.getElem_mem hk)) .im .im fun s s' => ?_
        simp [wipeR, List.range_succ, sizeLine]
        omega
      · intro ρ acc hI
        obtain ⟨⟨s, s', rfl⟩, rfl⟩ := hI
        simp [rangeD_len, all_true, mergeR]
        exact h _ _
    | @tup _ xs hl hm =>
      unfold dp_sameD; rw [wF_fn_z]; unfold bp_sameD
      refine seq_skip (by simp [isiOp, tyName, isiB]) ?_
      refine seq_take (by simp [isiOp, tyName, isiB]) ?_
      refine seq_skip (by simp [isiOp, tyName, isiB]) ?_
      simp [ownIm, wipeR]
      refine ⟨rngOk_n (by omega), ?_⟩
      refine wC_inv (I := fun j ρ acc => (∃ s s', ρ = [some (s, .tup xs), some (s', .tup xs), none, none]) ∧ acc = (List.range j).map fun _ => D.bl true) ⟨⟨_, _, rfl⟩, rfl⟩ ?_ ?_
      · intro j d ρ acc hj hI
        obtain ⟨⟨s, s', rfl⟩, rfl⟩ := hI
        obtain ⟨hk, rfl⟩ := rangeD_get hj
        have h2 : xs[j]? = some xs[j] := by simp [hk]
        simp [atI_n h2]
        refine ih _ (hm _ (List.getElem_mem hk)) .im .im fun s s' => ?_
        simp [wipeR, List.range_succ, sizeLine]
        omega
      · intro ρ acc hI
        obtain ⟨⟨s, s', rfl⟩, rfl⟩ := hI
        simp [rangeD_len, all_true, mergeR]
        exact h _ _
    | @dic _ ns vs hl nd hz hm =>
      unfold dp_sameD; rw [wF_fn_z]; unfold bp_sameD
      obtain ⟨kds, hk⟩ : ∃ kds, kds = (ns.map D.str).zip vs := ⟨_, rfl⟩
      have hks : kds.map (·.1) = ns.map D.str := by rw [hk]; exact keys_zip hl
      rw [← hk] at h ⊢
      refine seq_take (by simp [isiOp, tyName, isiB]) ?_
      refine seq_skip (by simp [isiOp, tyName, isiB]) ?_
      simp [ownIm, wipeR, itemsOf]
      simp only [hks]
      refine wC_inv (I := fun j ρ acc => (∃ s s', ρ = [some (s, .dic kds), some (s', .dic kds), none, none]) ∧ acc = (List.range j).map fun _ => D.bl true) ⟨⟨_, _, rfl⟩, rfl⟩ ?_ ?_
      · intro j d ρ acc hj hI
        obtain ⟨⟨s, s', rfl⟩, rfl⟩ := hI
        rw [List.getElem?_map] at hj
        obtain ⟨n, hn, rfl⟩ := Option.map_eq_some_iff.mp hj
        have hjl : j < vs.length := by rw [← hl]; exact (List.getElem?_eq_some_iff.mp hn).1
        have hv : vs[j]? = some vs[j] := by simp [hjl]
        have hg : getK kds (.str n) = some vs[j] := by rw [hk]; exact getK_zip nd hn hv
        simp [hg]
        refine ih _ (hm _ (List.getElem_mem hjl)) .im .im fun s s' => ?_
        simp [wipeR, List.range_succ, sizeLine]
        omega
      · intro ρ acc hI
        obtain ⟨⟨s, s', rfl⟩, rfl⟩ := hI
        simp [all_true, mergeR]
        exact h _ _
end Den

set_option maxHeartbeats 4000000
namespace Lk75
open PySem PySem.Spec PyProof.Rows L2 Den
def topS (i : Nat) : Stmt := PySem.Challenge.pw_whyform_k75_templates_said.main.body.getD i (.Pass ⟨0, 0, 0, 0⟩)
abbrev i_NoValue : Stmt := clsM (topS 2) 0
abbrev i_NoNumber : Stmt := clsM (topS 3) 0
abbrev s__law_mixed : Stmt := topS 12
abbrev s__law_rest : Stmt := topS 13
abbrev s__law_pool : Stmt := topS 14
abbrev s__law_next : Stmt := topS 15
abbrev s__law_draw : Stmt := topS 16
abbrev s__law_pick : Stmt := topS 17
abbrev s__law_same : Stmt := topS 18
abbrev s__law_copied : Stmt := topS 19
abbrev s__law_phrase : Stmt := topS 22
abbrev s__law_template_drawn : Stmt := topS 23
abbrev s__law_values_drawn : Stmt := topS 24
abbrev s__law_is_int : Stmt := topS 20
abbrev s__law_class : Stmt := topS 21
abbrev s__law_due : Stmt := topS 25
abbrev s_holds_for : Stmt := topS 6
abbrev s_class_of : Stmt := topS 7
abbrev s_is_number : Stmt := topS 9
abbrev s_said : Stmt := topS 10
abbrev s__law_told : Stmt := topS 26
abbrev s_law : Stmt := topS 27
theorem sc__law_mixed : FnScope ["number", "place", "first", "second", "third"] ["number", "place"] (defScope s__law_mixed) := ⟨rfl, rfl, rfl, by decide +kernel, rfl, by decide +kernel, by decide +kernel⟩
theorem sc__law_rest : FnScope ["script", "place", "fills", "number"] ["script", "place", "fills"] (defScope s__law_rest) := ⟨rfl, rfl, rfl, by decide +kernel, rfl, by decide +kernel, by decide +kernel⟩
theorem sc__law_pool : FnScope ["script"] ["script"] (defScope s__law_pool) := ⟨rfl, rfl, rfl, by decide +kernel, rfl, by decide +kernel, by decide +kernel⟩
theorem sc__law_next : FnScope ["pool"] ["pool"] (defScope s__law_next) := ⟨rfl, rfl, rfl, by decide +kernel, rfl, by decide +kernel, by decide +kernel⟩
theorem sc__law_draw : FnScope ["pool", "limit", "value"] ["pool", "limit"] (defScope s__law_draw) := ⟨rfl, rfl, rfl, by decide +kernel, rfl, by decide +kernel, by decide +kernel⟩
theorem sc__law_pick : FnScope ["pool", "options"] ["pool", "options"] (defScope s__law_pick) := ⟨rfl, rfl, rfl, by decide +kernel, rfl, by decide +kernel, by decide +kernel⟩
theorem sc__law_same : FnScope ["answer", "due", "key", "k"] ["answer", "due"] (defScope s__law_same) := ⟨rfl, rfl, rfl, by decide +kernel, rfl, by decide +kernel, by decide +kernel⟩
theorem sc__law_copied : FnScope ["value", "found", "key", "one"] ["value"] (defScope s__law_copied) := ⟨rfl, rfl, rfl, by decide +kernel, rfl, by decide +kernel, by decide +kernel⟩
theorem sc__law_phrase : FnScope ["pool", "signs", "k"] ["pool"] (defScope s__law_phrase) := ⟨rfl, rfl, rfl, by decide +kernel, rfl, by decide +kernel, by decide +kernel⟩
theorem sc__law_template_drawn : FnScope ["pool", "pieces", "k", "name", "table", "word"] ["pool"] (defScope s__law_template_drawn) := ⟨rfl, rfl, rfl, by decide +kernel, rfl, by decide +kernel, by decide +kernel⟩
theorem sc__law_values_drawn : FnScope ["pool", "found", "name", "number", "value"] ["pool"] (defScope s__law_values_drawn) := ⟨rfl, rfl, rfl, by decide +kernel, rfl, by decide +kernel, by decide +kernel⟩
theorem sc__law_is_int : FnScope ["value"] ["value"] (defScope s__law_is_int) := ⟨rfl, rfl, rfl, by decide +kernel, rfl, by decide +kernel, by decide +kernel⟩
theorem sc__law_class : FnScope ["rules", "number", "test", "name", "place", "modulus", "low", "high"] ["rules", "number"] (defScope s__law_class) := ⟨rfl, rfl, rfl, by decide +kernel, rfl, by decide +kernel, by decide +kernel⟩
theorem sc__law_due : FnScope ["template", "rules", "values", "piece", "words", "value"] ["template", "rules", "values"] (defScope s__law_due) := ⟨rfl, rfl, rfl, by decide +kernel, rfl, by decide +kernel, by decide +kernel⟩
theorem sc_holds_for : FnScope ["test", "number", "place", "modulus", "low", "high"] ["test", "number"] (defScope s_holds_for) := ⟨rfl, rfl, rfl, by decide +kernel, rfl, by decide +kernel, by decide +kernel⟩
theorem sc_class_of : FnScope ["rules", "number", "test", "name"] ["rules", "number"] (defScope s_class_of) := ⟨rfl, rfl, rfl, by decide +kernel, rfl, by decide +kernel, by decide +kernel⟩
theorem sc_is_number : FnScope ["value"] ["value"] (defScope s_is_number) := ⟨rfl, rfl, rfl, by decide +kernel, rfl, by decide +kernel, by decide +kernel⟩
theorem sc_said : FnScope ["template", "rules", "values", "piece", "found", "name"] ["template", "rules", "values"] (defScope s_said) := ⟨rfl, rfl, rfl, by decide +kernel, rfl, by decide +kernel, by decide +kernel⟩
theorem sc__law_told : FnScope ["template", "rules", "values", "e"] ["template", "rules", "values"] (defScope s__law_told) := ⟨rfl, rfl, rfl, by decide +kernel, rfl, by decide +kernel, by decide +kernel⟩
theorem sc_law : FnScope ["script", "pool", "turn", "template", "rules", "k", "values", "handed", "modulus", "low"] ["script"] (defScope s_law) := ⟨rfl, rfl, rfl, by decide +kernel, rfl, by decide +kernel, by decide +kernel⟩
structure Txt (P : Program) (K : PySem.W.Frag) (mg : Str → Option Value) where
  a__law_mixed : Addr
  fd__law_mixed : FuncData
  F__law_mixed : L2.Fun K "_law_mixed" "_law_mixed" s__law_mixed a__law_mixed fd__law_mixed
  m__law_mixed : mg "_law_mixed" = some (.ref a__law_mixed)
  b__law_mixed : L2.Binds K fd__law_mixed ["number", "place"] []
  a__law_rest : Addr
  fd__law_rest : FuncData
  F__law_rest : L2.Fun K "_law_rest" "_law_rest" s__law_rest a__law_rest fd__law_rest
  m__law_rest : mg "_law_rest" = some (.ref a__law_rest)
  b__law_rest : L2.Binds K fd__law_rest ["script", "place", "fills"] []
  a__law_pool : Addr
  fd__law_pool : FuncData
  F__law_pool : L2.Fun K "_law_pool" "_law_pool" s__law_pool a__law_pool fd__law_pool
  m__law_pool : mg "_law_pool" = some (.ref a__law_pool)
  b__law_pool : L2.Binds K fd__law_pool ["script"] []
  a__law_next : Addr
  fd__law_next : FuncData
  F__law_next : L2.Fun K "_law_next" "_law_next" s__law_next a__law_next fd__law_next
  m__law_next : mg "_law_next" = some (.ref a__law_next)
  b__law_next : L2.Binds K fd__law_next ["pool"] []
  a__law_draw : Addr
  fd__law_draw : FuncData
  F__law_draw : L2.Fun K "_law_draw" "_law_draw" s__law_draw a__law_draw fd__law_draw
  m__law_draw : mg "_law_draw" = some (.ref a__law_draw)
  b__law_draw : L2.Binds K fd__law_draw ["pool", "limit"] []
  a__law_pick : Addr
  fd__law_pick : FuncData
  F__law_pick : L2.Fun K "_law_pick" "_law_pick" s__law_pick a__law_pick fd__law_pick
  m__law_pick : mg "_law_pick" = some (.ref a__law_pick)
  b__law_pick : L2.Binds K fd__law_pick ["pool", "options"] []
  a__law_same : Addr
  fd__law_same : FuncData
  F__law_same : L2.Fun K "_law_same" "_law_same" s__law_same a__law_same fd__law_same
  m__law_same : mg "_law_same" = some (.ref a__law_same)
  b__law_same : L2.Binds K fd__law_same ["answer", "due"] []
  a__law_copied : Addr
  fd__law_copied : FuncData
  F__law_copied : L2.Fun K "_law_copied" "_law_copied" s__law_copied a__law_copied fd__law_copied
  m__law_copied : mg "_law_copied" = some (.ref a__law_copied)
  b__law_copied : L2.Binds K fd__law_copied ["value"] []
  a__law_phrase : Addr
  fd__law_phrase : FuncData
  F__law_phrase : L2.Fun K "_law_phrase" "_law_phrase" s__law_phrase a__law_phrase fd__law_phrase
  m__law_phrase : mg "_law_phrase" = some (.ref a__law_phrase)
  b__law_phrase : L2.Binds K fd__law_phrase ["pool"] []
  a__law_template_drawn : Addr
  fd__law_template_drawn : FuncData
  F__law_template_drawn : L2.Fun K "_law_template_drawn" "_law_template_drawn" s__law_template_drawn a__law_template_drawn fd__law_template_drawn
  m__law_template_drawn : mg "_law_template_drawn" = some (.ref a__law_template_drawn)
  b__law_template_drawn : L2.Binds K fd__law_template_drawn ["pool"] []
  a__law_values_drawn : Addr
  fd__law_values_drawn : FuncData
  F__law_values_drawn : L2.Fun K "_law_values_drawn" "_law_values_drawn" s__law_values_drawn a__law_values_drawn fd__law_values_drawn
  m__law_values_drawn : mg "_law_values_drawn" = some (.ref a__law_values_drawn)
  b__law_values_drawn : L2.Binds K fd__law_values_drawn ["pool"] []
  a__law_is_int : Addr
  fd__law_is_int : FuncData
  F__law_is_int : L2.Fun K "_law_is_int" "_law_is_int" s__law_is_int a__law_is_int fd__law_is_int
  m__law_is_int : mg "_law_is_int" = some (.ref a__law_is_int)
  b__law_is_int : L2.Binds K fd__law_is_int ["value"] []
  a__law_class : Addr
  fd__law_class : FuncData
  F__law_class : L2.Fun K "_law_class" "_law_class" s__law_class a__law_class fd__law_class
  m__law_class : mg "_law_class" = some (.ref a__law_class)
  b__law_class : L2.Binds K fd__law_class ["rules", "number"] []
  a__law_due : Addr
  fd__law_due : FuncData
  F__law_due : L2.Fun K "_law_due" "_law_due" s__law_due a__law_due fd__law_due
  m__law_due : mg "_law_due" = some (.ref a__law_due)
  b__law_due : L2.Binds K fd__law_due ["template", "rules", "values"] []
  a_holds_for : Addr
  fd_holds_for : FuncData
  F_holds_for : L2.Fun K "holds_for" "holds_for" s_holds_for a_holds_for fd_holds_for
  m_holds_for : mg "holds_for" = some (.ref a_holds_for)
  b_holds_for : L2.Binds K fd_holds_for ["test", "number"] []
  a_class_of : Addr
  fd_class_of : FuncData
  F_class_of : L2.Fun K "class_of" "class_of" s_class_of a_class_of fd_class_of
  m_class_of : mg "class_of" = some (.ref a_class_of)
  b_class_of : L2.Binds K fd_class_of ["rules", "number"] []
  a_is_number : Addr
  fd_is_number : FuncData
  F_is_number : L2.Fun K "is_number" "is_number" s_is_number a_is_number fd_is_number
  m_is_number : mg "is_number" = some (.ref a_is_number)
  b_is_number : L2.Binds K fd_is_number ["value"] []
  a_said : Addr
  fd_said : FuncData
  F_said : L2.Fun K "said" "said" s_said a_said fd_said
  m_said : mg "said" = some (.ref a_said)
  b_said : L2.Binds K fd_said ["template", "rules", "values"] []
  a__law_told : Addr
  fd__law_told : FuncData
  F__law_told : L2.Fun K "_law_told" "_law_told" s__law_told a__law_told fd__law_told
  m__law_told : mg "_law_told" = some (.ref a__law_told)
  b__law_told : L2.Binds K fd__law_told ["template", "rules", "values"] []
  a_law : Addr
  fd_law : FuncData
  F_law : L2.Fun K "law" "law" s_law a_law fd_law
  m_law : mg "law" = some (.ref a_law)
  b_law : L2.Binds K fd_law ["script"] []
  z_all : mg "all" = none
  z_bool : mg "bool" = none
  z_dict : mg "dict" = none
  z_int : mg "int" = none
  z_isinstance : mg "isinstance" = none
  z_len : mg "len" = none
  z_list : mg "list" = none
  z_range : mg "range" = none
  z_str : mg "str" = none
  z_tuple : mg "tuple" = none
  t_OTHER : Tok
  c_OTHER : mg "OTHER" = some (.str "other" t_OTHER)
  ac_NoNumber : Addr
  m_NoNumber : mg "NoNumber" = some (.ref ac_NoNumber)
  ac_NoValue : Addr
  m_NoValue : mg "NoValue" = some (.ref ac_NoValue)
  x_NoNumber : XcT P K mg "NoNumber" ["slot"]
  x_NoValue : XcT P K mg "NoValue" ["slot"]
  e_NoNumber_NoNumber : PySem.W.exmOne K (.ref ac_NoNumber) (.ref ac_NoNumber) = some true
  e_NoNumber_NoValue : PySem.W.exmOne K (.ref ac_NoNumber) (.ref ac_NoValue) = some false
  e_NoValue_NoNumber : PySem.W.exmOne K (.ref ac_NoValue) (.ref ac_NoNumber) = some false
  e_NoValue_NoValue : PySem.W.exmOne K (.ref ac_NoValue) (.ref ac_NoValue) = some true
def b__law_mixed : DenS :=
  (sSeq (sSet 2 (dBin true modOp (dCall int1Op (dCons true (dBin true addOp (dBin true addOp (dBin true mulOp (dVarF 0) (dC (.int 48271))) (dBin true mulOp (dVarF 1) (dC (.int 69621)))) (dC (.int 11))) dNil)) (dC (.int 618970019642690137449562111)))) (sSeq (sSet 3 (dBin true modOp (dCall int1Op (dCons true (dBin true addOp (dBin true addOp (dBin true mulOp (dVarF 2) (dVarF 2)) (dBin true mulOp (dC (.int 7)) (dVarF 2))) (dVarF 1)) dNil)) (dC (.int 162259276829213363391578010288127)))) (sSeq (sSet 4 (dBin true modOp (dCall int1Op (dCons true (dBin true addOp (dBin true mulOp (dVarF 3) (dVarF 3)) (dVarF 2)) dNil)) (dC (.int 618970019642690137449562111)))) (sRet (dBin true addOp (dBin true mulOp (dVarF 3) (dC (.int 618970019642690137449562111))) (dVarF 4))))))
def d__law_mixed : FDen := fnDen [2, 3, 4] 2 5 b__law_mixed
def b__law_rest : DenS :=
  (sSeq (sSet 3 (dC (.int 0))) (sSeq (sIf (dTst (dBin true gtOp (dCall lenOp (dCons true (dVar 0) dNil)) (dC (.int 0)))) (sSet 3 (dCall int1Op (dCons true (dIdxV 0 (dBin true modOp (dCall int1Op (dCons true (dVar 1) dNil)) (dCall lenOp (dCons true (dVar 0) dNil)))) dNil))) sNil) (sSeq (sIf (dTst (dBin true ltOp (dVar 3) (dC (.int 0)))) (sSet 3 (dBin true subOp (dC (.int 1)) (dBin true mulOp (dC (.int 2)) (dVarF 3)))) sNil) (sSeq (sIf (dAnd (dTst (dBin true eqOp (dVar 2) (dC (.int 0)))) (dAnd (dTst (dBin true ltOp (dVar 1) (dCall lenOp (dCons true (dVar 0) dNil)))) (dTst (dBin true geOp (dVar 3) (dBin true powOp (dC (.int 10)) (dC (.int 18))))))) (sRet (dBin true subOp (dVar 3) (dBin true powOp (dC (.int 10)) (dC (.int 18))))) sNil) (sRet (dCallF 2 (d__law_mixed) (dAsC true (dBin true addOp (dVarF 3) (dBin true mulOp (dVarF 2) (dC (.int 1000003)))) (dAsV 1 dAsNil))))))))
def d__law_rest : FDen := fnDen [3] 3 4 b__law_rest
def b__law_pool : DenS :=
  (sRet (dLst (dCons false (dVarF 0) (dCons false (dC (.int 0)) (dCons true (dCallF 3 (d__law_rest) (dAsV 0 (dAsC true (dC (.int 0)) (dAsC true (dC (.int 0)) dAsNil)))) (dCons true (dC (.int 0)) dNil))))))
def d__law_pool : FDen := fnDen [] 1 1 b__law_pool
def b__law_next : DenS :=
  (sSeq (sSetItem 0 (dBin true addOp (dIdxV 0 (dC (.int 1))) (dC (.int 1))) (dC (.int 1))) (sSeq (sSetItem 0 (dCallF 3 (d__law_rest) (dAsC true (dIdxV 0 (dC (.int 0))) (dAsC true (dIdxV 0 (dC (.int 1))) (dAsC true (dC (.int 0)) dAsNil)))) (dC (.int 2))) (sSetItem 0 (dC (.int 0)) (dC (.int 3)))))
def d__law_next : FDen := fnDen [] 1 1 b__law_next
def b__law_draw : DenS :=
  (sSeq (sIf (dTst (dBin true leOp (dIdxV 0 (dC (.int 2))) (dC (.int 1)))) (sSeq (sSetItem 0 (dBin true addOp (dIdxV 0 (dC (.int 3))) (dC (.int 1))) (dC (.int 3))) (sSetItem 0 (dCallF 3 (d__law_rest) (dAsC true (dIdxV 0 (dC (.int 0))) (dAsC true (dIdxV 0 (dC (.int 1))) (dAsC true (dIdxV 0 (dC (.int 3))) dAsNil)))) (dC (.int 2)))) sNil) (sSeq (sSet 2 (dBin true modOp (dCall int1Op (dCons true (dIdxV 0 (dC (.int 2))) dNil)) (dVar 1))) (sSeq (sSetItem 0 (dBin true fdivOp (dCall int1Op (dCons true (dIdxV 0 (dC (.int 2))) dNil)) (dVar 1)) (dC (.int 2))) (sRet (dVarM 2)))))
def d__law_draw : FDen := fnDen [2] 2 3 b__law_draw
def b__law_pick : DenS :=
  (sRet (dIdx false (dVarF 1) (dCallF 2 (d__law_draw) (dAsV 0 (dAsC true (dCall lenOp (dCons true (dVar 1) dNil)) dAsNil)))))
def d__law_pick : FDen := fnDen [] 2 2 b__law_pick
def b__law_same (den : FDen) : DenS :=
  (sSeq (sIf (dTruth (dCall isiOp (dCons true (dVar 1) (dCons true (dC (.ty "dict")) dNil)))) (sSeq (sIf (dOr (dNot (dTruth (dCall isiOp (dCons true (dVar 0) (dCons true (dC (.ty "dict")) dNil))))) (dTst (dBin true neOp (dCall lenOp (dCons true (dVar 0) dNil)) (dCall lenOp (dCons true (dVar 1) dNil))))) (sRet (dC (.bl false))) sNil) (sRet (dCall allOp (dCons true (dCompN [2] .im 1 (gSet 2) (dRet true) (dAndV (dBin true inOp (dVar 2) (dVar 0)) (dCallF 2 den (dAsC true (dIdx true (dVarF 0) (dVar 2)) (dAsC true (dIdx true (dVarF 1) (dVar 2)) dAsNil))))) dNil)))) sNil) (sSeq (sIf (dOr (dTruth (dCall isiOp (dCons true (dVar 1) (dCons true (dC (.ty "list")) dNil)))) (dTruth (dCall isiOp (dCons true (dVar 1) (dCons true (dC (.ty "tuple")) dNil))))) (sSeq (sIf (dOr (dTst (dBin true neOp (dCall isiOp (dCons true (dVar 1) (dCons true (dC (.ty "list")) dNil))) (dCall isiOp (dCons true (dVar 0) (dCons true (dC (.ty "list")) dNil))))) (dTst (dBin true neOp (dCall isiOp (dCons true (dVar 1) (dCons true (dC (.ty "tuple")) dNil))) (dCall isiOp (dCons true (dVar 0) (dCons true (dC (.ty "tuple")) dNil)))))) (sRet (dC (.bl false))) sNil) (sRet (dAndV (dBin true eqOp (dCall lenOp (dCons true (dVar 0) dNil)) (dCall lenOp (dCons true (dVar 1) dNil))) (dCall allOp (dCons true (dComp [3] .im (dRange (dCons true (dCall lenOp (dCons true (dVar 1) dNil)) dNil)) (gSet 3) (dRet true) (dCallF 2 den (dAsC true (dIdx true (dVarF 0) (dVar 3)) (dAsC true (dIdx true (dVarF 1) (dVar 3)) dAsNil)))) dNil))))) sNil) (sSeq (sIf (dTruth (dCall isiOp (dCons true (dVar 1) (dCons true (dC (.ty "str")) dNil)))) (sRet (dAndV (dCall isiOp (dCons true (dVar 0) (dCons true (dC (.ty "str")) dNil))) (dBin true eqOp (dVar 0) (dVar 1)))) sNil) (sSeq (sIf (dOr (dTst (dBin true isOp (dVar 1) (dC .non))) (dOr (dTst (dBin true isOp (dVar 1) (dC (.bl true)))) (dTst (dBin true isOp (dVar 1) (dC (.bl false)))))) (sRet (dOrV (dAndV (dBin true isOp (dVar 1) (dC .non)) (dBin true isOp (dVar 0) (dC .non))) (dOrV (dAndV (dBin true isOp (dVar 1) (dC (.bl true))) (dBin true isOp (dVar 0) (dC (.bl true)))) (dAndV (dBin true isOp (dVar 1) (dC (.bl false))) (dBin true isOp (dVar 0) (dC (.bl false))))))) sNil) (sRet (dAndV (dCall isiOp (dCons true (dVar 0) (dCons true (dC (.ty "int")) dNil))) (dAndV (dNotV (dCall isiOp (dCons true (dVar 0) (dCons true (dC (.ty "bool")) dNil)))) (dBin true eqOp (dVar 0) (dVar 1)))))))))
def d__law_same : Nat → FDen
  | 0 => fun _ => none
  | k + 1 => fnDen [] 2 4 (b__law_same (d__law_same k))
def b__law_copied (den : FDen) : DenS :=
  (sSeq (sIf (dTruth (dCall isiOp (dCons true (dVar 0) (dCons true (dC (.ty "dict")) dNil)))) (sSeq (sSet 1 dDic0) (sSeq (sForN 0 (gSet 2) (sSetKey 1 (dCallF 1 den (dAsC true (dIdx true (dVarF 0) (dVar 2)) dAsNil)) (dVar 2))) (sRet (dVarM 1)))) sNil) (sSeq (sIf (dTruth (dCall isiOp (dCons true (dVar 0) (dCons true (dC (.ty "list")) dNil)))) (sRet (dCompN [3] .im 0 (gSet 3) (dRet true) (dCallF 1 den (dAsV 3 dAsNil)))) sNil) (sSeq (sIf (dTruth (dCall isiOp (dCons true (dVar 0) (dCons true (dC (.ty "tuple")) dNil)))) (sRet (dCall tupleOp (dCons true (dCompN [3] .im 0 (gSet 3) (dRet true) (dCallF 1 den (dAsV 3 dAsNil))) dNil))) sNil) (sRet (dVarF 0)))))
def d__law_copied : Nat → FDen
  | 0 => fun _ => none
  | k + 1 => fnDen [1, 2] 1 4 (b__law_copied (d__law_copied k))
def b__law_phrase : DenS :=
  (sSeq (sSet 1 (dC (.str "ab cz09.,-"))) (sRet (dMeth false isS joinOp (dC (.str "")) (dCons true (dComp [2] .im (dRange (dCons true (dCallF 2 (d__law_draw) (dAsV 0 (dAsC true (dC (.int 9)) dAsNil))) dNil)) (gSet 2) (dRet true) (dIdx false (dVarF 1) (dCallF 2 (d__law_draw) (dAsV 0 (dAsC true (dC (.int 10)) dAsNil))))) dNil))))
def d__law_phrase : FDen := fnDen [1] 1 3 b__law_phrase
def b__law_template_drawn : DenS :=
  (sSeq (sSet 1 (dLst dNil)) (sSeq (sFor (dRange (dCons true (dCallF 2 (d__law_draw) (dAsV 0 (dAsC true (dC (.int 9)) dAsNil))) dNil)) (gSet 2) (sSeq (sExpr (dCallF 1 (d__law_next) (dAsV 0 dAsNil))) (sSeq (sSet 3 (dCallF 2 (d__law_pick) (dAsV 0 (dAsC true (dLst (dCons true (dC (.str "ann")) (dCons true (dC (.str "bob")) (dCons true (dC (.str "many")) (dCons true (dC (.str "day")) dNil))))) dAsNil)))) (sSeq (sSet 4 (dDisp [.inr "other"] (dCons true (dCallF 1 (d__law_phrase) (dAsV 0 dAsNil)) dNil))) (sSeq (sFor (dItems (dLst (dCons true (dC (.str "one")) (dCons true (dC (.str "few")) (dCons true (dC (.str "many")) dNil))))) (gSet 5) (sIf (dTst (dBin true eqOp (dCallF 2 (d__law_draw) (dAsV 0 (dAsC true (dC (.int 2)) dAsNil))) (dC (.int 0)))) (sSetKey 4 (dCallF 1 (d__law_phrase) (dAsV 0 dAsNil)) (dVar 5)) sNil)) (sAppend .im 1 (dCallF 2 (d__law_pick) (dAsV 0 (dAsC true (dLst (dCons true (dCallF 1 (d__law_phrase) (dAsV 0 dAsNil)) (dCons true (dTup (dCons true (dC (.str "slot")) (dCons true (dVarF 3) dNil))) (dCons true (dTup (dCons true (dC (.str "forms")) (dCons true (dVarF 3) (dCons true (dVarF 4) dNil)))) dNil)))) dAsNil))))))))) (sRet (dCall tupleOp (dCons true (dVarF 1) dNil)))))
def d__law_template_drawn : FDen := fnDen [1, 2, 3, 4, 5] 1 6 b__law_template_drawn
def b__law_values_drawn : DenS :=
  (sSeq (sSet 1 dDic0) (sSeq (sFor (dItems (dLst (dCons true (dC (.str "ann")) (dCons true (dC (.str "bob")) (dCons true (dC (.str "many")) (dCons true (dC (.str "day")) dNil)))))) (gSet 2) (sSeq (sSet 3 (dCallF 2 (d__law_draw) (dAsV 0 (dAsC true (dCallF 2 (d__law_pick) (dAsV 0 (dAsC true (dLst (dCons true (dC (.int 3)) (dCons true (dC (.int 40)) (dCons true (dBin true powOp (dC (.int 10)) (dC (.int 30))) dNil)))) dAsNil))) dAsNil)))) (sSeq (sSet 4 (dCallF 2 (d__law_pick) (dAsV 0 (dAsC true (dLst (dCons false (dVarF 3) (dCons false (dVarF 3) (dCons false (dVarF 3) (dCons false (dUn negOp (dVar 3)) (dCons true (dCallF 1 (d__law_phrase) (dAsV 0 dAsNil)) dNil)))))) dAsNil)))) (sIf (dTst (dBin true gtOp (dCallF 2 (d__law_draw) (dAsV 0 (dAsC true (dC (.int 9)) dAsNil))) (dC (.int 0)))) (sSetKey 1 (dVarF 4) (dVar 2)) sNil)))) (sRet (dVarM 1))))
def d__law_values_drawn : FDen := fnDen [1, 2, 3, 4] 1 5 b__law_values_drawn
def b__law_is_int : DenS :=
  (sRet (dAndV (dCall isiOp (dCons true (dVar 0) (dCons true (dC (.ty "int")) dNil))) (dNotV (dCall isiOp (dCons true (dVar 0) (dCons true (dC (.ty "bool")) dNil))))))
def d__law_is_int : FDen := fnDen [] 1 1 b__law_is_int
def b__law_class : DenS :=
  (sSeq (sFor (dItems (dVarF 0)) (gTupD 2 (gsCons (gSet 2) (gsCons (gSet 3) gsNil))) (sSeq (sAsg (dVarF 2) (gTupD 3 (gsCons (gSet 5) (gsCons (gSet 6) (gsCons (gSet 7) gsNil))))) (sSeq (sSet 4 (dIf (dTst (dBin true eqOp (dVar 5) (dC (.int 0)))) (dVarF 1) (dBin true modOp (dCall int1Op (dCons true (dVar 1) dNil)) (dVar 5)))) (sIf (dTst (dChain leOp leOp (dVar 6) (dVar 4) (dVar 7))) (sRet (dVarM 3)) sNil)))) (sRet (dC (.str "other"))))
def d__law_class : FDen := fnDen [2, 3, 4, 5, 6, 7] 2 8 b__law_class
def b__law_due : DenS :=
  (sSeq (sFor (dItems (dVarF 0)) (gSet 3) (sIf (dAnd (dTruth (dCall isiOp (dCons true (dVar 3) (dCons true (dC (.ty "tuple")) dNil)))) (dTst (dBin true notInOp (dIdxV 3 (dC (.int 1))) (dVar 2)))) (sRet (dLst (dCons true (dC (.str "NoValue")) (dCons true (dIdx true (dVarF 3) (dC (.int 1))) dNil)))) sNil)) (sSeq (sSet 4 (dLst dNil)) (sSeq (sFor (dItems (dVarF 0)) (gSet 3) (sIf (dNot (dTruth (dCall isiOp (dCons true (dVar 3) (dCons true (dC (.ty "tuple")) dNil))))) (sAppend .im 4 (dVarF 3)) (sIf (dTst (dBin true eqOp (dIdxV 3 (dC (.int 0))) (dC (.str "slot")))) (sAppend .im 4 (dCall strOp (dCons true (dIdxV 2 (dIdxV 3 (dC (.int 1)))) dNil))) (sSeq (sSet 5 (dIdx true (dVarF 2) (dIdxV 3 (dC (.int 1))))) (sSeq (sIf (dOr (dNot (dTruth (dCallF 1 (d__law_is_int) (dAsV 5 dAsNil)))) (dTst (dBin true ltOp (dVar 5) (dC (.int 0))))) (sRet (dLst (dCons true (dC (.str "NoNumber")) (dCons true (dIdx true (dVarF 3) (dC (.int 1))) dNil)))) sNil) (sAppend .im 4 (dGet2 (dIdxV 3 (dC (.int 2))) (dCallF 2 (d__law_class) (dAsV 1 (dAsV 5 dAsNil))) (dIdx true (dIdx true (dVarF 3) (dC (.int 2))) (dC (.str "other")))))))))) (sRet (dLst (dCons true (dMeth true isS joinOp (dC (.str "")) (dCons true (dVar 4) dNil)) dNil))))))
def d__law_due : FDen := fnDen [3, 4, 5] 3 6 b__law_due
def b_holds_for : DenS :=
  (sSeq (sAsg (dVarF 0) (gTupD 3 (gsCons (gSet 3) (gsCons (gSet 4) (gsCons (gSet 5) gsNil))))) (sSeq (sSet 2 (dIf (dTst (dBin true eqOp (dVar 3) (dC (.int 0)))) (dVarF 1) (dBin true modOp (dVar 1) (dVar 3)))) (sRet (dChain leOp leOp (dVar 4) (dVar 2) (dVar 5)))))
def d_holds_for : FDen := fnDen [2, 3, 4, 5] 2 6 b_holds_for
def b_class_of : DenS :=
  (sSeq (sFor (dItems (dVarF 0)) (gTupD 2 (gsCons (gSet 2) (gsCons (gSet 3) gsNil))) (sIf (dTruth (dCallF 2 (d_holds_for) (dAsV 2 (dAsV 1 dAsNil)))) (sRet (dVarM 3)) sNil)) (sRet (dC (.str "other"))))
def d_class_of : FDen := fnDen [2, 3] 2 4 b_class_of
def b_is_number : DenS :=
  (sRet (dAndV (dCall isiOp (dCons true (dVar 0) (dCons true (dC (.ty "int")) dNil))) (dAndV (dNotV (dCall isiOp (dCons true (dVar 0) (dCons true (dC (.ty "bool")) dNil)))) (dBin true geOp (dVar 0) (dC (.int 0))))))
def d_is_number : FDen := fnDen [] 1 1 b_is_number
def b_said : DenS :=
  (sSeq (sFor (dItems (dVarF 0)) (gSet 3) (sIf (dAnd (dTruth (dCall isiOp (dCons true (dVar 3) (dCons true (dC (.ty "tuple")) dNil)))) (dTst (dBin true notInOp (dIdxV 3 (dC (.int 1))) (dVar 2)))) (sRaise "NoValue" ["slot"] (dCons true (dIdx true (dVarF 3) (dC (.int 1))) dNil)) sNil)) (sSeq (sFor (dItems (dVarF 0)) (gSet 3) (sIf (dAnd (dTruth (dCall isiOp (dCons true (dVar 3) (dCons true (dC (.ty "tuple")) dNil)))) (dAnd (dTst (dBin true eqOp (dIdxV 3 (dC (.int 0))) (dC (.str "forms")))) (dNot (dTruth (dCallF 1 (d_is_number) (dAsC true (dIdx true (dVarF 2) (dIdxV 3 (dC (.int 1)))) dAsNil)))))) (sRaise "NoNumber" ["slot"] (dCons true (dIdx true (dVarF 3) (dC (.int 1))) dNil)) sNil)) (sSeq (sSet 4 (dLst dNil)) (sSeq (sFor (dItems (dVarF 0)) (gSet 3) (sIf (dNot (dTruth (dCall isiOp (dCons true (dVar 3) (dCons true (dC (.ty "tuple")) dNil))))) (sAppend .im 4 (dVarF 3)) (sIf (dTst (dBin true eqOp (dIdxV 3 (dC (.int 0))) (dC (.str "slot")))) (sAppend .im 4 (dCall strOp (dCons true (dIdxV 2 (dIdxV 3 (dC (.int 1)))) dNil))) (sSeq (sSet 5 (dCallF 2 (d_class_of) (dAsV 1 (dAsC true (dIdx true (dVarF 2) (dIdxV 3 (dC (.int 1)))) dAsNil)))) (sAppend .im 4 (dIdx true (dIdx true (dVarF 3) (dC (.int 2))) (dIf (dTst (dBin true inOp (dVar 5) (dIdxV 3 (dC (.int 2))))) (dVar 5) (dC (.str "other"))))))))) (sRet (dMeth true isS joinOp (dC (.str "")) (dCons true (dVar 4) dNil)))))))
def d_said : FDen := fnDen [3, 4, 5] 3 6 b_said
def b__law_told : DenS :=
  (sTry (sRet (dLst (dCons true (dCallF 3 (d_said) (dAsV 0 (dAsV 1 (dAsV 2 dAsNil)))) dNil))) [⟨3, [("NoNumber", false), ("NoValue", true)], (sRet (dLst (dCons true (dC (.str "NoValue")) (dCons true (dFld "slot" (dVar 3)) dNil))))⟩, ⟨3, [("NoNumber", true), ("NoValue", false)], (sRet (dLst (dCons true (dC (.str "NoNumber")) (dCons true (dFld "slot" (dVar 3)) dNil))))⟩])
def d__law_told : FDen := fnDen [3] 3 4 b__law_told
def b_law : DenS :=
  (sSeq (sSet 1 (dCallF 1 (d__law_pool) (dAsV 0 dAsNil))) (sSeq (sFor (dRange (dCons true (dC (.int 4)) dNil)) (gSet 2) (sSeq (sExpr (dCallF 1 (d__law_next) (dAsV 1 dAsNil))) (sSeq (sSet 3 (dCallF 1 (d__law_template_drawn) (dAsV 1 dAsNil))) (sSeq (sSet 4 (dLst dNil)) (sSeq (sFor (dRange (dCons true (dCallF 2 (d__law_draw) (dAsV 1 (dAsC true (dC (.int 4)) dAsNil))) dNil)) (gSet 5) (sSeq (sSet 8 (dCallF 2 (d__law_pick) (dAsV 1 (dAsC true (dLst (dCons true (dC (.int 0)) (dCons true (dC (.int 0)) (dCons true (dC (.int 2)) (dCons true (dC (.int 10)) dNil))))) dAsNil)))) (sSeq (sSet 9 (dCallF 2 (d__law_draw) (dAsV 1 (dAsC true (dC (.int 4)) dAsNil)))) (sAppend .im 4 (dTup (dCons false (dTup (dCons false (dVarF 8) (dCons false (dVarF 9) (dCons true (dBin false addOp (dVarF 9) (dCallF 2 (d__law_draw) (dAsV 1 (dAsC true (dC (.int 3)) dAsNil)))) dNil)))) (dCons true (dCallF 2 (d__law_pick) (dAsV 1 (dAsC true (dLst (dCons true (dC (.str "one")) (dCons true (dC (.str "few")) (dCons true (dC (.str "many")) (dCons true (dC (.str "other")) dNil))))) dAsNil))) dNil))))))) (sSeq (sSet 6 (dCallF 1 (d__law_values_drawn) (dAsV 1 dAsNil))) (sSeq (sSet 7 (dLst (dCons true (dCallF 1 (d__law_copied 10) (dAsV 3 dAsNil)) (dCons true (dCall dictAOp (dCons true (dVarF 6) dNil)) dNil)))) (sSeq (sIf (dNot (dTruth (dCallF 2 (d__law_same 10) (dAsC false (dCallF 3 (d__law_told) (dAsC true (dIdx true (dVarF 7) (dC (.int 0))) (dAsC true (dCall tupleOp (dCons true (dVarF 4) dNil)) (dAsC true (dIdx true (dVarF 7) (dC (.int 1))) dAsNil)))) (dAsC true (dCallF 3 (d__law_due) (dAsV 3 (dAsV 4 (dAsV 6 dAsNil)))) dAsNil))))) (sRet (dC (.bl false))) sNil) (sIf (dNot (dTruth (dCallF 2 (d__law_same 10) (dAsV 7 (dAsC true (dLst (dCons true (dVarF 3) (dCons true (dVarF 6) dNil))) dAsNil))))) (sRet (dC (.bl false))) sNil))))))))) (sRet (dC (.bl true)))))
def d_law : FDen := fnDen [1, 2, 3, 4, 5, 6, 7, 8, 9] 1 10 b_law
end Lk75

set_option maxHeartbeats 4000000
namespace Lk75
open PySem PySem.Spec PyProof.Rows L2 Den
section
variable {P : Program} {w : World} {K : PySem.W.Frag} {mg : Str → Option Value} {base : Heap}
theorem ok__law_mixed (T : Txt P K mg) : FnOk P w K mg base (L2.CX P w) 1 T.a__law_mixed T.fd__law_mixed ["number", "place"] (SpD K mg 2 d__law_mixed) :=
  fn_ok (N := ["number", "place", "first", "second", "third"]) (ps := ["number", "place"]) (A := [2, 3, 4]) (body := b__law_mixed) T.F__law_mixed sc__law_mixed fun cdv Ar outer s H E hr tk po => (b_cons (s_set (i := 2) (by decide) sc__law_mixed.nd rfl (by first | exact Or.inl rfl | exact Or.inr rfl) (e_mod (e_callT call_int1 cx_int1 (by rfl) T.z_int (by decide +kernel) (a_cons (e_add (e_add (e_mul (e_varF (pv 0)) e_int) (e_mul (e_varF (pv 1)) e_int)) e_int) a_nil)) e_int)) (b_cons (s_set (i := 3) (by decide) sc__law_mixed.nd rfl (by first | exact Or.inl rfl | exact Or.inr rfl) (e_mod (e_callT call_int1 cx_int1 (by rfl) T.z_int (by decide +kernel) (a_cons (e_add (e_add (e_mul (e_varF (pv 2)) (e_varF (pv 2))) (e_mul e_int (e_varF (pv 2)))) (e_varF (pv 1))) a_nil)) e_int)) (b_cons (s_set (i := 4) (by decide) sc__law_mixed.nd rfl (by first | exact Or.inl rfl | exact Or.inr rfl) (e_mod (e_callT call_int1 cx_int1 (by rfl) T.z_int (by decide +kernel) (a_cons (e_add (e_mul (e_varF (pv 3)) (e_varF (pv 3))) (e_varF (pv 2))) a_nil)) e_int)) (b_one (s_ret (e_add (e_mul (e_varF (pv 3)) e_int) (e_varF (pv 4))))))))
theorem ok__law_rest (T : Txt P K mg) : FnOk P w K mg base (L2.CX P w) 2 T.a__law_rest T.fd__law_rest ["script", "place", "fills"] (SpD K mg 3 d__law_rest) :=
  fn_ok (N := ["script", "place", "fills", "number"]) (ps := ["script", "place", "fills"]) (A := [3]) (body := b__law_rest) T.F__law_rest sc__law_rest fun cdv Ar outer s H E hr tk po => (b_cons (s_set (i := 3) (by decide) sc__law_rest.nd rfl (by first | exact Or.inl rfl | exact Or.inr rfl) e_int) (b_cons (s_if (t_cmp or_gt ox_cmp (e_callB cr_len cx_len (by rfl) T.z_len boot_len (a_cons (e_var (pv 0)) a_nil)) e_int (nomark _)) (b_one (s_set (i := 3) (by decide) sc__law_rest.nd rfl (by first | exact Or.inl rfl | exact Or.inr rfl) (e_callT call_int1 cx_int1 (by rfl) T.z_int (by decide +kernel) (a_cons (e_idxV (pv 0) (e_mod (e_callT call_int1 cx_int1 (by rfl) T.z_int (by decide +kernel) (a_cons (e_var (pv 1)) a_nil)) (e_callB cr_len cx_len (by rfl) T.z_len boot_len (a_cons (e_var (pv 0)) a_nil)))) a_nil)))) b_nil) (b_cons (s_if (t_cmp or_lt ox_cmp (e_var (pv 3)) e_int (nomark _)) (b_one (s_set (i := 3) (by decide) sc__law_rest.nd rfl (by first | exact Or.inl rfl | exact Or.inr rfl) (e_sub e_int (e_mul e_int (e_varF (pv 3)))))) b_nil) (b_cons (s_if (t_w (w_and (t_cmp (or_eq hr.units) ox_eq (e_var (pv 2)) e_int (nomark _)) (w_and (t_cmp or_lt ox_cmp (e_var (pv 1)) (e_callB cr_len cx_len (by rfl) T.z_len boot_len (a_cons (e_var (pv 0)) a_nil)) (nomark _)) (w_and1 (t_cmp or_ge ox_cmp (e_var (pv 3)) (e_pow e_int e_int) (nomark _)))))) (b_one (s_ret (e_sub (e_var (pv 3)) (e_pow e_int e_int)))) b_nil) (b_one (s_ret (e_call (ok__law_mixed T) tk (hr.mono (by decide)) (by rfl) T.m__law_mixed T.F__law_mixed.kp T.b__law_mixed (x_cons (e_add (e_varF (pv 3)) (e_mul (e_varF (pv 2)) e_int)) (x_var (pv 1) x_nil)))))))))
theorem ok__law_pool (T : Txt P K mg) : FnOk P w K mg base (L2.CX P w) 3 T.a__law_pool T.fd__law_pool ["script"] (SpD K mg 1 d__law_pool) :=
  fn_ok (N := ["script"]) (ps := ["script"]) (A := []) (body := b__law_pool) T.F__law_pool sc__law_pool fun cdv Ar outer s H E hr tk po => (b_one (s_ret (e_lst (a_cons (e_varF (pv 0)) (a_cons e_int (a_cons (e_call (ok__law_rest T) tk (hr.mono (by decide)) (by rfl) T.m__law_rest T.F__law_rest.kp T.b__law_rest (x_var (pv 0) (x_cons e_int (x_cons e_int x_nil)))) (a_cons e_int a_nil)))))))
theorem ok__law_next (T : Txt P K mg) : FnOk P w K mg base (L2.CX P w) 3 T.a__law_next T.fd__law_next ["pool"] (SpD K mg 1 d__law_next) :=
  fn_ok (N := ["pool"]) (ps := ["pool"]) (A := []) (body := b__law_next) T.F__law_next sc__law_next fun cdv Ar outer s H E hr tk po => (b_cons (s_setItem (pv 0) e_int (e_add (e_idxV (pv 0) e_int) e_int)) (b_cons (s_setItem (pv 0) e_int (e_call (ok__law_rest T) tk (hr.mono (by decide)) (by rfl) T.m__law_rest T.F__law_rest.kp T.b__law_rest (x_cons (e_idxV (pv 0) e_int) (x_cons (e_idxV (pv 0) e_int) (x_cons e_int x_nil))))) (b_one (s_setItem (pv 0) e_int e_int))))
theorem ok__law_draw (T : Txt P K mg) : FnOk P w K mg base (L2.CX P w) 3 T.a__law_draw T.fd__law_draw ["pool", "limit"] (SpD K mg 2 d__law_draw) :=
  fn_ok (N := ["pool", "limit", "value"]) (ps := ["pool", "limit"]) (A := [2]) (body := b__law_draw) T.F__law_draw sc__law_draw fun cdv Ar outer s H E hr tk po => (b_cons (s_if (t_cmp or_le ox_cmp (e_idxV (pv 0) e_int) e_int (nomark _)) (b_cons (s_setItem (pv 0) e_int (e_add (e_idxV (pv 0) e_int) e_int)) (b_one (s_setItem (pv 0) e_int (e_call (ok__law_rest T) tk (hr.mono (by decide)) (by rfl) T.m__law_rest T.F__law_rest.kp T.b__law_rest (x_cons (e_idxV (pv 0) e_int) (x_cons (e_idxV (pv 0) e_int) (x_cons (e_idxV (pv 0) e_int) x_nil))))))) b_nil) (b_cons (s_set (i := 2) (by decide) sc__law_draw.nd rfl (by first | exact Or.inl rfl | exact Or.inr rfl) (e_mod (e_callT call_int1 cx_int1 (by rfl) T.z_int (by decide +kernel) (a_cons (e_idxV (pv 0) e_int) a_nil)) (e_var (pv 1)))) (b_cons (s_setItem (pv 0) e_int (e_fdiv (e_callT call_int1 cx_int1 (by rfl) T.z_int (by decide +kernel) (a_cons (e_idxV (pv 0) e_int) a_nil)) (e_var (pv 1)))) (b_one (s_ret (e_varM (pv 2)))))))
theorem ok__law_pick (T : Txt P K mg) : FnOk P w K mg base (L2.CX P w) 4 T.a__law_pick T.fd__law_pick ["pool", "options"] (SpD K mg 2 d__law_pick) :=
  fn_ok (N := ["pool", "options"]) (ps := ["pool", "options"]) (A := []) (body := b__law_pick) T.F__law_pick sc__law_pick fun cdv Ar outer s H E hr tk po => (b_one (s_ret (e_idx (e_varF (pv 1)) (e_call (ok__law_draw T) tk (hr.mono (by decide)) (by rfl) T.m__law_draw T.F__law_draw.kp T.b__law_draw (x_var (pv 0) (x_cons (e_callB cr_len cx_len (by rfl) T.z_len boot_len (a_cons (e_var (pv 1)) a_nil)) x_nil))))))
theorem ok__law_same (T : Txt P K mg) : ∀ k : Nat, FnOk P w K mg base (L2.CX P w) (0 + k) T.a__law_same T.fd__law_same ["answer", "due"] (SpD K mg 2 (d__law_same k))
  | 0 => fn_none
  | k + 1 => fn_ok (N := ["answer", "due", "key", "k"]) (ps := ["answer", "due"]) (A := []) (body := b__law_same (d__law_same k)) T.F__law_same sc__law_same fun cdv Ar outer s H E hr tk po => by
    have IH := ok__law_same T k
    exact (b_cons (s_if (t_truth (e_callB call_isi cx_isi (by rfl) T.z_isinstance (by decide +kernel) (a_cons (e_var (pv 1)) (a_cons (e_ty (by rfl) T.z_dict (by decide +kernel)) a_nil)))) (b_cons (s_if (t_w (w_or (t_not (t_truth (e_callB call_isi cx_isi (by rfl) T.z_isinstance (by decide +kernel) (a_cons (e_var (pv 0)) (a_cons (e_ty (by rfl) T.z_dict (by decide +kernel)) a_nil))))) (w_or1 (t_cmp (or_ne hr.units) ox_ne (e_callB cr_len cx_len (by rfl) T.z_len boot_len (a_cons (e_var (pv 0)) a_nil)) (e_callB cr_len cx_len (by rfl) T.z_len boot_len (a_cons (e_var (pv 1)) a_nil)) (nomark _))))) (b_one (s_ret e_bl)) b_nil) (b_one (s_ret (e_callB (cr_all rfl) cx_all (by rfl) T.z_all (by decide +kernel) (a_cons (e_compN (own := [("key", 2)]) rfl sc__law_same.nd (pv 1) (blkOk_by (own := [("key", 2)]) (by kernel_rfl)) (fun _ _ _ _ _ => (g_name (pg_name (i := 2) sc__law_same.nd rfl (by first | exact Or.inl rfl | exact Or.inr rfl)) (by decide))) (fun _ _ _ _ _ => ts_nil) (fun _ _ _ _ _ => (e_andV (e_cmp (or_in (room65 hr)) ox_in (e_var (pv 2)) (e_var (pv 0)) (by rfl)) (e_and1 (e_call IH takes0 hr (by rfl) T.m__law_same T.F__law_same.kp T.b__law_same (x_cons (e_idx (e_varF (pv 0)) (e_var (pv 2))) (x_cons (e_idx (e_varF (pv 1)) (e_var (pv 2))) x_nil))))))) a_nil))))) b_nil) (b_cons (s_if (t_w (w_or (t_truth (e_callB call_isi cx_isi (by rfl) T.z_isinstance (by decide +kernel) (a_cons (e_var (pv 1)) (a_cons (e_ty (by rfl) T.z_list (by decide +kernel)) a_nil)))) (w_or1 (t_truth (e_callB call_isi cx_isi (by rfl) T.z_isinstance (by decide +kernel) (a_cons (e_var (pv 1)) (a_cons (e_ty (by rfl) T.z_tuple (by decide +kernel)) a_nil))))))) (b_cons (s_if (t_w (w_or (t_cmp (or_ne hr.units) ox_ne (e_callB call_isi cx_isi (by rfl) T.z_isinstance (by decide +kernel) (a_cons (e_var (pv 1)) (a_cons (e_ty (by rfl) T.z_list (by decide +kernel)) a_nil))) (e_callB call_isi cx_isi (by rfl) T.z_isinstance (by decide +kernel) (a_cons (e_var (pv 0)) (a_cons (e_ty (by rfl) T.z_list (by decide +kernel)) a_nil))) (nomark _)) (w_or1 (t_cmp (or_ne hr.units) ox_ne (e_callB call_isi cx_isi (by rfl) T.z_isinstance (by decide +kernel) (a_cons (e_var (pv 1)) (a_cons (e_ty (by rfl) T.z_tuple (by decide +kernel)) a_nil))) (e_callB call_isi cx_isi (by rfl) T.z_isinstance (by decide +kernel) (a_cons (e_var (pv 0)) (a_cons (e_ty (by rfl) T.z_tuple (by decide +kernel)) a_nil))) (nomark _))))) (b_one (s_ret e_bl)) b_nil) (b_one (s_ret (e_andV (e_cmp (or_eq hr.units) ox_eq (e_callB cr_len cx_len (by rfl) T.z_len boot_len (a_cons (e_var (pv 0)) a_nil)) (e_callB cr_len cx_len (by rfl) T.z_len boot_len (a_cons (e_var (pv 1)) a_nil)) (nomark _)) (e_and1 (e_callB (cr_all rfl) cx_all (by rfl) T.z_all (by decide +kernel) (a_cons (e_comp (own := [("k", 3)]) rfl sc__law_same.nd (i_range (by rfl) T.z_range (a_cons (e_callB cr_len cx_len (by rfl) T.z_len boot_len (a_cons (e_var (pv 1)) a_nil)) a_nil)) (blkOk_by (own := [("k", 3)]) (by kernel_rfl)) (fun _ _ _ _ _ => (g_name (pg_name (i := 3) sc__law_same.nd rfl (by first | exact Or.inl rfl | exact Or.inr rfl)) (by decide))) (fun _ _ _ _ _ => ts_nil) (fun _ _ _ _ _ => (e_call IH takes0 hr (by rfl) T.m__law_same T.F__law_same.kp T.b__law_same (x_cons (e_idx (e_varF (pv 0)) (e_var (pv 3))) (x_cons (e_idx (e_varF (pv 1)) (e_var (pv 3))) x_nil))))) a_nil))))))) b_nil) (b_cons (s_if (t_truth (e_callB call_isi cx_isi (by rfl) T.z_isinstance (by decide +kernel) (a_cons (e_var (pv 1)) (a_cons (e_ty (by rfl) T.z_str (by decide +kernel)) a_nil)))) (b_one (s_ret (e_andV (e_callB call_isi cx_isi (by rfl) T.z_isinstance (by decide +kernel) (a_cons (e_var (pv 0)) (a_cons (e_ty (by rfl) T.z_str (by decide +kernel)) a_nil))) (e_and1 (e_cmp (or_eq hr.units) ox_eq (e_var (pv 0)) (e_var (pv 1)) (nomark _)))))) b_nil) (b_cons (s_if (t_w (w_or (t_cmp or_is ox_is (e_var (pv 1)) e_non (nomark _)) (w_or (t_cmp or_is ox_is (e_var (pv 1)) e_bl (nomark _)) (w_or1 (t_cmp or_is ox_is (e_var (pv 1)) e_bl (nomark _)))))) (b_one (s_ret (e_orV (e_andV (e_cmp or_is ox_is (e_var (pv 1)) e_non (nomark _)) (e_and1 (e_cmp or_is ox_is (e_var (pv 0)) e_non (nomark _)))) (e_orV (e_andV (e_cmp or_is ox_is (e_var (pv 1)) e_bl (nomark _)) (e_and1 (e_cmp or_is ox_is (e_var (pv 0)) e_bl (nomark _)))) (e_and1 (e_andV (e_cmp or_is ox_is (e_var (pv 1)) e_bl (nomark _)) (e_and1 (e_cmp or_is ox_is (e_var (pv 0)) e_bl (nomark _))))))))) b_nil) (b_one (s_ret (e_andV (e_callB call_isi cx_isi (by rfl) T.z_isinstance (by decide +kernel) (a_cons (e_var (pv 0)) (a_cons (e_ty (by rfl) T.z_int (by decide +kernel)) a_nil))) (e_andV (e_notV (e_callB call_isi cx_isi (by rfl) T.z_isinstance (by decide +kernel) (a_cons (e_var (pv 0)) (a_cons (e_ty (by rfl) T.z_bool (by decide +kernel)) a_nil)))) (e_and1 (e_cmp (or_eq hr.units) ox_eq (e_var (pv 0)) (e_var (pv 1)) (nomark _)))))))))))
theorem ok__law_copied (T : Txt P K mg) : ∀ k : Nat, FnOk P w K mg base (L2.CX P w) (0 + k) T.a__law_copied T.fd__law_copied ["value"] (SpD K mg 1 (d__law_copied k))
  | 0 => fn_none
  | k + 1 => fn_ok (N := ["value", "found", "key", "one"]) (ps := ["value"]) (A := [1, 2]) (body := b__law_copied (d__law_copied k)) T.F__law_copied sc__law_copied fun cdv Ar outer s H E hr tk po => by
    have IH := ok__law_copied T k
    exact (b_cons (s_if (t_truth (e_callB call_isi cx_isi (by rfl) T.z_isinstance (by decide +kernel) (a_cons (e_var (pv 0)) (a_cons (e_ty (by rfl) T.z_dict (by decide +kernel)) a_nil)))) (b_cons (s_set (i := 1) (by decide) sc__law_copied.nd rfl (by first | exact Or.inl rfl | exact Or.inr rfl) e_dic0) (b_cons (s_forN po rfl (pv 0) (g_name (pg_name (i := 2) sc__law_copied.nd rfl (by first | exact Or.inl rfl | exact Or.inr rfl)) (by decide)) (b_one (s_setKey (room65 hr) (pv 1) (e_var (pv 2)) (e_call IH tk hr (by rfl) T.m__law_copied T.F__law_copied.kp T.b__law_copied (x_cons (e_idx (e_varF (pv 0)) (e_var (pv 2))) x_nil))))) (b_one (s_ret (e_varM (pv 1)))))) b_nil) (b_cons (s_if (t_truth (e_callB call_isi cx_isi (by rfl) T.z_isinstance (by decide +kernel) (a_cons (e_var (pv 0)) (a_cons (e_ty (by rfl) T.z_list (by decide +kernel)) a_nil)))) (b_one (s_ret (e_compN (own := [("one", 3)]) rfl sc__law_copied.nd (pv 0) (blkOk_by (own := [("one", 3)]) (by kernel_rfl)) (fun _ _ _ _ _ => (g_name (pg_name (i := 3) sc__law_copied.nd rfl (by first | exact Or.inl rfl | exact Or.inr rfl)) (by decide))) (fun _ _ _ _ _ => ts_nil) (fun _ _ _ _ _ => (e_call IH takes0 hr (by rfl) T.m__law_copied T.F__law_copied.kp T.b__law_copied (x_var (pv 3) x_nil)))))) b_nil) (b_cons (s_if (t_truth (e_callB call_isi cx_isi (by rfl) T.z_isinstance (by decide +kernel) (a_cons (e_var (pv 0)) (a_cons (e_ty (by rfl) T.z_tuple (by decide +kernel)) a_nil)))) (b_one (s_ret (e_callT call_tuple_of cx_tuple (by rfl) T.z_tuple (by decide +kernel) (a_cons (e_compN (own := [("one", 3)]) rfl sc__law_copied.nd (pv 0) (blkOk_by (own := [("one", 3)]) (by kernel_rfl)) (fun _ _ _ _ _ => (g_name (pg_name (i := 3) sc__law_copied.nd rfl (by first | exact Or.inl rfl | exact Or.inr rfl)) (by decide))) (fun _ _ _ _ _ => ts_nil) (fun _ _ _ _ _ => (e_call IH takes0 hr (by rfl) T.m__law_copied T.F__law_copied.kp T.b__law_copied (x_var (pv 3) x_nil)))) a_nil)))) b_nil) (b_one (s_ret (e_varF (pv 0)))))))
theorem ok__law_phrase (T : Txt P K mg) : FnOk P w K mg base (L2.CX P w) 4 T.a__law_phrase T.fd__law_phrase ["pool"] (SpD K mg 1 d__law_phrase) :=
  fn_ok (N := ["pool", "signs", "k"]) (ps := ["pool"]) (A := [1]) (body := b__law_phrase) T.F__law_phrase sc__law_phrase fun cdv Ar outer s H E hr tk po => (b_cons (s_set (i := 1) (by decide) sc__law_phrase.nd rfl (by first | exact Or.inl rfl | exact Or.inr rfl) e_str) (b_one (s_ret (e_join e_str (a_cons (e_comp (own := [("k", 2)]) rfl sc__law_phrase.nd (i_range (by rfl) T.z_range (a_cons (e_call (ok__law_draw T) tk (hr.mono (by decide)) (by rfl) T.m__law_draw T.F__law_draw.kp T.b__law_draw (x_var (pv 0) (x_cons e_int x_nil))) a_nil)) (blkOk_by (own := [("k", 2)]) (by kernel_rfl)) (fun _ _ _ _ _ => (g_name (pg_name (i := 2) sc__law_phrase.nd rfl (by first | exact Or.inl rfl | exact Or.inr rfl)) (by decide))) (fun _ _ _ _ _ => ts_nil) (fun _ _ _ _ _ => (e_idx (e_varF (pv 1)) (e_call (ok__law_draw T) takes0 (hr.mono (by decide)) (by rfl) T.m__law_draw T.F__law_draw.kp T.b__law_draw (x_var (pv 0) (x_cons e_int x_nil)))))) a_nil)))))
theorem ok__law_template_drawn (T : Txt P K mg) : FnOk P w K mg base (L2.CX P w) 5 T.a__law_template_drawn T.fd__law_template_drawn ["pool"] (SpD K mg 1 d__law_template_drawn) :=
  fn_ok (N := ["pool", "pieces", "k", "name", "table", "word"]) (ps := ["pool"]) (A := [1, 2, 3, 4, 5]) (body := b__law_template_drawn) T.F__law_template_drawn sc__law_template_drawn fun cdv Ar outer s H E hr tk po => (b_cons (s_set (i := 1) (by decide) sc__law_template_drawn.nd rfl (by first | exact Or.inl rfl | exact Or.inr rfl) (e_lst a_nil)) (b_cons (s_for po rfl (i_range (by rfl) T.z_range (a_cons (e_call (ok__law_draw T) tk (hr.mono (by decide)) (by rfl) T.m__law_draw T.F__law_draw.kp T.b__law_draw (x_var (pv 0) (x_cons e_int x_nil))) a_nil)) (g_name (pg_name (i := 2) sc__law_template_drawn.nd rfl (by first | exact Or.inl rfl | exact Or.inr rfl)) (by decide)) (b_cons (s_expr (e_call (ok__law_next T) tk (hr.mono (by decide)) (by rfl) T.m__law_next T.F__law_next.kp T.b__law_next (x_var (pv 0) x_nil))) (b_cons (s_set (i := 3) (by decide) sc__law_template_drawn.nd rfl (by first | exact Or.inl rfl | exact Or.inr rfl) (e_call (ok__law_pick T) tk (hr.mono (by decide)) (by rfl) T.m__law_pick T.F__law_pick.kp T.b__law_pick (x_var (pv 0) (x_cons (e_lst (a_cons e_str (a_cons e_str (a_cons e_str (a_cons e_str a_nil))))) x_nil)))) (b_cons (s_set (i := 4) (by decide) sc__law_template_drawn.nd rfl (by first | exact Or.inl rfl | exact Or.inr rfl) (e_disp (pr_cons k_str (e_call (ok__law_phrase T) tk (hr.mono (by decide)) (by rfl) T.m__law_phrase T.F__law_phrase.kp T.b__law_phrase (x_var (pv 0) x_nil)) pr_nil) (by simp) (by decide))) (b_cons (s_for po rfl (i_any (e_lst (a_cons e_str (a_cons e_str (a_cons e_str a_nil))))) (g_name (pg_name (i := 5) sc__law_template_drawn.nd rfl (by first | exact Or.inl rfl | exact Or.inr rfl)) (by decide)) (b_one (s_if (t_cmp (or_eq hr.units) ox_eq (e_call (ok__law_draw T) tk (hr.mono (by decide)) (by rfl) T.m__law_draw T.F__law_draw.kp T.b__law_draw (x_var (pv 0) (x_cons e_int x_nil))) e_int (nomark _)) (b_one (s_setKey (room65 hr) (pv 4) (e_var (pv 5)) (e_call (ok__law_phrase T) tk (hr.mono (by decide)) (by rfl) T.m__law_phrase T.F__law_phrase.kp T.b__law_phrase (x_var (pv 0) x_nil)))) b_nil))) (b_one (s_append (pv 1) (e_call (ok__law_pick T) tk (hr.mono (by decide)) (by rfl) T.m__law_pick T.F__law_pick.kp T.b__law_pick (x_var (pv 0) (x_cons (e_lst (a_cons (e_call (ok__law_phrase T) tk (hr.mono (by decide)) (by rfl) T.m__law_phrase T.F__law_phrase.kp T.b__law_phrase (x_var (pv 0) x_nil)) (a_cons (e_tup (a_cons e_str (a_cons (e_varF (pv 3)) a_nil))) (a_cons (e_tup (a_cons e_str (a_cons (e_varF (pv 3)) (a_cons (e_varF (pv 4)) a_nil)))) a_nil)))) x_nil)))))))))) (b_one (s_ret (e_callT call_tuple_of cx_tuple (by rfl) T.z_tuple (by decide +kernel) (a_cons (e_varF (pv 1)) a_nil))))))
theorem ok__law_values_drawn (T : Txt P K mg) : FnOk P w K mg base (L2.CX P w) 5 T.a__law_values_drawn T.fd__law_values_drawn ["pool"] (SpD K mg 1 d__law_values_drawn) :=
  fn_ok (N := ["pool", "found", "name", "number", "value"]) (ps := ["pool"]) (A := [1, 2, 3, 4]) (body := b__law_values_drawn) T.F__law_values_drawn sc__law_values_drawn fun cdv Ar outer s H E hr tk po => (b_cons (s_set (i := 1) (by decide) sc__law_values_drawn.nd rfl (by first | exact Or.inl rfl | exact Or.inr rfl) e_dic0) (b_cons (s_for po rfl (i_any (e_lst (a_cons e_str (a_cons e_str (a_cons e_str (a_cons e_str a_nil)))))) (g_name (pg_name (i := 2) sc__law_values_drawn.nd rfl (by first | exact Or.inl rfl | exact Or.inr rfl)) (by decide)) (b_cons (s_set (i := 3) (by decide) sc__law_values_drawn.nd rfl (by first | exact Or.inl rfl | exact Or.inr rfl) (e_call (ok__law_draw T) tk (hr.mono (by decide)) (by rfl) T.m__law_draw T.F__law_draw.kp T.b__law_draw (x_var (pv 0) (x_cons (e_call (ok__law_pick T) tk (hr.mono (by decide)) (by rfl) T.m__law_pick T.F__law_pick.kp T.b__law_pick (x_var (pv 0) (x_cons (e_lst (a_cons e_int (a_cons e_int (a_cons (e_pow e_int e_int) a_nil)))) x_nil))) x_nil)))) (b_cons (s_set (i := 4) (by decide) sc__law_values_drawn.nd rfl (by first | exact Or.inl rfl | exact Or.inr rfl) (e_call (ok__law_pick T) tk (hr.mono (by decide)) (by rfl) T.m__law_pick T.F__law_pick.kp T.b__law_pick (x_var (pv 0) (x_cons (e_lst (a_cons (e_varF (pv 3)) (a_cons (e_varF (pv 3)) (a_cons (e_varF (pv 3)) (a_cons (e_neg (e_var (pv 3))) (a_cons (e_call (ok__law_phrase T) tk (hr.mono (by decide)) (by rfl) T.m__law_phrase T.F__law_phrase.kp T.b__law_phrase (x_var (pv 0) x_nil)) a_nil)))))) x_nil)))) (b_one (s_if (t_cmp or_gt ox_cmp (e_call (ok__law_draw T) tk (hr.mono (by decide)) (by rfl) T.m__law_draw T.F__law_draw.kp T.b__law_draw (x_var (pv 0) (x_cons e_int x_nil))) e_int (nomark _)) (b_one (s_setKey (room65 hr) (pv 1) (e_var (pv 2)) (e_varF (pv 4)))) b_nil))))) (b_one (s_ret (e_varM (pv 1))))))
theorem ok__law_is_int (T : Txt P K mg) : FnOk P w K mg base (L2.CX P w) 1 T.a__law_is_int T.fd__law_is_int ["value"] (SpD K mg 1 d__law_is_int) :=
  fn_ok (N := ["value"]) (ps := ["value"]) (A := []) (body := b__law_is_int) T.F__law_is_int sc__law_is_int fun cdv Ar outer s H E hr tk po => (b_one (s_ret (e_andV (e_callB call_isi cx_isi (by rfl) T.z_isinstance (by decide +kernel) (a_cons (e_var (pv 0)) (a_cons (e_ty (by rfl) T.z_int (by decide +kernel)) a_nil))) (e_and1 (e_notV (e_callB call_isi cx_isi (by rfl) T.z_isinstance (by decide +kernel) (a_cons (e_var (pv 0)) (a_cons (e_ty (by rfl) T.z_bool (by decide +kernel)) a_nil))))))))
theorem ok__law_class (T : Txt P K mg) : FnOk P w K mg base (L2.CX P w) 1 T.a__law_class T.fd__law_class ["rules", "number"] (SpD K mg 2 d__law_class) :=
  fn_ok (N := ["rules", "number", "test", "name", "place", "modulus", "low", "high"]) (ps := ["rules", "number"]) (A := [2, 3, 4, 5, 6, 7]) (body := b__law_class) T.F__law_class sc__law_class fun cdv Ar outer s H E hr tk po => (b_cons (s_for po rfl (i_any (e_varF (pv 0))) (g_tup rfl (gs_cons (g_name (pg_name (i := 2) sc__law_class.nd rfl (by first | exact Or.inl rfl | exact Or.inr rfl)) (by decide)) (gs_cons (g_name (pg_name (i := 3) sc__law_class.nd rfl (by first | exact Or.inl rfl | exact Or.inr rfl)) (by decide)) gs_nil))) (b_cons (s_asg (e_varF (pv 2)) (g_tup rfl (gs_cons (g_name (pg_name (i := 5) sc__law_class.nd rfl (by first | exact Or.inl rfl | exact Or.inr rfl)) (by decide)) (gs_cons (g_name (pg_name (i := 6) sc__law_class.nd rfl (by first | exact Or.inl rfl | exact Or.inr rfl)) (by decide)) (gs_cons (g_name (pg_name (i := 7) sc__law_class.nd rfl (by first | exact Or.inl rfl | exact Or.inr rfl)) (by decide)) gs_nil))))) (b_cons (s_set (i := 4) (by decide) sc__law_class.nd rfl (by first | exact Or.inl rfl | exact Or.inr rfl) (e_if (t_cmp (or_eq hr.units) ox_eq (e_var (pv 5)) e_int (nomark _)) (e_varF (pv 1)) (e_mod (e_callT call_int1 cx_int1 (by rfl) T.z_int (by decide +kernel) (a_cons (e_var (pv 1)) a_nil)) (e_var (pv 5))))) (b_one (s_if (t_chain or_le ox_cmp or_le ox_cmp (e_var (pv 6)) (e_var (pv 4)) (e_var (pv 7))) (b_one (s_ret (e_varM (pv 3)))) b_nil))))) (b_one (s_ret e_str)))
theorem ok__law_due (T : Txt P K mg) : FnOk P w K mg base (L2.CX P w) 2 T.a__law_due T.fd__law_due ["template", "rules", "values"] (SpD K mg 3 d__law_due) :=
  fn_ok (N := ["template", "rules", "values", "piece", "words", "value"]) (ps := ["template", "rules", "values"]) (A := [3, 4, 5]) (body := b__law_due) T.F__law_due sc__law_due fun cdv Ar outer s H E hr tk po => (b_cons (s_for po rfl (i_any (e_varF (pv 0))) (g_name (pg_name (i := 3) sc__law_due.nd rfl (by first | exact Or.inl rfl | exact Or.inr rfl)) (by decide)) (b_one (s_if (t_w (w_and (t_truth (e_callB call_isi cx_isi (by rfl) T.z_isinstance (by decide +kernel) (a_cons (e_var (pv 3)) (a_cons (e_ty (by rfl) T.z_tuple (by decide +kernel)) a_nil)))) (w_and1 (t_cmp (or_notIn (room65 hr)) ox_notIn (e_idxV (pv 3) e_int) (e_var (pv 2)) (by rfl))))) (b_one (s_ret (e_lst (a_cons e_str (a_cons (e_idx (e_varF (pv 3)) e_int) a_nil))))) b_nil))) (b_cons (s_set (i := 4) (by decide) sc__law_due.nd rfl (by first | exact Or.inl rfl | exact Or.inr rfl) (e_lst a_nil)) (b_cons (s_for po rfl (i_any (e_varF (pv 0))) (g_name (pg_name (i := 3) sc__law_due.nd rfl (by first | exact Or.inl rfl | exact Or.inr rfl)) (by decide)) (b_one (s_if (t_not (t_truth (e_callB call_isi cx_isi (by rfl) T.z_isinstance (by decide +kernel) (a_cons (e_var (pv 3)) (a_cons (e_ty (by rfl) T.z_tuple (by decide +kernel)) a_nil))))) (b_one (s_append (pv 4) (e_varF (pv 3)))) (b_one (s_if (t_cmp (or_eq hr.units) ox_eq (e_idxV (pv 3) e_int) e_str (nomark _)) (b_one (s_append (pv 4) (e_callT cr_str cx_str (by rfl) T.z_str (by decide +kernel) (a_cons (e_idxV (pv 2) (e_idxV (pv 3) e_int)) a_nil)))) (b_cons (s_set (i := 5) (by decide) sc__law_due.nd rfl (by first | exact Or.inl rfl | exact Or.inr rfl) (e_idx (e_varF (pv 2)) (e_idxV (pv 3) e_int))) (b_cons (s_if (t_w (w_or (t_not (t_truth (e_call (ok__law_is_int T) tk (hr.mono (by decide)) (by rfl) T.m__law_is_int T.F__law_is_int.kp T.b__law_is_int (x_var (pv 5) x_nil)))) (w_or1 (t_cmp or_lt ox_cmp (e_var (pv 5)) e_int (nomark _))))) (b_one (s_ret (e_lst (a_cons e_str (a_cons (e_idx (e_varF (pv 3)) e_int) a_nil))))) b_nil) (b_one (s_append (pv 4) (e_get2 (room65 hr) (e_idxV (pv 3) e_int) (e_call (ok__law_class T) tk (hr.mono (by decide)) (by rfl) T.m__law_class T.F__law_class.kp T.b__law_class (x_var (pv 1) (x_var (pv 5) x_nil))) (e_idx (e_idx (e_varF (pv 3)) e_int) e_str))))))))))) (b_one (s_ret (e_lst (a_cons (e_join e_str (a_cons (e_var (pv 4)) a_nil)) a_nil)))))))
theorem ok_holds_for (T : Txt P K mg) : FnOk P w K mg base (L2.CX P w) 1 T.a_holds_for T.fd_holds_for ["test", "number"] (SpD K mg 2 d_holds_for) :=
  fn_ok (N := ["test", "number", "place", "modulus", "low", "high"]) (ps := ["test", "number"]) (A := [2, 3, 4, 5]) (body := b_holds_for) T.F_holds_for sc_holds_for fun cdv Ar outer s H E hr tk po => (b_cons (s_asg (e_varF (pv 0)) (g_tup rfl (gs_cons (g_name (pg_name (i := 3) sc_holds_for.nd rfl (by first | exact Or.inl rfl | exact Or.inr rfl)) (by decide)) (gs_cons (g_name (pg_name (i := 4) sc_holds_for.nd rfl (by first | exact Or.inl rfl | exact Or.inr rfl)) (by decide)) (gs_cons (g_name (pg_name (i := 5) sc_holds_for.nd rfl (by first | exact Or.inl rfl | exact Or.inr rfl)) (by decide)) gs_nil))))) (b_cons (s_set (i := 2) (by decide) sc_holds_for.nd rfl (by first | exact Or.inl rfl | exact Or.inr rfl) (e_if (t_cmp (or_eq hr.units) ox_eq (e_var (pv 3)) e_int (nomark _)) (e_varF (pv 1)) (e_mod (e_var (pv 1)) (e_var (pv 3))))) (b_one (s_ret (e_chain or_le ox_cmp or_le ox_cmp (e_var (pv 4)) (e_var (pv 2)) (e_var (pv 5)))))))
theorem ok_class_of (T : Txt P K mg) : FnOk P w K mg base (L2.CX P w) 2 T.a_class_of T.fd_class_of ["rules", "number"] (SpD K mg 2 d_class_of) :=
  fn_ok (N := ["rules", "number", "test", "name"]) (ps := ["rules", "number"]) (A := [2, 3]) (body := b_class_of) T.F_class_of sc_class_of fun cdv Ar outer s H E hr tk po => (b_cons (s_for po rfl (i_any (e_varF (pv 0))) (g_tup rfl (gs_cons (g_name (pg_name (i := 2) sc_class_of.nd rfl (by first | exact Or.inl rfl | exact Or.inr rfl)) (by decide)) (gs_cons (g_name (pg_name (i := 3) sc_class_of.nd rfl (by first | exact Or.inl rfl | exact Or.inr rfl)) (by decide)) gs_nil))) (b_one (s_if (t_truth (e_call (ok_holds_for T) tk (hr.mono (by decide)) (by rfl) T.m_holds_for T.F_holds_for.kp T.b_holds_for (x_var (pv 2) (x_var (pv 1) x_nil)))) (b_one (s_ret (e_varM (pv 3)))) b_nil))) (b_one (s_ret (e_globS (by rfl) T.c_OTHER))))
theorem ok_is_number (T : Txt P K mg) : FnOk P w K mg base (L2.CX P w) 1 T.a_is_number T.fd_is_number ["value"] (SpD K mg 1 d_is_number) :=
  fn_ok (N := ["value"]) (ps := ["value"]) (A := []) (body := b_is_number) T.F_is_number sc_is_number fun cdv Ar outer s H E hr tk po => (b_one (s_ret (e_andV (e_callB call_isi cx_isi (by rfl) T.z_isinstance (by decide +kernel) (a_cons (e_var (pv 0)) (a_cons (e_ty (by rfl) T.z_int (by decide +kernel)) a_nil))) (e_andV (e_notV (e_callB call_isi cx_isi (by rfl) T.z_isinstance (by decide +kernel) (a_cons (e_var (pv 0)) (a_cons (e_ty (by rfl) T.z_bool (by decide +kernel)) a_nil)))) (e_and1 (e_cmp or_ge ox_cmp (e_var (pv 0)) e_int (nomark _)))))))
theorem ok_said (T : Txt P K mg) : FnOk P w K mg base (L2.CX P w) 3 T.a_said T.fd_said ["template", "rules", "values"] (SpD K mg 3 d_said) :=
  fn_ok (N := ["template", "rules", "values", "piece", "found", "name"]) (ps := ["template", "rules", "values"]) (A := [3, 4, 5]) (body := b_said) T.F_said sc_said fun cdv Ar outer s H E hr tk po => (b_cons (s_for po rfl (i_any (e_varF (pv 0))) (g_name (pg_name (i := 3) sc_said.nd rfl (by first | exact Or.inl rfl | exact Or.inr rfl)) (by decide)) (b_one (s_if (t_w (w_and (t_truth (e_callB call_isi cx_isi (by rfl) T.z_isinstance (by decide +kernel) (a_cons (e_var (pv 3)) (a_cons (e_ty (by rfl) T.z_tuple (by decide +kernel)) a_nil)))) (w_and1 (t_cmp (or_notIn (room65 hr)) ox_notIn (e_idxV (pv 3) e_int) (e_var (pv 2)) (by rfl))))) (b_one (s_raise rfl tk T.x_NoValue (hr.mono (by decide)) (by rfl) (a_cons (e_idx (e_varF (pv 3)) e_int) a_nil))) b_nil))) (b_cons (s_for po rfl (i_any (e_varF (pv 0))) (g_name (pg_name (i := 3) sc_said.nd rfl (by first | exact Or.inl rfl | exact Or.inr rfl)) (by decide)) (b_one (s_if (t_w (w_and (t_truth (e_callB call_isi cx_isi (by rfl) T.z_isinstance (by decide +kernel) (a_cons (e_var (pv 3)) (a_cons (e_ty (by rfl) T.z_tuple (by decide +kernel)) a_nil)))) (w_and (t_cmp (or_eq hr.units) ox_eq (e_idxV (pv 3) e_int) e_str (nomark _)) (w_and1 (t_not (t_truth (e_call (ok_is_number T) tk (hr.mono (by decide)) (by rfl) T.m_is_number T.F_is_number.kp T.b_is_number (x_cons (e_idx (e_varF (pv 2)) (e_idxV (pv 3) e_int)) x_nil)))))))) (b_one (s_raise rfl tk T.x_NoNumber (hr.mono (by decide)) (by rfl) (a_cons (e_idx (e_varF (pv 3)) e_int) a_nil))) b_nil))) (b_cons (s_set (i := 4) (by decide) sc_said.nd rfl (by first | exact Or.inl rfl | exact Or.inr rfl) (e_lst a_nil)) (b_cons (s_for po rfl (i_any (e_varF (pv 0))) (g_name (pg_name (i := 3) sc_said.nd rfl (by first | exact Or.inl rfl | exact Or.inr rfl)) (by decide)) (b_one (s_if (t_not (t_truth (e_callB call_isi cx_isi (by rfl) T.z_isinstance (by decide +kernel) (a_cons (e_var (pv 3)) (a_cons (e_ty (by rfl) T.z_tuple (by decide +kernel)) a_nil))))) (b_one (s_append (pv 4) (e_varF (pv 3)))) (b_one (s_if (t_cmp (or_eq hr.units) ox_eq (e_idxV (pv 3) e_int) e_str (nomark _)) (b_one (s_append (pv 4) (e_callT cr_str cx_str (by rfl) T.z_str (by decide +kernel) (a_cons (e_idxV (pv 2) (e_idxV (pv 3) e_int)) a_nil)))) (b_cons (s_set (i := 5) (by decide) sc_said.nd rfl (by first | exact Or.inl rfl | exact Or.inr rfl) (e_call (ok_class_of T) tk (hr.mono (by decide)) (by rfl) T.m_class_of T.F_class_of.kp T.b_class_of (x_var (pv 1) (x_cons (e_idx (e_varF (pv 2)) (e_idxV (pv 3) e_int)) x_nil)))) (b_one (s_append (pv 4) (e_idx (e_idx (e_varF (pv 3)) e_int) (e_if (t_cmp (or_in (room65 hr)) ox_in (e_var (pv 5)) (e_idxV (pv 3) e_int) (by rfl)) (e_var (pv 5)) (e_globS (by rfl) T.c_OTHER))))))))))) (b_one (s_ret (e_join e_str (a_cons (e_var (pv 4)) a_nil))))))))
theorem ok__law_told (T : Txt P K mg) : FnOk P w K mg base (L2.CX P w) 4 T.a__law_told T.fd__law_told ["template", "rules", "values"] (SpD K mg 3 d__law_told) :=
  fn_ok (N := ["template", "rules", "values", "e"]) (ps := ["template", "rules", "values"]) (A := [3]) (body := b__law_told) T.F__law_told sc__law_told fun cdv Ar outer s H E hr tk po => (b_one (s_try rfl rfl rfl sc__law_told.nd tk (fun W pn xe tk po => (b_one (s_ret (e_lst (a_cons (e_call (ok_said T) tk (hr.mono (by decide)) (by rfl) T.m_said T.F_said.kp T.b_said (x_var (pv 0) (x_var (pv 1) (x_var (pv 2) x_nil)))) a_nil))))) (.cons ⟨by rfl, by decide, Or.inl T.m_NoValue⟩ rfl rfl (by decide) (hit_cons T.m_NoNumber T.e_NoNumber_NoValue (hit_cons T.m_NoValue T.e_NoValue_NoValue hit_nil)) (fun a pn => (b_one (s_ret (e_lst (a_cons e_str (a_cons (e_fld (e_var (pv 3))) a_nil)))))) (.cons ⟨by rfl, by decide, Or.inl T.m_NoNumber⟩ rfl rfl (by decide) (hit_cons T.m_NoNumber T.e_NoNumber_NoNumber (hit_cons T.m_NoValue T.e_NoValue_NoNumber hit_nil)) (fun a pn => (b_one (s_ret (e_lst (a_cons e_str (a_cons (e_fld (e_var (pv 3))) a_nil)))))) .nil))))
theorem ok_law (T : Txt P K mg) : FnOk P w K mg base (L2.CX P w) 12 T.a_law T.fd_law ["script"] (SpD K mg 1 d_law) :=
  fn_ok (N := ["script", "pool", "turn", "template", "rules", "k", "values", "handed", "modulus", "low"]) (ps := ["script"]) (A := [1, 2, 3, 4, 5, 6, 7, 8, 9]) (body := b_law) T.F_law sc_law fun cdv Ar outer s H E hr tk po => (b_cons (s_set (i := 1) (by decide) sc_law.nd rfl (by first | exact Or.inl rfl | exact Or.inr rfl) (e_call (ok__law_pool T) tk (hr.mono (by decide)) (by rfl) T.m__law_pool T.F__law_pool.kp T.b__law_pool (x_var (pv 0) x_nil))) (b_cons (s_for po rfl (i_range (by rfl) T.z_range (a_cons e_int a_nil)) (g_name (pg_name (i := 2) sc_law.nd rfl (by first | exact Or.inl rfl | exact Or.inr rfl)) (by decide)) (b_cons (s_expr (e_call (ok__law_next T) tk (hr.mono (by decide)) (by rfl) T.m__law_next T.F__law_next.kp T.b__law_next (x_var (pv 1) x_nil))) (b_cons (s_set (i := 3) (by decide) sc_law.nd rfl (by first | exact Or.inl rfl | exact Or.inr rfl) (e_call (ok__law_template_drawn T) tk (hr.mono (by decide)) (by rfl) T.m__law_template_drawn T.F__law_template_drawn.kp T.b__law_template_drawn (x_var (pv 1) x_nil))) (b_cons (s_set (i := 4) (by decide) sc_law.nd rfl (by first | exact Or.inl rfl | exact Or.inr rfl) (e_lst a_nil)) (b_cons (s_for po rfl (i_range (by rfl) T.z_range (a_cons (e_call (ok__law_draw T) tk (hr.mono (by decide)) (by rfl) T.m__law_draw T.F__law_draw.kp T.b__law_draw (x_var (pv 1) (x_cons e_int x_nil))) a_nil)) (g_name (pg_name (i := 5) sc_law.nd rfl (by first | exact Or.inl rfl | exact Or.inr rfl)) (by decide)) (b_cons (s_set (i := 8) (by decide) sc_law.nd rfl (by first | exact Or.inl rfl | exact Or.inr rfl) (e_call (ok__law_pick T) tk (hr.mono (by decide)) (by rfl) T.m__law_pick T.F__law_pick.kp T.b__law_pick (x_var (pv 1) (x_cons (e_lst (a_cons e_int (a_cons e_int (a_cons e_int (a_cons e_int a_nil))))) x_nil)))) (b_cons (s_set (i := 9) (by decide) sc_law.nd rfl (by first | exact Or.inl rfl | exact Or.inr rfl) (e_call (ok__law_draw T) tk (hr.mono (by decide)) (by rfl) T.m__law_draw T.F__law_draw.kp T.b__law_draw (x_var (pv 1) (x_cons e_int x_nil)))) (b_one (s_append (pv 4) (e_tup (a_cons (e_tup (a_cons (e_varF (pv 8)) (a_cons (e_varF (pv 9)) (a_cons (e_add (e_varF (pv 9)) (e_call (ok__law_draw T) tk (hr.mono (by decide)) (by rfl) T.m__law_draw T.F__law_draw.kp T.b__law_draw (x_var (pv 1) (x_cons e_int x_nil)))) a_nil)))) (a_cons (e_call (ok__law_pick T) tk (hr.mono (by decide)) (by rfl) T.m__law_pick T.F__law_pick.kp T.b__law_pick (x_var (pv 1) (x_cons (e_lst (a_cons e_str (a_cons e_str (a_cons e_str (a_cons e_str a_nil))))) x_nil))) a_nil)))))))) (b_cons (s_set (i := 6) (by decide) sc_law.nd rfl (by first | exact Or.inl rfl | exact Or.inr rfl) (e_call (ok__law_values_drawn T) tk (hr.mono (by decide)) (by rfl) T.m__law_values_drawn T.F__law_values_drawn.kp T.b__law_values_drawn (x_var (pv 1) x_nil))) (b_cons (s_set (i := 7) (by decide) sc_law.nd rfl (by first | exact Or.inl rfl | exact Or.inr rfl) (e_lst (a_cons (e_call (ok__law_copied T 10) tk (hr.mono (by decide)) (by rfl) T.m__law_copied T.F__law_copied.kp T.b__law_copied (x_var (pv 3) x_nil)) (a_cons (e_callT (cr_dictA rfl) cx_dictA (by rfl) T.z_dict (by decide +kernel) (a_cons (e_varF (pv 6)) a_nil)) a_nil)))) (b_cons (s_if (t_not (t_truth (e_call (ok__law_same T 10) tk (hr.mono (by decide)) (by rfl) T.m__law_same T.F__law_same.kp T.b__law_same (x_cons (e_call (ok__law_told T) tk (hr.mono (by decide)) (by rfl) T.m__law_told T.F__law_told.kp T.b__law_told (x_cons (e_idx (e_varF (pv 7)) e_int) (x_cons (e_callT call_tuple_of cx_tuple (by rfl) T.z_tuple (by decide +kernel) (a_cons (e_varF (pv 4)) a_nil)) (x_cons (e_idx (e_varF (pv 7)) e_int) x_nil)))) (x_cons (e_call (ok__law_due T) tk (hr.mono (by decide)) (by rfl) T.m__law_due T.F__law_due.kp T.b__law_due (x_var (pv 3) (x_var (pv 4) (x_var (pv 6) x_nil)))) x_nil))))) (b_one (s_ret e_bl)) b_nil) (b_one (s_if (t_not (t_truth (e_call (ok__law_same T 10) tk (hr.mono (by decide)) (by rfl) T.m__law_same T.F__law_same.kp T.b__law_same (x_var (pv 7) (x_cons (e_lst (a_cons (e_varF (pv 3)) (a_cons (e_varF (pv 6)) a_nil))) x_nil))))) (b_one (s_ret e_bl)) b_nil)))))))))) (b_one (s_ret e_bl))))
end
end Lk75

set_option maxHeartbeats 1000000
namespace Lk75
open PySem PySem.Spec PyProof.Rows L2 Den
theorem e_pool : d__law_pool = dp_pool := rfl
theorem e_next : d__law_next = dp_next := rfl
theorem e_draw : d__law_draw = dp_draw := rfl
theorem e_pick : d__law_pick = dp_pick := rfl
theorem e_same : d__law_same = dp_sameD := by
  funext k; induction k with
  | zero => rfl
  | succ k ih => unfold d__law_same dp_sameD; rw [ih]; rfl
variable {Q : DV → List (Sh × D) → Prop} {X : Exn → List (Sh × D) → Prop} {ns : List Int} {a r f : Int}
/-- draws below a great limit -/
theorem drawB_w {n : Int} (hn : 0 < n) (hl : n ≤ 10 ^ 30) (h : ∀ r f v : Int, 0 ≤ v → v < n → Q (.sh .im, .int v) [pS ns a r f, iS n]) : wF dp_draw Q X [pS ns a r f, iS n] := by
  have l2 : n.natAbs.log2 < 9000 := by
    have : n.natAbs < 2 ^ 200 := by
      have : (n.natAbs : Int) < (2 : Int) ^ 200 := by omega
      exact_mod_cast this
    have := log_lt this (by decide)
    omega
  have fin : ∀ r f : Int, Q (.sh .im, .int (r % n)) [pS ns a (r / n) f, iS n] := fun r f => h _ _ _ (Int.emod_nonneg _ (Int.ne_of_gt hn)) (Int.emod_lt_of_pos _ hn)
  unfold dp_draw; rw [wF_fn_z]; unfold bp_draw
  simp [hn, l2]
  split
  · refine rest_w fun r => ?_
    simp [hn, l2]
    exact fin _ _
  · exact fin _ _
theorem join_signs {t : List Nat} (h : t.length ≤ 1000) : joinOp (.str (Str.ofString "")) [.lst (t.map fun c => D.str (S [c]))] = some (.s (.str (S t))) := by
  have em : Str.ofString "" = S [] := by decide +kernel
  have e : (t.map fun c => D.str (S [c])) = ((t.map fun c => [c]).map fun l => D.str (S l)) := by simp [Function.comp_def]
  have e2 : ∀ t : List Nat, (t.map fun c => [c]).flatten = t := fun t => by
    induction t with
    | nil => rfl
    | cons c t ih => rw [List.map_cons, List.flatten_cons, ih]; rfl
  have e3 : ((t.map fun c => [c]).map List.length).sum = t.length := by
    clear h e
    induction t with
    | nil => rfl
    | cons c t ih => simp only [List.map_cons, List.sum_cons, ih, List.length_cons, List.length_nil]; omega
  rw [em, e, joinOp_S, e3, glue0, e2, if_pos (by simp; omega)]
def sgL : List Nat := [97, 98, 32, 99, 122, 48, 57, 46, 44, 45]
theorem lit_sg : (.str "ab cz09.,-" : D) = .str (S sgL) := rfl
theorem phrase_w (h : ∀ (r f : Int) (t : List Nat), t.length ≤ 8 → Q (.sh .im, .str (S t)) [pS ns a r f]) : wF d__law_phrase Q X [pS ns a r f] := by
  unfold d__law_phrase; rw [wF_fn_z]; unfold b__law_phrase
  rw [e_draw, lit_sg]
  have em : Str.ofString "" = S [] := by decide +kernel
  refine seq_op (fun ρ => ρ = [some (pS ns a r f), some (.im, .str (S sgL)), none]) (fun I hI => ?_) ?_
  · simp; exact hI _ rfl
  rintro _ rfl
  simp
  refine draw_w (by decide) (by decide) fun r f v h1 h2 => ?_
  obtain ⟨n, hn, rfl⟩ : ∃ n : Nat, n ≤ 8 ∧ v = (n : Int) := ⟨v.toNat, by omega, by omega⟩
  simp [ownIm, wipeR]
  refine ⟨rngOk_n (by omega), ?_⟩
  refine wC_inv (I := fun k ρ acc => ∃ r f, ∃ t : List Nat, t.length = k ∧ acc = (t.map fun c => D.str (S [c])) ∧ ρ = [some (pS ns a r f), some (.im, .str (S sgL)), none]) ⟨r, f, [], rfl, rfl, rfl⟩ ?_ ?_
  · intro k d ρ acc hk hI
    obtain ⟨r, f, t, ht, rfl, rfl⟩ := hI
    obtain ⟨hk, rfl⟩ := rangeD_get hk
    simp
    refine draw_w (by decide) (by decide) fun r f v h1 h2 => ?_
    obtain ⟨c, hc, hm⟩ := atI_at (xs := sgL) h1 (by simpa [sgL] using h2)
    have sl : sgL.length = 10 := rfl
    simp [hc, sl, sizeLine, wipeR]
    exact ⟨by omega, r, f, t ++ [c], by simp [ht], by simp, rfl⟩
  · intro ρ acc hI'
    obtain ⟨r, f, t, ht, rfl, rfl⟩ := hI'
    rw [rangeD_len] at ht
    have jn := join_signs (t := t) (by omega)
    simp [mergeR, jn]
    exact h r f t (by omega)
end Lk75

set_option maxHeartbeats 2000000
namespace Lk75
open PySem PySem.Spec PyProof.Rows L2 Den
variable {Q : DV → List (Sh × D) → Prop} {X : Exn → List (Sh × D) → Prop} {ns : List Int} {a r f : Int}
abbrev other : Str := "other"
inductive Pc where
  | txt (s : Str) | slot (n : Str) | forms (n : Str) (al : Al)
def Pc.d : Pc → D
  | .txt s => .str s
  | .slot n => .tup [.str "slot", .str n]
  | .forms n al => .tup [.str "forms", .str n, shD al]
/-- keys at most those of ks, each once; few *)
-/
structure AlOk (ks : List Str) (ok : Val → Prop) (al : Al) : Prop where
  nd : (al.map (·.1)).Nodup
  sub : ∀ n ∈ al.map (·.1), n ∈ ks
  vals : ∀ p ∈ al, ok p.2
  few : al.length ≤ ks.length
theorem AlOk.up {ks ks' : List Str} {ok : Val → Prop} {al : Al} (h : AlOk ks ok al) (hs : ∀ n ∈ ks, n ∈ ks') (hl : ks.length ≤ ks'.length) : AlOk ks' ok al :=
  ⟨h.nd, fun n hn => hs n (h.sub n hn), h.vals, Nat.le_trans h.few hl⟩
theorem AlOk.app {ks : List Str} {ok : Val → Prop} {al : Al} {n : Str} {v : Val} (h : AlOk ks ok al) (hn : n ∉ ks) (hv : ok v) : AlOk (ks ++ [n]) ok (al ++ [(n, v)]) := by
  have hna : n ∉ al.map (·.1) := fun z => hn (h.sub n z)
  refine ⟨?_, fun m hm => ?_, fun p hp => ?_, ?_⟩
  · rw [List.map_append, List.nodup_append]
    exact ⟨h.nd, by simp, fun x hx y hy => by simp at hy; subst hy; rintro rfl; exact hna hx⟩
  · rw [List.map_append] at hm
    rcases List.mem_append.1 hm with z | z
    · exact List.mem_append_left _ (h.sub m z)
    · exact List.mem_append_right _ (by simpa using z)
  · rcases List.mem_append.1 hp with z | z
    · exact h.vals p z
    · simp at z; rw [z]; exact hv
  · have := h.few; simp; omega
theorem AlOk.put {ks : List Str} {ok : Val → Prop} {al : Al} {n : Str} {v : Val} (h : AlOk ks ok al) (hn : n ∉ ks) : putD (shK al) (.str n) v.d = shK (al ++ [(n, v)]) := put_sh fun z => hn (h.sub n z)
def txtOk : Val → Prop
  | .s x => x.length ≤ 8
  | .i _ => False
def valOk : Val → Prop
  | .s x => x.length ≤ 8
  | .i z => z.natAbs ≤ 10 ^ 30
structure TabOk (al : Al) : Prop where
  tab : AlOk ["other", "one", "few", "many"] txtOk al
  oth : ∃ x : Str, getA al other = some (.s x)
def Pc.ok : Pc → Prop
  | .txt s => s.length ≤ 8
  | .slot _ => True
  | .forms _ al => TabOk al
def wds : List Str := ["one", "few", "many"]
theorem wds_new {k : Nat} {w : Str} (h : wds[k]? = some w) : w ∉ (other :: wds.take k) ∧ other :: wds.take (k + 1) = (other :: wds.take k) ++ [w] := by
  rcases k with _ | _ | _ | k
  · simp [wds] at h; subst h; exact ⟨by decide +kernel, rfl⟩
  · simp [wds] at h; subst h; exact ⟨by decide +kernel, rfl⟩
  · simp [wds] at h; subst h; exact ⟨by decide +kernel, rfl⟩
  · simp [wds] at h
theorem lit_wds : ([.str "one", .str "few", .str "many"] : List D) = wds.map D.str := rfl
theorem getA_oth {al : Al} {n : Str} {v : Val} {x : Str} (h : getA al other = some (.s x)) (hn : n ∉ al.map (·.1)) (hne : n ≠ other) : getA (al ++ [(n, v)]) other = some (.s x) := by
  rw [getA_app hn, if_neg fun z => hne z.symm]; exact h
theorem tab0 {t : List Nat} : mergeD [] [(kD (.inr (Str.ofString "other")), (.str (S t) : D))] = shK [("other", .s (S t))] := rfl
theorem template_w (h : ∀ (a r f : Int) (ps : List Pc), ps.length ≤ 8 → (∀ p ∈ ps, p.ok) → Q (.sh .im, .tup (ps.map Pc.d)) [pS ns a r f]) : wF d__law_template_drawn Q X [pS ns a r f] := by
  unfold d__law_template_drawn; rw [wF_fn_z]; unfold b__law_template_drawn
  rw [e_draw, e_next, e_pick]
  refine seq_op (fun ρ => ρ = [some (pS ns a r f), some (.ow .im, .lst []), none, none, none, none]) (fun I hI => ?_) ?_
  · simp [sizeLine]; exact hI _ rfl
  rintro _ rfl
  refine seq_op (fun ρ => ∃ (a r f : Int) (ps : List Pc) (x2 x3 x4 x5 : Slot), ps.length ≤ 8 ∧ (∀ p ∈ ps, p.ok) ∧ ρ = [some (pS ns a r f), some (.ow .im, .lst (ps.map Pc.d)), x2, x3, x4, x5]) (fun I hI => ?_) ?_
  · simp
    refine draw_w (by decide) (by decide) fun r f v h1 h2 => ?_
    obtain ⟨n, hn, rfl⟩ : ∃ n : Nat, n ≤ 8 ∧ v = (n : Int) := ⟨v.toNat, by omega, by omega⟩
    simp
    refine ⟨rngOk_n (by omega), ?_⟩
    obtain ⟨J0, hJ0⟩ : ∃ J : Nat → Rho → Prop, J = fun k ρ => ∃ (a r f : Int) (ps : List Pc) (x2 x3 x4 x5 : Slot), ps.length = k ∧ (∀ p ∈ ps, p.ok) ∧ ρ = [some (pS ns a r f), some (.ow .im, .lst (ps.map Pc.d)), x2, x3, x4, x5] := ⟨_, rfl⟩
    refine loop_inv (I := J0) (by rw [hJ0]; exact ⟨a, r, f, [], none, none, none, none, rfl, by simp, rfl⟩) ?_ ?_
    · intro k d ρ hk hI'
      rw [hJ0] at hI'
      obtain ⟨a, r, f, ps, x2, x3, x4, x5, hl, hp, rfl⟩ := hI'
      obtain ⟨hk, rfl⟩ := rangeD_get hk
      simp
      refine next_w fun a r f => ?_
      simp
      refine pick_w (by simp) (by simp) fun r f d hd => ?_
      obtain ⟨n, rfl⟩ : ∃ n : Str, d = .str n := by
        simp at hd; rcases hd with rfl | rfl | rfl | rfl <;> exact ⟨_, rfl⟩
      simp
      refine phrase_w fun r f t ht => ?_
      simp [tab0]
      rw [lit_wds]
      obtain ⟨J, hJe⟩ : ∃ J : Nat → Rho → Prop, J = fun k ρ => ∃ (r f : Int) (al : Al) (x5 : Slot), AlOk (other :: wds.take k) txtOk al ∧ (∃ x : Str, getA al other = some (.s x)) ∧ ρ = [some (pS ns a r f), some (.ow .im, .lst (ps.map Pc.d)), some (.im, .int (ps.length : Int)), some (.im, .str n), some (.ow .im, shD al), x5] := ⟨_, rfl⟩
      have wl : wds.length = 3 := rfl
      refine loop_inv (I := J) (by rw [hJe]; exact ⟨r, f, [(other, .s (S t))], x5, ⟨by simp, by simp, by simp [txtOk]; exact ht, by simp⟩, ⟨_, by simp [getA]; rfl⟩, by simp [hl]⟩) ?_ ?_
      · intro j d ρ hj hJ
        rw [hJe] at hJ
        obtain ⟨r, f, al, x5, hal, ⟨x, ho⟩, rfl⟩ := hJ
        rw [List.getElem?_map] at hj
        obtain ⟨w, hw, rfl⟩ := Option.map_eq_some_iff.mp hj
        obtain ⟨w1, w2⟩ := wds_new hw
        simp
        refine draw_w (by decide) (by decide) fun r f v h1 h2 => ?_
        simp
        split
        · refine phrase_w fun r f t ht => ?_
          have pt := hal.put (v := .s (S t)) w1
          have hf := hal.few
          have hz : (shK al).length < sizeLine := by
            simp [shK, sizeLine]; simp at hf; have := List.length_take_le j wds; omega
          simp [hz]
          rw [hJe]
          refine ⟨r, f, al ++ [(w, .s (S t))], some (.im, .str w), by rw [w2]; exact hal.app w1 (by simpa [txtOk] using ht), ⟨x, getA_oth ho (fun z => w1 (hal.sub _ z)) fun z => w1 (by rw [z]; exact List.mem_cons_self)⟩, ?_⟩
          have pt' : putD (shK al) (.str w) (.str (S t)) = shK (al ++ [(w, .s (S t))]) := pt
          rw [pt']
        · rw [hJe]; refine ⟨r, f, al, some (.im, .str w), hal.up (fun m hm => by rw [w2]; exact List.mem_append_left _ hm) (by rw [w2]; simp), ⟨x, ho⟩, rfl⟩
      · intro ρ hJ
        rw [hJe] at hJ
        obtain ⟨r, f, al, x5, hal, ho, rfl⟩ := hJ
        have hw : other :: wds.take (wds.map D.str).length = (["other", "one", "few", "many"] : List Str) := rfl
        rw [hw] at hal
        have tok : TabOk al := ⟨hal, ho⟩
        simp
        refine phrase_w fun r f t' ht' => ?_
        simp [sizeLine]
        refine pick_w (by simp) (by simp) fun r f d hd => ?_
        obtain ⟨p, hok, rfl⟩ : ∃ p : Pc, p.ok ∧ d = p.d := by
          simp at hd
          rcases hd with rfl | rfl | rfl
          · exact ⟨.txt (S t'), by simpa [Pc.ok] using ht', rfl⟩
          · exact ⟨.slot n, trivial, rfl⟩
          · exact ⟨.forms n al, tok, rfl⟩
        simp
        refine ⟨by omega, ?_⟩
        rw [hJ0]
        exact ⟨a, r, f, ps ++ [p], some (.im, .int (ps.length : Int)), some (.im, .str n), some (.im, shD al), x5, by simp [hl], fun q hq => by
          rcases List.mem_append.1 hq with z | z
          · exact hp q z
          · simp at z; rw [z]; exact hok, by simp⟩
    · intro ρ hI'
      rw [hJ0] at hI'
      obtain ⟨a, r, f, ps, x2, x3, x4, x5, hl, hp, rfl⟩ := hI'
      rw [rangeD_len] at hl
      exact hI _ ⟨a, r, f, ps, x2, x3, x4, x5, by omega, hp, rfl⟩
  rintro _ ⟨a, r, f, ps, x2, x3, x4, x5, hl, hp, rfl⟩
  simp
  exact h a r f ps hl hp
end Lk75

set_option maxHeartbeats 2000000
namespace Lk75
open PySem PySem.Spec PyProof.Rows L2 Den
variable {Q : DV → List (Sh × D) → Prop} {X : Exn → List (Sh × D) → Prop} {ns : List Int} {a r f : Int}
def nms : List Str := ["ann", "bob", "many", "day"]
abbrev VsOk75 (al : Al) : Prop := AlOk nms valOk al
theorem nms_new {k : Nat} {w : Str} (h : nms[k]? = some w) : w ∉ nms.take k ∧ nms.take (k + 1) = nms.take k ++ [w] := by
  rcases k with _ | _ | _ | _ | k
  · simp [nms] at h; subst h; exact ⟨by decide +kernel, rfl⟩
  · simp [nms] at h; subst h; exact ⟨by decide +kernel, rfl⟩
  · simp [nms] at h; subst h; exact ⟨by decide +kernel, rfl⟩
  · simp [nms] at h; subst h; exact ⟨by decide +kernel, rfl⟩
  · simp [nms] at h
theorem lit_nms : ([.str "ann", .str "bob", .str "many", .str "day"] : List D) = nms.map D.str := rfl
theorem values_w (h : ∀ (r f : Int) (al : Al), VsOk75 al → Q (.sh (.ow .im), shD al) [pS ns a r f]) : wF d__law_values_drawn Q X [pS ns a r f] := by
  unfold d__law_values_drawn; rw [wF_fn_z]; unfold b__law_values_drawn
  rw [e_draw, e_pick]
  refine seq_op (fun ρ => ρ = [some (pS ns a r f), some (.ow .im, .dic []), none, none, none]) (fun I hI => ?_) ?_
  · simp; exact hI _ rfl
  rintro _ rfl
  refine seq_op (fun ρ => ∃ (r f : Int) (al : Al) (x2 x3 x4 : Slot), VsOk75 al ∧ ρ = [some (pS ns a r f), some (.ow .im, shD al), x2, x3, x4]) (fun I hI => ?_) ?_
  · have nl : nms.length = 4 := rfl
    simp [sizeLine]
    rw [lit_nms]
    obtain ⟨J, hJe⟩ : ∃ J : Nat → Rho → Prop, J = fun k ρ => ∃ (r f : Int) (al : Al) (x2 x3 x4 : Slot), AlOk (nms.take k) valOk al ∧ ρ = [some (pS ns a r f), some (.ow .im, shD al), x2, x3, x4] := ⟨_, rfl⟩
    refine loop_inv (I := J) (by rw [hJe]; exact ⟨r, f, [], none, none, none, ⟨by simp, by simp, by simp, by simp⟩, rfl⟩) ?_ ?_
    · intro j d ρ hj hJ
      rw [hJe] at hJ
      obtain ⟨r, f, al, x2, x3, x4, hal, rfl⟩ := hJ
      rw [List.getElem?_map] at hj
      obtain ⟨w, hw, rfl⟩ := Option.map_eq_some_iff.mp hj
      obtain ⟨w1, w2⟩ := nms_new hw
      simp [sizeLine]
      refine pick_w (by simp) (by simp) fun r f d hd => ?_
      obtain ⟨m, m1, m2, rfl⟩ : ∃ m : Int, 0 < m ∧ m ≤ 10 ^ 30 ∧ d = .int m := by
        simp at hd
        rcases hd with rfl | rfl | rfl
        · exact ⟨3, by decide, by decide, rfl⟩
        · exact ⟨40, by decide, by decide, rfl⟩
        · exact ⟨_, by decide, by decide, rfl⟩
      simp
      refine drawB_w m1 m2 fun r f v h1 h2 => ?_
      simp
      refine phrase_w fun r f t ht => ?_
      simp [sizeLine]
      refine pick_w (by simp) (by simp) fun r f d hd => ?_
      obtain ⟨u, hu, rfl⟩ : ∃ u : Val, valOk u ∧ d = u.d := by
        have vb : v.natAbs ≤ 10 ^ 30 := by omega
        simp at hd
        rcases hd with rfl | rfl | rfl
        · exact ⟨.i v, vb, rfl⟩
        · exact ⟨.i (-v), by show (-v).natAbs ≤ 10 ^ 30; omega, rfl⟩
        · exact ⟨.s (S t), by simpa [valOk] using ht, rfl⟩
      simp
      refine draw_w (by decide) (by decide) fun r f y y1 y2 => ?_
      simp
      have hf := hal.few
      have hz : (shK al).length < sizeLine := by
        simp [shK, sizeLine]; simp at hf; have := List.length_take_le j nms; omega
      split
      · simp [hz, hal.put (v := u) w1]
        refine ⟨by simpa [sizeLine] using hz, ?_⟩
        rw [hJe]
        exact ⟨r, f, al ++ [(w, u)], some (.im, .str w), some (.im, .int v), some (.im, u.d), by rw [w2]; exact hal.app w1 hu, rfl⟩
      · rw [hJe]
        exact ⟨r, f, al, some (.im, .str w), some (.im, .int v), some (.im, u.d), hal.up (fun m hm => by rw [w2]; exact List.mem_append_left _ hm) (by rw [w2]; simp), rfl⟩
    · intro ρ hJ
      rw [hJe] at hJ
      obtain ⟨r, f, al, x2, x3, x4, hal, rfl⟩ := hJ
      exact hI _ ⟨r, f, al, x2, x3, x4, hal, rfl⟩
  rintro _ ⟨r, f, al, x2, x3, x4, hal, rfl⟩
  simp
  exact h r f al hal
end Lk75

set_option maxHeartbeats 2000000
namespace Lk75
open PySem PySem.Spec PyProof.Rows L2 Den
variable {Q : DV → List (Sh × D) → Prop} {X : Exn → List (Sh × D) → Prop} {ns : List Int} {a r f : Int}
/-! rules -/
abbrev Tst := Int × Int × Int
abbrev Rl := Tst × Str
def tsD (t : Tst) : D := .tup [.int t.1, .int t.2.1, .int t.2.2]
def rlD (x : Rl) : D := .tup [tsD x.1, .str x.2]
def plc (t : Tst) (n : Int) : Int := if t.1 = 0 then n else n % t.1
def hold (t : Tst) (n : Int) : Bool := decide (t.2.1 ≤ plc t n) && decide (plc t n ≤ t.2.2)
def cls (rs : List Rl) (n : Int) : Str := match rs.find? (fun x => hold x.1 n) with
  | some x => x.2
  | none => other
theorem find_at {α : Type} {p : α → Bool} : ∀ {xs : List α} {k : Nat} {x : α}, (∀ y ∈ xs.take k, p y = false) → xs[k]? = some x → p x = true → xs.find? p = some x
  | [], _, _, _, h, _ => by simp at h
  | y :: xs, 0, x, _, h, hp => by simp at h; subst h; simp [hp]
  | y :: xs, k + 1, x, h0, h, hp => by
    have hy : p y = false := h0 y (by simp)
    rw [List.find?_cons, hy]
    exact find_at (k := k) (fun z hz => h0 z (by simp [hz])) (by simpa using h) hp
theorem find_no {α : Type} {p : α → Bool} {xs : List α} (h : ∀ y ∈ xs, p y = false) : xs.find? p = none := by
  rw [List.find?_eq_none]; intro x hx; rw [h x hx]; exact Bool.false_ne_true
theorem take_next {α : Type} {P : α → Prop} {xs : List α} {k : Nat} {x : α} (h : ∀ y ∈ xs.take k, P y) (hx : xs[k]? = some x) (hp : P x) : ∀ y ∈ xs.take (k + 1), P y := by
  intro y hy
  rw [List.take_add_one, hx] at hy
  rcases List.mem_append.1 hy with z | z
  · exact h y z
  · simp at z; rw [z]; exact hp
theorem holds_for_w {t : Tst} {n : Int} (h0 : 0 ≤ t.1) (h : Q (.sh .im, .bl (hold t n)) [(.im, tsD t), iS n]) : wF d_holds_for Q X [(.im, tsD t), iS n] := by
  unfold d_holds_for; rw [wF_fn_z]; unfold b_holds_for
  have hp : hold t n = (decide (t.2.1 ≤ plc t n) && decide (plc t n ≤ t.2.2)) := rfl
  simp [tsD]
  by_cases c : t.1 = 0
  · have e : plc t n = n := by unfold plc; rw [if_pos c]
    simp [c]
    rw [hp, e] at h
    by_cases c1 : t.2.1 ≤ n
    · rw [if_pos c1]; simpa [tsD, c, c1] using h
    · rw [if_neg c1]; simpa [tsD, c, c1] using h
  · have e : plc t n = n % t.1 := by unfold plc; rw [if_neg c]
    have lt : 0 < t.1 := by omega
    simp [c, lt]
    rw [hp, e] at h
    by_cases c1 : t.2.1 ≤ n % t.1
    · rw [if_pos c1]; simpa [tsD, c1] using h
    · rw [if_neg c1]; simpa [tsD, c1] using h
theorem cls_at {rs : List Rl} {n : Int} {k : Nat} {x : Rl} (h : ∀ y ∈ rs.take k, hold y.1 n = false) (hx : rs[k]? = some x) (hp : hold x.1 n = true) : cls rs n = x.2 := by
  unfold cls; rw [find_at (p := fun y : Rl => hold y.1 n) h hx hp]
theorem cls_no {rs : List Rl} {n : Int} (h : ∀ y ∈ rs, hold y.1 n = false) : cls rs n = other := by
  unfold cls; rw [find_no (p := fun y : Rl => hold y.1 n) h]
abbrev RsOk (rs : List Rl) : Prop := rs.length ≤ 8 ∧ ∀ x ∈ rs, 0 ≤ x.1.1
theorem class_of_w {rs : List Rl} {n : Int} (g : RsOk rs) (h : Q (.sh .im, .str (cls rs n)) [(.im, .tup (rs.map rlD)), iS n]) : wF d_class_of Q X [(.im, .tup (rs.map rlD)), iS n] := by
  unfold d_class_of; rw [wF_fn_z]; unfold b_class_of
  simp
  refine loop_inv (I := fun k ρ => (∀ y ∈ rs.take k, hold y.1 n = false) ∧ ∃ x2 x3, ρ = [some (.im, .tup (rs.map rlD)), some (iS n), x2, x3]) ⟨by simp, none, none, rfl⟩ ?_ ?_
  · intro k d ρ hk hI
    obtain ⟨hb, x2, x3, rfl⟩ := hI
    rw [List.getElem?_map] at hk
    obtain ⟨x, hx, rfl⟩ := Option.map_eq_some_iff.mp hk
    have hm : x ∈ rs := List.mem_of_getElem? hx
    simp [rlD]
    refine holds_for_w (g.2 x hm) ?_
    simp
    cases hh : hold x.1 n with
    | true =>
      simp
      rw [cls_at hb hx hh] at h
      simpa [rlD] using h
    | false =>
      simp
      exact fun _ _ _ _ hts => take_next (P := fun y : Rl => hold y.1 n = false) hb hx hh _ hts
  · intro ρ hI
    obtain ⟨hb, x2, x3, rfl⟩ := hI
    rw [List.length_map, List.take_length] at hb
    rw [cls_no hb] at h
    simpa using h
theorem class_w {rs : List Rl} {n : Int} {s s2 : Sh} (g : RsOk rs) (h : Q (.sh .im, .str (cls rs n)) [(.im, .lst (rs.map rlD)), iS n]) : wF d__law_class Q X [(s, .lst (rs.map rlD)), iS n] := by
  unfold d__law_class; rw [wF_fn_z]; unfold b__law_class
  simp
  refine loop_inv (I := fun k ρ => (∀ y ∈ rs.take k, hold y.1 n = false) ∧ ∃ x2 x3 x4 x5 x6 x7, ρ = [some (.im, .lst (rs.map rlD)), some (iS n), x2, x3, x4, x5, x6, x7]) ⟨by simp, none, none, none, none, none, none, rfl⟩ ?_ ?_
  · intro k d ρ hk hI
    obtain ⟨hb, x2, x3, x4, x5, x6, x7, rfl⟩ := hI
    rw [List.getElem?_map] at hk
    obtain ⟨x, hx, rfl⟩ := Option.map_eq_some_iff.mp hk
    have hm : x ∈ rs := List.mem_of_getElem? hx
    have h0 := g.2 x hm
    simp [rlD, tsD]
    have hp : hold x.1 n = (decide (x.1.2.1 ≤ plc x.1 n) && decide (plc x.1 n ≤ x.1.2.2)) := rfl
    have fin : hold x.1 n = false → ∀ (a a_1 b : Int) (b_1 : Str), ((a, a_1, b), b_1) ∈ List.take (k + 1) rs → hold (a, a_1, b) n = false := fun hh _ _ _ _ hts => take_next (P := fun y : Rl => hold y.1 n = false) hb hx hh _ hts
    have yes : hold x.1 n = true → Q (Md.sh Sh.im, D.str x.2) [(Sh.im, D.lst (rs.map rlD)), iS n] := fun hh => by
      rw [cls_at hb hx hh] at h; exact h
    by_cases c : x.1.1 = 0
    · have e : plc x.1 n = n := by unfold plc; rw [if_pos c]
      rw [e] at hp
      rw [if_pos c]
      split
      · split
        · exact yes (by rw [hp]; simp [*])
        · exact fin (by rw [hp]; simp [*])
      · exact fin (by rw [hp]; simp [*])
    · have e : plc x.1 n = n % x.1.1 := by unfold plc; rw [if_neg c]
      rw [e] at hp
      rw [if_neg c]
      refine ⟨by omega, ?_⟩
      split
      · split
        · exact yes (by rw [hp]; simp [*])
        · exact fin (by rw [hp]; simp [*])
      · exact fin (by rw [hp]; simp [*])
  · intro ρ hI
    obtain ⟨hb, x2, x3, x4, x5, x6, x7, rfl⟩ := hI
    rw [List.length_map, List.take_length] at hb
    rw [cls_no hb] at h
    simpa using h
end Lk75

set_option maxHeartbeats 4000000
namespace Lk75
open PySem PySem.Spec PyProof.Rows L2 Den
variable {Q : DV → List (Sh × D) → Prop} {X : Exn → List (Sh × D) → Prop} {ns : List Int} {a r f : Int}
/-! what a template says -/
def isNum : Val → Bool
  | .i z => decide (0 ≤ z)
  | .s _ => false
def valStr : Val → Str
  | .s x => x
  | .i z => toString z
def miss (al : Al) : Pc → Option Str
  | .txt _ => none
  | .slot n => if (getA al n).isSome = true then none else some n
  | .forms n _ => if (getA al n).isSome = true then none else some n
def bad (al : Al) : Pc → Option Str
  | .forms n _ => (match getA al n with
    | some v => if isNum v = true then none else some n
    | none => none)
  | _ => none
def numOf (al : Al) (n : Str) : Int := match getA al n with
  | some (.i z) => z
  | _ => 0
def tabW (tab : Al) (c : Str) : Str := match getA tab c with
  | some (.s x) => x
  | _ => (match getA tab other with
    | some (.s x) => x
    | _ => "")
def word (rs : List Rl) (al : Al) : Pc → Str
  | .txt s => s
  | .slot n => (match getA al n with
    | some v => valStr v
    | none => "")
  | .forms n tab => tabW tab (cls rs (numOf al n))
inductive Out where
  | ok (s : Str) | nov (n : Str) | non (n : Str)
def out (rs : List Rl) (al : Al) (ps : List Pc) : Out := match ps.findSome? (miss al) with
  | some n => .nov n
  | none => (match ps.findSome? (bad al) with
    | some n => .non n
    | none => .ok (Txt.join "" (ps.map (word rs al))))
theorem some_at {α β : Type} {p : α → Option β} {b : β} : ∀ {xs : List α} {k : Nat} {x : α}, (∀ y ∈ xs.take k, p y = none) → xs[k]? = some x → p x = some b → xs.findSome? p = some b
  | [], _, _, _, h, _ => by simp at h
  | y :: xs, 0, x, _, h, hp => by simp at h; subst h; simp [hp]
  | y :: xs, k + 1, x, h0, h, hp => by
    have hy : p y = none := h0 y (by simp)
    rw [List.findSome?_cons, hy]
    exact some_at (k := k) (fun z hz => h0 z (by simp [hz])) (by simpa using h) hp
theorem some_no {α β : Type} {p : α → Option β} {xs : List α} (h : ∀ y ∈ xs, p y = none) : xs.findSome? p = none := by
  rw [List.findSome?_eq_none_iff]; exact h
variable {rs : List Rl} {al : Al} {ps : List Pc}
theorem out_nov {k : Nat} {x : Pc} {n : Str} (h : ∀ y ∈ ps.take k, miss al y = none) (hx : ps[k]? = some x) (hm : miss al x = some n) : out rs al ps = .nov n := by
  unfold out; rw [some_at h hx hm]
theorem out_non {k : Nat} {x : Pc} {n : Str} (h0 : ∀ y ∈ ps, miss al y = none) (h : ∀ y ∈ ps.take k, bad al y = none) (hx : ps[k]? = some x) (hm : bad al x = some n) : out rs al ps = .non n := by
  unfold out; rw [some_no h0]; dsimp only; rw [some_at h hx hm]
theorem out_ok (h0 : ∀ y ∈ ps, miss al y = none) (h : ∀ y ∈ ps, bad al y = none) : out rs al ps = .ok (Txt.join "" (ps.map (word rs al))) := by
  unfold out; rw [some_no h0]; dsimp only; rw [some_no h]
/-! lengths -/
theorem len_of {s : String} : (Str.ofString s).length = s.length := by
  rw [Str.ofString_eq_toList]
  show (s.toList.map Char.toNat).toArray.size = _
  rw [List.size_toArray, List.length_map, String.length_toList]
theorem len_int {z : Int} (h : z.natAbs ≤ 10 ^ 30) : (toString z : Str).length ≤ 40 := by
  show (Str.ofString z.repr).length ≤ 40
  rw [len_of]
  have key : ∀ m : Nat, m ≤ 10 ^ 30 → m.repr.length ≤ 31 := fun m hm => (Nat.length_repr_le_iff (by decide)).2 (by omega)
  cases z with
  | ofNat m => have := key m (by simpa using h); show m.repr.length ≤ 40; omega
  | negSucc m =>
    have := key (m + 1) (by simpa using h)
    show ("-" ++ (m + 1).repr).length ≤ 40
    rw [String.length_append]
    have : ("-" : String).length = 1 := rfl
    omega
theorem log_int {z : Int} (h : z.natAbs ≤ 10 ^ 30) : z.natAbs.log2 < 1920 := by
  have : z.natAbs < 2 ^ 200 := by omega
  have := log_lt this (by decide)
  omega
theorem getA_val {ks : List Str} {ok : Val → Prop} {al : Al} {n : Str} {v : Val} (h : AlOk ks ok al) (e : getA al n = some v) : ok v := by
  unfold getA at e
  obtain ⟨p, hp, rfl⟩ := Option.map_eq_some_iff.mp e
  exact h.vals p (List.mem_of_find?_eq_some hp)
theorem tabW_len {tab : Al} {c : Str} (h : TabOk tab) : (tabW tab c).length ≤ 8 := by
  obtain ⟨x, hx⟩ := h.oth
  have h8 : ∀ (n : Str) (x : Str), getA tab n = some (.s x) → x.length ≤ 8 := fun n x e => getA_val h.tab e
  unfold tabW
  split
  · rename_i e; exact h8 _ _ e
  · rw [hx]; exact h8 _ _ hx
theorem word_len {p : Pc} (hp : p.ok) (hv : VsOk75 al) : (word rs al p).length ≤ 40 := by
  cases p with
  | txt s => have : s.length ≤ 8 := hp; show s.length ≤ 40; omega
  | slot n =>
    unfold word
    dsimp only
    split
    · rename_i v e
      have := getA_val hv e
      cases v with
      | s x => have : x.length ≤ 8 := this; show x.length ≤ 40; omega
      | i z => exact len_int this
    · show (Str.ofString "").length ≤ 40; rw [len_of]; decide
  | forms n tab => have := tabW_len (c := cls rs (numOf al n)) (h := hp); show (tabW tab _).length ≤ 40; omega
theorem join_words {ws : List Str} (h : ∀ w ∈ ws, w.length ≤ 40) (hl : ws.length ≤ 1000) : joinOp (.str (Str.ofString "")) [.lst (ws.map .str)] = some (.s (.str (Txt.join "" ws))) := by
  show (match strsOf (ws.map D.str) with | some ys => if (ys.map Str.length).sum + ys.length * (Str.ofString "").length ≤ 16777216 then some (OR.s (.str (Txt.join (Str.ofString "") ys))) else none | none => none) = _
  rw [strsOf_map]
  have e : (Str.ofString "").length = 0 := by rw [len_of]; rfl
  have : ∀ ws : List Str, (∀ w ∈ ws, w.length ≤ 40) → (ws.map Str.length).sum ≤ 40 * ws.length := fun ws => by
    induction ws with
    | nil => intro _; simp
    | cons w ws ih =>
      intro h
      have h1 := h w List.mem_cons_self
      have h2 := ih fun u hu => h u (List.mem_cons_of_mem _ hu)
      simp only [List.map_cons, List.sum_cons, List.length_cons]; omega
  have := this ws h
  dsimp only
  rw [if_pos (by rw [e]; omega)]
theorem is_number_w {s : Sh} {v : Val} (h : Q (.sh .im, .bl (isNum v)) [(s, v.d)]) : wF d_is_number Q X [(s, v.d)] := by
  unfold d_is_number; rw [wF_fn_z]; unfold b_is_number
  cases v with
  | s x => simp [Val.d, isiOp, tyName, isiB]; exact h
  | i z => simp [Val.d, isiOp, tyName, isiB]; exact h
end Lk75

set_option maxHeartbeats 4000000
namespace Lk75
open PySem PySem.Spec PyProof.Rows L2 Den
variable {Q : DV → List (Sh × D) → Prop} {X : Exn → List (Sh × D) → Prop} {ns : List Int} {a r f : Int}
variable {rs : List Rl} {al : Al} {ps : List Pc}
abbrev psD (ps : List Pc) : D := .tup (ps.map Pc.d)
abbrev rsT (rs : List Rl) : D := .tup (rs.map rlD)
abbrev rsL (rs : List Rl) : D := .lst (rs.map rlD)
def saidOut (Q : DV → List (Sh × D) → Prop) (X : Exn → List (Sh × D) → Prop) (args : List (Sh × D)) : Out → Prop
  | .ok s => Q (.sh .im, .str s) args
  | .nov n => X ⟨"NoValue", [("slot", .str n)]⟩ args
  | .non n => X ⟨"NoNumber", [("slot", .str n)]⟩ args
theorem strOp_v {v : Val} (h : valOk v) : strOp [v.d] = some (.s (.str (valStr v))) := by
  cases v with
  | s x => rfl
  | i z =>
    show (if z.natAbs.log2 < 1920 then some (OR.s (.str (toString z))) else none) = _
    rw [if_pos (log_int h)]; rfl
theorem ne_fs : ¬ (Str.ofString "forms" = Str.ofString "slot") := by decide +kernel
theorem said_w (gp : ∀ p ∈ ps, p.ok) (gl : ps.length ≤ 8) (gr : RsOk rs) (gv : VsOk75 al) (h : saidOut Q X [(.im, psD ps), (.im, rsT rs), (.im, shD al)] (out rs al ps)) : wF d_said Q X [(.im, psD ps), (.im, rsT rs), (.im, shD al)] := by
  unfold d_said; rw [wF_fn_z]; unfold b_said
  simp
  refine loop_inv (I := fun k ρ => (∀ y ∈ ps.take k, miss al y = none) ∧ ∃ x3 x4 x5, ρ = [some (.im, psD ps), some (.im, rsT rs), some (.im, shD al), x3, x4, x5]) ⟨by simp, none, none, none, rfl⟩ ?_ ?_
  · intro k d ρ hk hI
    obtain ⟨hb, x3, x4, x5, rfl⟩ := hI
    rw [List.getElem?_map] at hk
    obtain ⟨x, hx, rfl⟩ := Option.map_eq_some_iff.mp hk
    have nx := fun hh => take_next (P := fun y : Pc => miss al y = none) hb hx hh
    have ex : ∀ n, miss al x = some n → X ⟨"NoValue", [("slot", .str n)]⟩ [(.im, psD ps), (.im, rsT rs), (.im, shD al)] := fun n hn => by
      rw [out_nov hb hx hn] at h; exact h
    cases x with
    | txt s => simp [Pc.d]; exact nx rfl
    | slot n =>
      simp [Pc.d, getK_sh]
      cases e : getA al n with
      | none => simp; exact ex n (by simp [miss, e])
      | some v => simp; exact nx (by simp [miss, e])
    | forms n tab =>
      simp [Pc.d, getK_sh]
      cases e : getA al n with
      | none => simp; exact ex n (by simp [miss, e])
      | some v => simp; exact nx (by simp [miss, e])
  · intro ρ hI
    obtain ⟨h0, x3, x4, x5, rfl⟩ := hI
    rw [List.length_map, List.take_length] at h0
    simp
    have have_v : ∀ x ∈ ps, (∀ n, x = .slot n → ∃ v, getA al n = some v) ∧ ∀ n tab, x = .forms n tab → ∃ v, getA al n = some v := fun x hx => by
      have hm := h0 x hx
      refine ⟨fun n e => ?_, fun n tab e => ?_⟩ <;> subst e <;> (cases e : getA al n with
        | none => simp [miss, e] at hm
        | some v => exact ⟨v, rfl⟩)
    refine loop_inv (I := fun k ρ => (∀ y ∈ ps.take k, bad al y = none) ∧ ∃ x3 x4 x5, ρ = [some (.im, psD ps), some (.im, rsT rs), some (.im, shD al), x3, x4, x5]) ⟨by simp, _, _, _, rfl⟩ ?_ ?_
    · intro k d ρ hk hI
      obtain ⟨hb, x3, x4, x5, rfl⟩ := hI
      rw [List.getElem?_map] at hk
      obtain ⟨x, hx, rfl⟩ := Option.map_eq_some_iff.mp hk
      have hxm : x ∈ ps := List.mem_of_getElem? hx
      have nx := fun hh => take_next (P := fun y : Pc => bad al y = none) hb hx hh
      have ex : ∀ n, bad al x = some n → X ⟨"NoNumber", [("slot", .str n)]⟩ [(.im, psD ps), (.im, rsT rs), (.im, shD al)] := fun n hn => by
        rw [out_non h0 hb hx hn] at h; exact h
      cases x with
      | txt s => simp [Pc.d]; exact nx rfl
      | slot n => simp [Pc.d]; exact nx rfl
      | forms n tab =>
        obtain ⟨v, hv⟩ := (have_v _ hxm).2 n tab rfl
        simp [Pc.d, getK_sh, hv]
        refine is_number_w ?_
        simp
        cases hn : isNum v with
        | true => simp; exact nx (by simp [bad, hv, hn])
        | false => simp; exact ex n (by simp [bad, hv, hn])
    · intro ρ hI
      obtain ⟨h1, x3, x4, x5, rfl⟩ := hI
      rw [List.length_map, List.take_length] at h1
      rw [out_ok h0 h1] at h
      simp [sizeLine]
      obtain ⟨J, hJe⟩ : ∃ J : Nat → Rho → Prop, J = fun k ρ => ∃ (ws : List Str) (x3 x5 : Slot), ws = (ps.take k).map (word rs al) ∧ ρ = [some (.im, psD ps), some (.im, rsT rs), some (.im, shD al), x3, some (.ow .im, .lst (ws.map D.str)), x5] := ⟨_, rfl⟩
      refine loop_inv (I := J) (by rw [hJe]; exact ⟨[], _, _, by simp, rfl⟩) ?_ ?_
      · intro k d ρ hk hI
        rw [hJe] at hI
        obtain ⟨ws, x3, x5, hws, rfl⟩ := hI
        rw [List.getElem?_map] at hk
        obtain ⟨x, hx, rfl⟩ := Option.map_eq_some_iff.mp hk
        have hxm : x ∈ ps := List.mem_of_getElem? hx
        have tl : ws.length ≤ 8 := by rw [hws]; simp; omega
        have tl' : ws.length < 16777216 := by omega
        have fin : ∀ (x3 x5 : Slot) (u : Str), u = word rs al x → J (k + 1) [some (.im, psD ps), some (.im, rsT rs), some (.im, shD al), x3, some (.ow .im, .lst (ws.map D.str ++ [.str u])), x5] := fun x3 x5 u hu => by
          rw [hJe]; exact ⟨ws ++ [u], x3, x5, by rw [List.take_add_one, hx, hws, hu]; simp, by simp⟩
        cases x with
        | txt s => simp [Pc.d, tl', sizeLine]; exact fin _ _ _ rfl
        | slot n =>
          obtain ⟨v, hv⟩ := (have_v _ hxm).1 n rfl
          simp [Pc.d, getK_sh, hv, strOp_v (getA_val gv hv), sizeLine]
          exact ⟨tl', fin _ _ _ (by simp [word, hv])⟩
        | forms n tab =>
          obtain ⟨v, hv⟩ := (have_v _ hxm).2 n tab rfl
          have hn : isNum v = true := by
            cases c : isNum v with
            | true => rfl
            | false => have := h1 _ hxm; simp [bad, hv, c] at this
          obtain ⟨z, rfl⟩ : ∃ z, v = .i z := by
            cases v with
            | s x => cases hn
            | i z => exact ⟨z, rfl⟩
          simp [Pc.d, getK_sh, hv, ne_fs]
          have ez : numOf al n = z := by simp [numOf, hv]
          refine class_of_w gr ?_
          simp [sizeLine]
          have tok : TabOk tab := gp _ hxm
          obtain ⟨y, ho⟩ := tok.oth
          rw [getK_sh, getK_sh]
          cases e : getA tab (cls rs z) with
          | none =>
            simp [ho, Val.d]
            exact ⟨tl', fin _ _ _ (by simp [word, tabW, ez, e, ho])⟩
          | some u =>
            obtain ⟨x, rfl⟩ : ∃ x, u = .s x := by
              have := getA_val tok.tab e
              cases u with
              | s x => exact ⟨x, rfl⟩
              | i z => exact this.elim
            simp [Val.d]
            exact ⟨tl', fin _ _ _ (by simp [word, tabW, ez, e])⟩
      · intro ρ hI
        rw [hJe] at hI
        obtain ⟨ws, x3, x5, hws, rfl⟩ := hI
        rw [List.length_map, List.take_length] at hws
        have jw := join_words (ws := ps.map (word rs al)) (fun w hw => by
          obtain ⟨p, hp, rfl⟩ := List.mem_map.1 hw
          exact word_len (gp p hp) gv) (by simp; omega)
        rw [← hws] at jw h
        simp [jw]
        exact h
end Lk75

set_option maxHeartbeats 4000000
namespace Lk75
open PySem PySem.Spec PyProof.Rows L2 Den
variable {Q : DV → List (Sh × D) → Prop} {X : Exn → List (Sh × D) → Prop} {ns : List Int} {a r f : Int}
variable {rs : List Rl} {al : Al} {ps : List Pc}
def Out.d : Out → D
  | .ok s => .lst [.str s]
  | .nov n => .lst [.str "NoValue", .str n]
  | .non n => .lst [.str "NoNumber", .str n]
def isI : Val → Bool
  | .i _ => true
  | .s _ => false
theorem is_int_w {s : Sh} {v : Val} (h : Q (.sh .im, .bl (isI v)) [(s, v.d)]) : wF d__law_is_int Q X [(s, v.d)] := by
  unfold d__law_is_int; rw [wF_fn_z]; unfold b__law_is_int
  cases v with
  | s x => simp [Val.d, isiOp, tyName, isiB]; exact h
  | i z => simp [Val.d, isiOp, tyName, isiB]; exact h
theorem getOr_sh {tab : Al} {c : Str} {d : D} : getOr (shD tab) (.str c) d = some (((getA tab c).map Val.d).getD d) := by
  show some ((getK (shK tab) (.str c)).getD d) = _
  rw [getK_sh]
theorem getOr_tab {tab : Al} {c y : Str} (h : TabOk tab) (ho : getA tab other = some (.s y)) : getOr (shD tab) (.str c) (Val.s y).d = some (.str (tabW tab c)) := by
  rw [getOr_sh]
  unfold tabW
  cases e : getA tab c with
  | none => simp [ho, Val.d]
  | some u =>
    cases u with
    | s x => simp [Val.d]
    | i z => exact (getA_val h.tab e : txtOk (.i z)).elim
theorem due_w {s : Sh} (hs : s = .im ∨ s = .ow .im) (gp : ∀ p ∈ ps, p.ok) (gl : ps.length ≤ 8) (gr : RsOk rs) (gv : VsOk75 al) (h : ∀ s, Q (.sh (.ow .im), (out rs al ps).d) [(.im, psD ps), (s, rsL rs), (.im, shD al)]) : wF d__law_due Q X [(.im, psD ps), (s, rsL rs), (.im, shD al)] := by
  unfold d__law_due; rw [wF_fn_z]; unfold b__law_due
  simp
  refine loop_inv (I := fun k ρ => (∀ y ∈ ps.take k, miss al y = none) ∧ ∃ x3 x4 x5, ρ = [some (.im, psD ps), some (s, rsL rs), some (.im, shD al), x3, x4, x5]) ⟨by simp, none, none, none, rfl⟩ ?_ ?_
  · intro k d ρ hk hI
    obtain ⟨hb, x3, x4, x5, rfl⟩ := hI
    rw [List.getElem?_map] at hk
    obtain ⟨x, hx, rfl⟩ := Option.map_eq_some_iff.mp hk
    have nx := fun hh => take_next (P := fun y : Pc => miss al y = none) hb hx hh
    have ex : ∀ n, miss al x = some n → Q (.sh (.ow .im), .lst [.str "NoValue", .str n]) [(.im, psD ps), (s, rsL rs), (.im, shD al)] := fun n hn => by
      rw [out_nov hb hx hn] at h; exact h s
    cases x with
    | txt s => simp [Pc.d]; exact nx rfl
    | slot n =>
      simp [Pc.d, getK_sh]
      cases e : getA al n with
      | none => simp [sizeLine]; exact ex n (by simp [miss, e])
      | some v => simp; exact nx (by simp [miss, e])
    | forms n tab =>
      simp [Pc.d, getK_sh]
      cases e : getA al n with
      | none => simp [sizeLine]; exact ex n (by simp [miss, e])
      | some v => simp; exact nx (by simp [miss, e])
  · intro ρ hI
    obtain ⟨h0, x3, x4, x5, rfl⟩ := hI
    rw [List.length_map, List.take_length] at h0
    simp [sizeLine]
    have have_v : ∀ x ∈ ps, (∀ n, x = .slot n → ∃ v, getA al n = some v) ∧ ∀ n tab, x = .forms n tab → ∃ v, getA al n = some v := fun x hx => by
      have hm := h0 x hx
      refine ⟨fun n e => ?_, fun n tab e => ?_⟩ <;> subst e <;> (cases e : getA al n with
        | none => simp [miss, e] at hm
        | some v => exact ⟨v, rfl⟩)
    obtain ⟨J, hJe⟩ : ∃ J : Nat → Rho → Prop, J = fun k ρ => ∃ (ws : List Str) (s : Sh) (x3 x5 : Slot), (s = .im ∨ s = .ow .im) ∧ (∀ y ∈ ps.take k, bad al y = none) ∧ ws = (ps.take k).map (word rs al) ∧ ρ = [some (.im, psD ps), some (s, rsL rs), some (.im, shD al), x3, some (.ow .im, .lst (ws.map D.str)), x5] := ⟨_, rfl⟩
    refine loop_inv (I := J) (by rw [hJe]; exact ⟨[], s, _, _, hs, by simp, by simp, rfl⟩) ?_ ?_
    · intro k d ρ hk hI
      rw [hJe] at hI
      obtain ⟨ws, s, x3, x5, hs, hb, hws, rfl⟩ := hI
      rw [List.getElem?_map] at hk
      obtain ⟨x, hx, rfl⟩ := Option.map_eq_some_iff.mp hk
      have hxm : x ∈ ps := List.mem_of_getElem? hx
      have tl : ws.length ≤ 8 := by rw [hws]; simp; omega
      have tl' : ws.length < 16777216 := by omega
      have nx := fun hh => take_next (P := fun y : Pc => bad al y = none) hb hx hh
      have ex : ∀ s n, bad al x = some n → Q (.sh (.ow .im), .lst [.str "NoNumber", .str n]) [(.im, psD ps), (s, rsL rs), (.im, shD al)] := fun s n hn => by
        rw [out_non h0 hb hx hn] at h; exact h s
      have fin : ∀ (s : Sh) (x3 x5 : Slot) (u : Str), (s = .im ∨ s = .ow .im) → u = word rs al x → bad al x = none → J (k + 1) [some (.im, psD ps), some (s, rsL rs), some (.im, shD al), x3, some (.ow .im, .lst (ws.map D.str ++ [.str u])), x5] := fun s x3 x5 u hs hu hbd => by
        rw [hJe]; exact ⟨ws ++ [u], s, x3, x5, hs, nx hbd, by rw [List.take_add_one, hx, hws, hu]; simp, by simp⟩
      cases x with
      | txt t => simp [Pc.d, tl', sizeLine]; exact fin _ _ _ _ hs rfl rfl
      | slot n =>
        obtain ⟨v, hv⟩ := (have_v _ hxm).1 n rfl
        simp [Pc.d, getK_sh, hv, strOp_v (getA_val gv hv), sizeLine]
        exact ⟨tl', fin _ _ _ _ hs (by simp [word, hv]) rfl⟩
      | forms n tab =>
        obtain ⟨v, hv⟩ := (have_v _ hxm).2 n tab rfl
        simp [Pc.d, getK_sh, hv, ne_fs]
        refine is_int_w ?_
        simp
        cases v with
        | s x =>
          simp [isI, sizeLine]
          exact ex _ n (by simp [bad, hv, isNum])
        | i z =>
          simp [isI, Val.d]
          have ez : numOf al n = z := by simp [numOf, hv]
          have tok : TabOk tab := gp _ hxm
          obtain ⟨y, ho⟩ := tok.oth
          by_cases hz : z < 0
          · simp [hz, sizeLine]
            exact ex _ n (by simp [bad, hv, isNum]; omega)
          · have hbd : bad al (.forms n tab) = none := by
              have : (0 : Int) ≤ z := by omega
              simp [bad, hv, isNum, this]
            simp [hz]
            rcases hs with rfl | rfl
            · simp
              refine class_w (s2 := .im) gr ?_
              simp [sizeLine, getK_sh, ho]
              rw [getOr_tab tok ho]
              simp
              exact ⟨tl', fin _ _ _ _ (.inl rfl) (by simp [word, ez]) hbd⟩
            · simp
              refine class_w (s2 := .im) gr ?_
              simp [sizeLine, getK_sh, ho]
              rw [getOr_tab tok ho]
              simp
              exact ⟨tl', fin _ _ _ _ (.inl rfl) (by simp [word, ez]) hbd⟩
    · intro ρ hI
      rw [hJe] at hI
      obtain ⟨ws, s, x3, x5, hs, hb, hws, rfl⟩ := hI
      rw [List.length_map, List.take_length] at hws hb
      rw [out_ok h0 hb] at h
      have jw := join_words (ws := ps.map (word rs al)) (fun w hw => by
        obtain ⟨p, hp, rfl⟩ := List.mem_map.1 hw
        exact word_len (gp p hp) gv) (by simp; omega)
      rw [← hws] at jw h
      simp [jw]
      exact h s
end Lk75

set_option maxHeartbeats 4000000
namespace Lk75
open PySem PySem.Spec PyProof.Rows L2 Den
variable {Q : DV → List (Sh × D) → Prop} {X : Exn → List (Sh × D) → Prop} {ns : List Int} {a r f : Int}
variable {rs : List Rl} {al : Al} {ps : List Pc}
theorem hit1 : List.lookup (Str.ofString "NoValue") [(Str.ofString "NoNumber", false), (Str.ofString "NoValue", true)] = some true := by decide +kernel
theorem hit2 : List.lookup (Str.ofString "NoNumber") [(Str.ofString "NoNumber", false), (Str.ofString "NoValue", true)] = some false := by decide +kernel
theorem hit3 : List.lookup (Str.ofString "NoNumber") [(Str.ofString "NoNumber", true), (Str.ofString "NoValue", false)] = some true := by decide +kernel
theorem told_w (gp : ∀ p ∈ ps, p.ok) (gl : ps.length ≤ 8) (gr : RsOk rs) (gv : VsOk75 al) (h : Q (.sh (.ow .im), (out rs al ps).d) [(.im, psD ps), (.im, rsT rs), (.im, shD al)]) : wF d__law_told Q X [(.im, psD ps), (.im, rsT rs), (.im, shD al)] := by
  unfold d__law_told; rw [wF_fn_z]; unfold b__law_told
  simp
  refine said_w gp gl gr gv ?_
  cases e : out rs al ps with
  | ok s =>
    rw [e] at h
    simp [saidOut, sizeLine]
    exact h
  | nov n =>
    rw [e] at h
    simp [saidOut]
    refine wH_yes hit1 ?_
    simp [sizeLine]
    exact h
  | non n =>
    rw [e] at h
    simp [saidOut]
    refine wH_no hit2 ?_
    refine wH_yes hit3 ?_
    simp [sizeLine]
    exact h
end Lk75

set_option maxHeartbeats 4000000
namespace Lk75
open PySem PySem.Spec PyProof.Rows L2 Den
variable {ns : List Int} {a r f : Int}
variable {rs : List Rl} {al : Al} {ps : List Pc}
/-- d is copied in k turns -/
def Cp (k : Nat) (d : D) : Prop := ∀ (s : Sh) (Q : DV → List (Sh × D) → Prop) (X : Exn → List (Sh × D) → Prop), (∀ s s', Q (.sh s, d) [(s', d)]) → wF (d__law_copied k) Q X [(s, d)]
theorem cp_str {k : Nat} {x : Str} : Cp (k + 1) (.str x) := fun s Q X h => by
  unfold d__law_copied; rw [wF_fn_z]; unfold b__law_copied
  refine seq_skip (by simp) ?_
  refine seq_skip (by simp) ?_
  refine seq_skip (by simp) ?_
  simp
  exact h _ _
theorem cp_val {k : Nat} {v : Val} : Cp (k + 1) v.d := by
  cases v with
  | s x => exact cp_str
  | i z =>
    intro s Q X h
    unfold d__law_copied; rw [wF_fn_z]; unfold b__law_copied
    refine seq_skip (by simp [Val.d]) ?_
    refine seq_skip (by simp [Val.d]) ?_
    refine seq_skip (by simp [Val.d]) ?_
    simp [Val.d]
    exact h _ _
theorem cp_tup {k : Nat} {xs : List D} (hl : xs.length ≤ 1000) (hx : ∀ x ∈ xs, Cp k x) : Cp (k + 1) (.tup xs) := fun s Q X h => by
  unfold d__law_copied; rw [wF_fn_z]; unfold b__law_copied
  refine seq_skip (by simp) ?_
  refine seq_skip (by simp) ?_
  refine seq_take (by simp) ?_
  simp [ownIm, wipeR]
  refine wC_map id (by simp [sizeLine]; omega) ?_ ?_
  · intro d hd
    simp
    refine hx d hd _ _ _ fun s s' => ?_
    simp [wipeR, kidOk]
  · simp [mergeR]
    exact h _ _
theorem take_new {j : Nat} {p : Str × Val} (nd : (al.map (·.1)).Nodup) (h : al[j]? = some p) : p.1 ∉ (al.take j).map (·.1) := by
  intro hm
  rw [List.map_take] at hm
  have h2 := nd
  rw [← List.take_append_drop j (al.map (·.1))] at h2
  have hd : p.1 ∈ (al.map (·.1)).drop j := by
    refine List.mem_of_getElem? (i := 0) ?_
    rw [List.getElem?_drop, Nat.add_zero, List.getElem?_map, h]; rfl
  exact (List.nodup_append.1 h2).2.2 _ hm _ hd rfl
theorem cp_dic {k : Nat} {ks : List Str} {ok : Val → Prop} (g : AlOk ks ok al) (hk : ks.length ≤ 1000) : Cp (k + 2) (shD al) := fun s Q X h => by
  unfold d__law_copied; rw [wF_fn_z]; unfold b__law_copied
  refine seq_take (by simp [isiOp, tyName, isiB]) ?_
  simp
  have ke : (shK al).map (fun x => x.1) = (al.map (·.1)).map D.str := by simp [shK]
  rw [ke]
  have few := g.few
  refine loop_inv (I := fun j ρ => ∃ x2 x3, ρ = [some (.im, shD al), some (.ow .im, shD (al.take j)), x2, x3]) ⟨none, none, by simp [shK]⟩ ?_ ?_
  · intro j d ρ hj hI
    obtain ⟨x2, x3, rfl⟩ := hI
    rw [List.getElem?_map, List.getElem?_map] at hj
    obtain ⟨n, hn, rfl⟩ := Option.map_eq_some_iff.mp hj
    obtain ⟨p, hp, rfl⟩ := Option.map_eq_some_iff.mp hn
    have gp : getA al p.1 = some p.2 := find_nd g.nd (List.mem_of_getElem? hp)
    simp [getK_sh, gp]
    refine cp_val _ _ _ fun s s' => ?_
    have hz : (shK (al.take j)).length < sizeLine := by
      simp [shK, sizeLine]; omega
    have pe := put_sh (v := p.2) (take_new g.nd hp)
    have te : al.take (j + 1) = al.take j ++ [(p.1, p.2)] := by rw [List.take_add_one, hp]; rfl
    simp [hz, pe, te]
  · intro ρ hI
    obtain ⟨x2, x3, rfl⟩ := hI
    have e : al.take (List.map D.str (al.map (·.1))).length = al := by simp
    rw [e]
    simp
    exact h _ _
theorem cp_pc {p : Pc} {k : Nat} (hp : p.ok) : Cp (k + 3) p.d := by
  cases p with
  | txt s => exact cp_str
  | slot n => exact cp_tup (by simp) fun x hx => by simp at hx; rcases hx with rfl | rfl <;> exact cp_str
  | forms n tab =>
    refine cp_tup (by simp) fun x hx => ?_
    simp at hx
    rcases hx with rfl | rfl | rfl
    · exact cp_str
    · exact cp_str
    · exact cp_dic (TabOk.tab hp) (by simp)
theorem cp_template (gp : ∀ p ∈ ps, p.ok) (gl : ps.length ≤ 8) : Cp 10 (psD ps) := cp_tup (by simp; omega) fun x hx => by
  obtain ⟨p, hp, rfl⟩ := List.mem_map.1 hx
  exact cp_pc (gp p hp)
end Lk75

set_option maxHeartbeats 4000000
namespace Lk75
open PySem PySem.Spec PyProof.Rows L2 Den
variable {al : Al} {ps : List Pc}
theorem shK_zip {al : Al} : shK al = ((al.map (·.1)).map D.str).zip (al.map fun p => p.2.d) := by
  unfold shK
  induction al with
  | nil => rfl
  | cons p al ih => rw [List.map_cons, ih]; rfl
theorem leafS {n : Nat} {x : Str} : Plan n (.str x) := .leaf rfl
theorem leafV {n : Nat} {v : Val} : Plan n v.d := .leaf (by cases v <;> rfl)
theorem plan_sh {n : Nat} {ks : List Str} {ok : Val → Prop} (g : AlOk ks ok al) (hk : ks.length ≤ 1000) : Plan (n + 1) (shD al) := by
  show Plan (n + 1) (.dic (shK al))
  rw [shK_zip]
  refine .dic (by simp) g.nd (by have := g.few; simp; omega) fun v hv => ?_
  obtain ⟨p, _, rfl⟩ := List.mem_map.1 hv
  exact leafV
theorem plan_pc {n : Nat} {p : Pc} (hp : p.ok) : Plan (n + 2) p.d := by
  cases p with
  | txt s => exact leafS
  | slot m =>
    refine .tup (by simp) fun x hx => ?_
    simp at hx; rcases hx with rfl | rfl <;> exact leafS
  | forms m tab =>
    refine .tup (by simp) fun x hx => ?_
    simp at hx
    rcases hx with rfl | rfl | rfl
    · exact leafS
    · exact leafS
    · exact plan_sh (TabOk.tab hp) (by simp)
theorem plan_out {n : Nat} {o : Out} : Plan (n + 1) o.d := by
  cases o <;> (refine .lst (by simp) fun x hx => ?_; simp at hx) 
  · subst hx; exact leafS
  · rcases hx with rfl | rfl <;> exact leafS
  · rcases hx with rfl | rfl <;> exact leafS
theorem plan_handed {n : Nat} (gp : ∀ p ∈ ps, p.ok) (gl : ps.length ≤ 8) (gv : VsOk75 al) : Plan (n + 4) (.lst [psD ps, shD al]) := by
  refine .lst (by simp) fun x hx => ?_
  simp at hx
  rcases hx with rfl | rfl
  · refine .tup (by simp; omega) fun x hx => ?_
    obtain ⟨p, hp, rfl⟩ := List.mem_map.1 hx
    exact plan_pc (gp p hp)
  · exact plan_sh gv (by simp [nms])
theorem law_w (ns : List Int) : wF d_law (fun a _ => ∃ m, a = (m, D.bl true)) (fun _ _ => False) [(.im, .lst (ns.map .int))] := by
  unfold d_law; rw [wF_fn_z]; unfold b_law
  rw [e_pool, e_same, e_next, e_draw, e_pick]
  refine seq_op (fun ρ => ∃ a r f, ρ = [some (.im, .lst (ns.map .int)), some (pS ns a r f), none, none, none, none, none, none, none, none]) (fun I hI => ?_) ?_
  · simp
    refine pool_w fun a r f => ?_
    simp
    exact hI _ ⟨a, r, f, rfl⟩
  rintro _ ⟨a, r, f, rfl⟩
  refine seq_op (fun ρ => ∃ (a r f : Int) (x2 x3 x4 x5 x6 x7 x8 x9 : Slot), ρ = [some (.im, .lst (ns.map .int)), some (pS ns a r f), x2, x3, x4, x5, x6, x7, x8, x9]) (fun I hI => ?_) ?_
  · simp
    obtain ⟨J0, hJ0⟩ : ∃ J : Nat → Rho → Prop, J = fun _ ρ => ∃ (a r f : Int) (x2 x3 x4 x5 x6 x7 x8 x9 : Slot), ρ = [some (.im, .lst (ns.map .int)), some (pS ns a r f), x2, x3, x4, x5, x6, x7, x8, x9] := ⟨_, rfl⟩
    refine ⟨rngOk_of (by decide) (by decide), ?_⟩
    refine loop_inv (I := J0) (by rw [hJ0]; exact ⟨a, r, f, none, none, none, none, none, none, none, none, rfl⟩) ?_ (fun ρ h => hI ρ (by rw [hJ0] at h; exact h))
    intro j d ρ hj hJ
    rw [hJ0] at hJ
    obtain ⟨a, r, f, x2, x3, x4, x5, x6, x7, x8, x9, rfl⟩ := hJ
    simp
    refine next_w fun a r f => ?_
    simp
    refine template_w fun a r f ps gl gp => ?_
    simp [sizeLine]
    refine draw_w (by decide) (by decide) fun r f v h1 h2 => ?_
    obtain ⟨n, hn, rfl⟩ : ∃ n : Nat, n ≤ 3 ∧ v = (n : Int) := ⟨v.toNat, by omega, by omega⟩
    simp
    refine ⟨rngOk_n (by omega), ?_⟩
    obtain ⟨J, hJe⟩ : ∃ J : Nat → Rho → Prop, J = fun k ρ => ∃ (r f : Int) (rl : List Rl) (x5 x8 x9 : Slot), rl.length = k ∧ (∀ x ∈ rl, 0 ≤ x.1.1) ∧ ρ = [some (.im, .lst (ns.map .int)), some (pS ns a r f), some (.im, d), some (.im, psD ps), some (.ow .im, .lst (rl.map rlD)), x5, x6, x7, x8, x9] := ⟨_, rfl⟩
    refine loop_inv (I := J) (by rw [hJe]; exact ⟨r, f, [], x5, x8, x9, rfl, by simp, rfl⟩) ?_ ?_
    · intro k d ρ hk hI'
      rw [hJe] at hI'
      obtain ⟨r, f, rl, x5, x8, x9, hl, hr, rfl⟩ := hI'
      obtain ⟨hk, rfl⟩ := rangeD_get hk
      simp [sizeLine]
      refine pick_w (by simp) (by simp) fun r f d hd => ?_
      obtain ⟨m, hm, rfl⟩ : ∃ m : Int, 0 ≤ m ∧ d = .int m := by
        simp at hd
        rcases hd with rfl | rfl | rfl
        · exact ⟨0, by decide, rfl⟩
        · exact ⟨2, by decide, rfl⟩
        · exact ⟨10, by decide, rfl⟩
      simp
      refine draw_w (by decide) (by decide) fun r f lo l1 l2 => ?_
      simp
      refine draw_w (by decide) (by decide) fun r f hi i1 i2 => ?_
      simp
      refine pick_w (by simp) (by simp) fun r f d hd => ?_
      obtain ⟨w, rfl⟩ : ∃ w : Str, d = .str w := by
        simp at hd; rcases hd with rfl | rfl | rfl | rfl <;> exact ⟨_, rfl⟩
      simp
      refine ⟨by omega, ?_⟩
      rw [hJe]
      exact ⟨r, f, rl ++ [((m, lo, lo + hi), w)], some (.im, .int (k : Nat)), some (.im, .int m), some (.im, .int lo), by simp [hl], fun x hx => by
        rcases List.mem_append.1 hx with z | z
        · exact hr x z
        · simp at z; rw [z]; exact hm, by simp [rlD, tsD]⟩
    · intro ρ hI'
      rw [hJe] at hI'
      obtain ⟨r, f, rl, x5, x8, x9, hl, hr, rfl⟩ := hI'
      rw [rangeD_len] at hl
      have gr : RsOk rl := ⟨by omega, hr⟩
      simp
      refine values_w fun r f al gv => ?_
      simp
      refine cp_template gp gl _ _ _ fun s s' => ?_
      simp [sizeLine]
      refine told_w gp gl gr gv ?_
      simp
      refine due_w (.inl rfl) gp gl gr gv fun s2 => ?_
      simp
      refine sameP_w 9 _ plan_out _ _ fun s3 s4 => ?_
      simp [sizeLine]
      refine sameP_w 9 _ (plan_handed gp gl gv) _ _ fun s5 s6 => ?_
      simp
      rw [hJ0]
      exact ⟨a, r, f, some (.im, d), some (.im, psD ps), some (.im, .lst (rl.map rlD)), x5, some (.im, shD al), _, x8, x9, rfl⟩
  rintro _ ⟨a, r, f, x2, x3, x4, x5, x6, x7, x8, x9, rfl⟩
  simp
end Lk75
namespace Lk75
open PySem PySem.Spec PyProof.Rows L2 Den
theorem law_true (ns : List Int) (h : ns.length ≤ 63) (hb : ∀ z ∈ ns, Builtin.Int.intBits z ≤ 1048576) : ∃ m outs, d_law [(.im, .lst (ns.map .int))] = some (.ret (m, .bl true) outs) := by
  obtain ⟨a, os, e, m, rfl⟩ := of_wF (law_w ns)
  exact ⟨m, os, e⟩
end Lk75

set_option maxHeartbeats 4000000
namespace Lk75
open PySem PySem.Spec PyProof.Rows L2 Den
def spLaw (K : PySem.W.Frag) : Sp := fun vs H Q _ => ∃ (a : Addr) (ns : List Int), vs = [.ref a] ∧ SqL K H a (ns.map V.int) ∧ ns.length ≤ 63 ∧ (∀ z ∈ ns, Builtin.Int.intBits z ≤ 1048576) ∧ ∀ H', Q (.bl true) H'
theorem ok_all {P : Program} {w : World} {K : PySem.W.Frag} {mg : Str → Option Value} {base : Heap} (T : Txt P K mg) : FnOk P w K mg base (L2.CX P w) 12 T.a_law T.fd_law ["script"] (spLaw K) :=
  (ok_law T).imp fun vs H Q E h => by
    obtain ⟨a, ns, rfl, hS, hl, hb, q⟩ := h
    obtain ⟨m, outs, e⟩ := law_true ns hl hb
    refine ⟨[(.im, .lst (ns.map .int))], H, [], _, ⟨⟨.ref a, [], [], [], rfl, rfl, ⟨rfl, .lst hS (ints_all ns)⟩, rfl, rfl⟩, .refl, List.nodup_nil⟩, rfl, e, fun v H' R' F' Fv so hv _ _ => ?_⟩
    have := (hv.at so.sub).scal rfl
    rw [this]
    exact q H'
theorem all_mk {l : PySem.W.OpenLaw} {w : World} {K : PySem.W.Frag} {h : Heap} {mg : Str → Option Value} {fa : Addr} (X : K.In h) (G : h.Ns mainGlobals mg) (hfa : mg "law" = some (.ref fa))
    {f0 : Addr} {od0 an0 : Option Addr} {sl0 : Array (Option Value)} {oc0 kV0 dc0 pm0 cd0 ct0 : Value}
    {f1 : Addr} {od1 an1 : Option Addr} {sl1 : Array (Option Value)} {oc1 kV1 dc1 pm1 cd1 ct1 : Value}
    {f2 : Addr} {od2 an2 : Option Addr} {sl2 : Array (Option Value)} {oc2 kV2 dc2 pm2 cd2 ct2 : Value}
    {f3 : Addr} {od3 an3 : Option Addr} {sl3 : Array (Option Value)} {oc3 kV3 dc3 pm3 cd3 ct3 : Value}
    {f4 : Addr} {od4 an4 : Option Addr} {sl4 : Array (Option Value)} {oc4 kV4 dc4 pm4 cd4 ct4 : Value}
    {f5 : Addr} {od5 an5 : Option Addr} {sl5 : Array (Option Value)} {oc5 kV5 dc5 pm5 cd5 ct5 : Value}
    {f6 : Addr} {od6 an6 : Option Addr} {sl6 : Array (Option Value)} {oc6 kV6 dc6 pm6 cd6 ct6 : Value}
    {f7 : Addr} {od7 an7 : Option Addr} {sl7 : Array (Option Value)} {oc7 kV7 dc7 pm7 cd7 ct7 : Value}
    {f8 : Addr} {od8 an8 : Option Addr} {sl8 : Array (Option Value)} {oc8 kV8 dc8 pm8 cd8 ct8 : Value}
    {f9 : Addr} {od9 an9 : Option Addr} {sl9 : Array (Option Value)} {oc9 kV9 dc9 pm9 cd9 ct9 : Value}
    {f10 : Addr} {od10 an10 : Option Addr} {sl10 : Array (Option Value)} {oc10 kV10 dc10 pm10 cd10 ct10 : Value}
    {f11 : Addr} {od11 an11 : Option Addr} {sl11 : Array (Option Value)} {oc11 kV11 dc11 pm11 cd11 ct11 : Value}
    {f12 : Addr} {od12 an12 : Option Addr} {sl12 : Array (Option Value)} {oc12 kV12 dc12 pm12 cd12 ct12 : Value}
    {f13 : Addr} {od13 an13 : Option Addr} {sl13 : Array (Option Value)} {oc13 kV13 dc13 pm13 cd13 ct13 : Value}
    {f14 : Addr} {od14 an14 : Option Addr} {sl14 : Array (Option Value)} {oc14 kV14 dc14 pm14 cd14 ct14 : Value}
    {f15 : Addr} {od15 an15 : Option Addr} {sl15 : Array (Option Value)} {oc15 kV15 dc15 pm15 cd15 ct15 : Value}
    {f16 : Addr} {od16 an16 : Option Addr} {sl16 : Array (Option Value)} {oc16 kV16 dc16 pm16 cd16 ct16 : Value}
    {f17 : Addr} {od17 an17 : Option Addr} {sl17 : Array (Option Value)} {oc17 kV17 dc17 pm17 cd17 ct17 : Value}
    {f18 : Addr} {od18 an18 : Option Addr} {sl18 : Array (Option Value)} {oc18 kV18 dc18 pm18 cd18 ct18 : Value}
    {f19 : Addr} {od19 an19 : Option Addr} {sl19 : Array (Option Value)} {oc19 kV19 dc19 pm19 cd19 ct19 : Value}
    (a0 : PySem.W.nsIn K mainGlobals "_law_mixed" = some (some (.ref f0))) (l0 : K.lookup f0 = some ⟨oc0, od0, .func (PySem.W.fnOf "_law_mixed" "_law_mixed" (defArgs s__law_mixed) (defBody s__law_mixed) (defScope s__law_mixed) .none kV0 dc0 pm0 an0 cd0 ct0), sl0⟩) (c0 : PySem.W.codeIn K cd0 "_law_mixed" = true) (k0 : PySem.W.keepIn K (.ref f0) = true)
    (a1 : PySem.W.nsIn K mainGlobals "_law_rest" = some (some (.ref f1))) (l1 : K.lookup f1 = some ⟨oc1, od1, .func (PySem.W.fnOf "_law_rest" "_law_rest" (defArgs s__law_rest) (defBody s__law_rest) (defScope s__law_rest) .none kV1 dc1 pm1 an1 cd1 ct1), sl1⟩) (c1 : PySem.W.codeIn K cd1 "_law_rest" = true) (k1 : PySem.W.keepIn K (.ref f1) = true)
    (a2 : PySem.W.nsIn K mainGlobals "_law_pool" = some (some (.ref f2))) (l2 : K.lookup f2 = some ⟨oc2, od2, .func (PySem.W.fnOf "_law_pool" "_law_pool" (defArgs s__law_pool) (defBody s__law_pool) (defScope s__law_pool) .none kV2 dc2 pm2 an2 cd2 ct2), sl2⟩) (c2 : PySem.W.codeIn K cd2 "_law_pool" = true) (k2 : PySem.W.keepIn K (.ref f2) = true)
    (a3 : PySem.W.nsIn K mainGlobals "_law_next" = some (some (.ref f3))) (l3 : K.lookup f3 = some ⟨oc3, od3, .func (PySem.W.fnOf "_law_next" "_law_next" (defArgs s__law_next) (defBody s__law_next) (defScope s__law_next) .none kV3 dc3 pm3 an3 cd3 ct3), sl3⟩) (c3 : PySem.W.codeIn K cd3 "_law_next" = true) (k3 : PySem.W.keepIn K (.ref f3) = true)
    (a4 : PySem.W.nsIn K mainGlobals "_law_draw" = some (some (.ref f4))) (l4 : K.lookup f4 = some ⟨oc4, od4, .func (PySem.W.fnOf "_law_draw" "_law_draw" (defArgs s__law_draw) (defBody s__law_draw) (defScope s__law_draw) .none kV4 dc4 pm4 an4 cd4 ct4), sl4⟩) (c4 : PySem.W.codeIn K cd4 "_law_draw" = true) (k4 : PySem.W.keepIn K (.ref f4) = true)
    (a5 : PySem.W.nsIn K mainGlobals "_law_pick" = some (some (.ref f5))) (l5 : K.lookup f5 = some ⟨oc5, od5, .func (PySem.W.fnOf "_law_pick" "_law_pick" (defArgs s__law_pick) (defBody s__law_pick) (defScope s__law_pick) .none kV5 dc5 pm5 an5 cd5 ct5), sl5⟩) (c5 : PySem.W.codeIn K cd5 "_law_pick" = true) (k5 : PySem.W.keepIn K (.ref f5) = true)
    (a6 : PySem.W.nsIn K mainGlobals "_law_same" = some (some (.ref f6))) (l6 : K.lookup f6 = some ⟨oc6, od6, .func (PySem.W.fnOf "_law_same" "_law_same" (defArgs s__law_same) (defBody s__law_same) (defScope s__law_same) .none kV6 dc6 pm6 an6 cd6 ct6), sl6⟩) (c6 : PySem.W.codeIn K cd6 "_law_same" = true) (k6 : PySem.W.keepIn K (.ref f6) = true)
    (a7 : PySem.W.nsIn K mainGlobals "_law_copied" = some (some (.ref f7))) (l7 : K.lookup f7 = some ⟨oc7, od7, .func (PySem.W.fnOf "_law_copied" "_law_copied" (defArgs s__law_copied) (defBody s__law_copied) (defScope s__law_copied) .none kV7 dc7 pm7 an7 cd7 ct7), sl7⟩) (c7 : PySem.W.codeIn K cd7 "_law_copied" = true) (k7 : PySem.W.keepIn K (.ref f7) = true)
    (a8 : PySem.W.nsIn K mainGlobals "_law_phrase" = some (some (.ref f8))) (l8 : K.lookup f8 = some ⟨oc8, od8, .func (PySem.W.fnOf "_law_phrase" "_law_phrase" (defArgs s__law_phrase) (defBody s__law_phrase) (defScope s__law_phrase) .none kV8 dc8 pm8 an8 cd8 ct8), sl8⟩) (c8 : PySem.W.codeIn K cd8 "_law_phrase" = true) (k8 : PySem.W.keepIn K (.ref f8) = true)
    (a9 : PySem.W.nsIn K mainGlobals "_law_template_drawn" = some (some (.ref f9))) (l9 : K.lookup f9 = some ⟨oc9, od9, .func (PySem.W.fnOf "_law_template_drawn" "_law_template_drawn" (defArgs s__law_template_drawn) (defBody s__law_template_drawn) (defScope s__law_template_drawn) .none kV9 dc9 pm9 an9 cd9 ct9), sl9⟩) (c9 : PySem.W.codeIn K cd9 "_law_template_drawn" = true) (k9 : PySem.W.keepIn K (.ref f9) = true)
    (a10 : PySem.W.nsIn K mainGlobals "_law_values_drawn" = some (some (.ref f10))) (l10 : K.lookup f10 = some ⟨oc10, od10, .func (PySem.W.fnOf "_law_values_drawn" "_law_values_drawn" (defArgs s__law_values_drawn) (defBody s__law_values_drawn) (defScope s__law_values_drawn) .none kV10 dc10 pm10 an10 cd10 ct10), sl10⟩) (c10 : PySem.W.codeIn K cd10 "_law_values_drawn" = true) (k10 : PySem.W.keepIn K (.ref f10) = true)
    (a11 : PySem.W.nsIn K mainGlobals "_law_is_int" = some (some (.ref f11))) (l11 : K.lookup f11 = some ⟨oc11, od11, .func (PySem.W.fnOf "_law_is_int" "_law_is_int" (defArgs s__law_is_int) (defBody s__law_is_int) (defScope s__law_is_int) .none kV11 dc11 pm11 an11 cd11 ct11), sl11⟩) (c11 : PySem.W.codeIn K cd11 "_law_is_int" = true) (k11 : PySem.W.keepIn K (.ref f11) = true)
    (a12 : PySem.W.nsIn K mainGlobals "_law_class" = some (some (.ref f12))) (l12 : K.lookup f12 = some ⟨oc12, od12, .func (PySem.W.fnOf "_law_class" "_law_class" (defArgs s__law_class) (defBody s__law_class) (defScope s__law_class) .none kV12 dc12 pm12 an12 cd12 ct12), sl12⟩) (c12 : PySem.W.codeIn K cd12 "_law_class" = true) (k12 : PySem.W.keepIn K (.ref f12) = true)
    (a13 : PySem.W.nsIn K mainGlobals "_law_due" = some (some (.ref f13))) (l13 : K.lookup f13 = some ⟨oc13, od13, .func (PySem.W.fnOf "_law_due" "_law_due" (defArgs s__law_due) (defBody s__law_due) (defScope s__law_due) .none kV13 dc13 pm13 an13 cd13 ct13), sl13⟩) (c13 : PySem.W.codeIn K cd13 "_law_due" = true) (k13 : PySem.W.keepIn K (.ref f13) = true)
    (a14 : PySem.W.nsIn K mainGlobals "holds_for" = some (some (.ref f14))) (l14 : K.lookup f14 = some ⟨oc14, od14, .func (PySem.W.fnOf "holds_for" "holds_for" (defArgs s_holds_for) (defBody s_holds_for) (defScope s_holds_for) .none kV14 dc14 pm14 an14 cd14 ct14), sl14⟩) (c14 : PySem.W.codeIn K cd14 "holds_for" = true) (k14 : PySem.W.keepIn K (.ref f14) = true)
    (a15 : PySem.W.nsIn K mainGlobals "class_of" = some (some (.ref f15))) (l15 : K.lookup f15 = some ⟨oc15, od15, .func (PySem.W.fnOf "class_of" "class_of" (defArgs s_class_of) (defBody s_class_of) (defScope s_class_of) .none kV15 dc15 pm15 an15 cd15 ct15), sl15⟩) (c15 : PySem.W.codeIn K cd15 "class_of" = true) (k15 : PySem.W.keepIn K (.ref f15) = true)
    (a16 : PySem.W.nsIn K mainGlobals "is_number" = some (some (.ref f16))) (l16 : K.lookup f16 = some ⟨oc16, od16, .func (PySem.W.fnOf "is_number" "is_number" (defArgs s_is_number) (defBody s_is_number) (defScope s_is_number) .none kV16 dc16 pm16 an16 cd16 ct16), sl16⟩) (c16 : PySem.W.codeIn K cd16 "is_number" = true) (k16 : PySem.W.keepIn K (.ref f16) = true)
    (a17 : PySem.W.nsIn K mainGlobals "said" = some (some (.ref f17))) (l17 : K.lookup f17 = some ⟨oc17, od17, .func (PySem.W.fnOf "said" "said" (defArgs s_said) (defBody s_said) (defScope s_said) .none kV17 dc17 pm17 an17 cd17 ct17), sl17⟩) (c17 : PySem.W.codeIn K cd17 "said" = true) (k17 : PySem.W.keepIn K (.ref f17) = true)
    (a18 : PySem.W.nsIn K mainGlobals "_law_told" = some (some (.ref f18))) (l18 : K.lookup f18 = some ⟨oc18, od18, .func (PySem.W.fnOf "_law_told" "_law_told" (defArgs s__law_told) (defBody s__law_told) (defScope s__law_told) .none kV18 dc18 pm18 an18 cd18 ct18), sl18⟩) (c18 : PySem.W.codeIn K cd18 "_law_told" = true) (k18 : PySem.W.keepIn K (.ref f18) = true)
    (a19 : PySem.W.nsIn K mainGlobals "law" = some (some (.ref f19))) (l19 : K.lookup f19 = some ⟨oc19, od19, .func (PySem.W.fnOf "law" "law" (defArgs s_law) (defBody s_law) (defScope s_law) .none kV19 dc19 pm19 an19 cd19 ct19), sl19⟩) (c19 : PySem.W.codeIn K cd19 "law" = true) (k19 : PySem.W.keepIn K (.ref f19) = true)
    (z_all : PySem.W.nsIn K mainGlobals "all" = some none)
    (z_bool : PySem.W.nsIn K mainGlobals "bool" = some none)
    (z_dict : PySem.W.nsIn K mainGlobals "dict" = some none)
    (z_int : PySem.W.nsIn K mainGlobals "int" = some none)
    (z_isinstance : PySem.W.nsIn K mainGlobals "isinstance" = some none)
    (z_len : PySem.W.nsIn K mainGlobals "len" = some none)
    (z_list : PySem.W.nsIn K mainGlobals "list" = some none)
    (z_range : PySem.W.nsIn K mainGlobals "range" = some none)
    (z_str : PySem.W.nsIn K mainGlobals "str" = some none)
    (z_tuple : PySem.W.nsIn K mainGlobals "tuple" = some none)
    {t_OTHER : Tok} (c_OTHER : PySem.W.nsIn K mainGlobals "OTHER" = some (some (.str "other" t_OTHER)))
    {gc_NoNumber : Addr} (ag_NoNumber : PySem.W.nsIn K mainGlobals "NoNumber" = some (some (.ref gc_NoNumber)))
    {gc_NoValue : Addr} (ag_NoValue : PySem.W.nsIn K mainGlobals "NoValue" = some (some (.ref gc_NoValue)))
    (hb_NoNumber : PySem.W.subIn K (.ref gc_NoNumber) (.type "BaseException") = some true) (hi_NoNumber : PySem.W.isClsIn K gc_NoNumber = true) (ht_NoNumber : PySem.W.typeIn K (.ref gc_NoNumber) = some (.type "type"))
    (hb_NoValue : PySem.W.subIn K (.ref gc_NoValue) (.type "BaseException") = some true) (hi_NoValue : PySem.W.isClsIn K gc_NoValue = true) (ht_NoValue : PySem.W.typeIn K (.ref gc_NoValue) = some (.type "type"))
    (hp_NoNumber_NoNumber : PySem.W.subIn K (.ref gc_NoNumber) (.ref gc_NoNumber) = some true)
    (hp_NoNumber_NoValue : PySem.W.subIn K (.ref gc_NoNumber) (.ref gc_NoValue) = some false)
    (hp_NoValue_NoNumber : PySem.W.subIn K (.ref gc_NoValue) (.ref gc_NoNumber) = some false)
    (hp_NoValue_NoValue : PySem.W.subIn K (.ref gc_NoValue) (.ref gc_NoValue) = some true)
    (z_super : PySem.W.nsIn K mainGlobals "super" = some none) (thi : PySem.W.nsIn K cStatics "thirdparty.any" = some none) (top : (l.prog.main.scope.names.lookup ("super" : Str)).isSome = false)
    {nm_NoNumber q_NoNumber : Str} {N_NoNumber : Addr} {bs_NoNumber bm_NoNumber : List Value} {sn_NoNumber : List Str} {sub_NoNumber : List Value} {ab_NoNumber : Bool} {col_NoNumber : Option Bool} {dd_NoNumber : Option Addr} {k0_NoNumber k1_NoNumber k2_NoNumber k3_NoNumber k5_NoNumber : Option Value} {fI_NoNumber cc_NoNumber cda_NoNumber : Addr} {kV_NoNumber doc_NoNumber pm_NoNumber ct_NoNumber oc_NoNumber cl_NoNumber cv_NoNumber : Value} {an_NoNumber od_NoNumber cod_NoNumber ced_NoNumber : Option Addr} {osl_NoNumber col2_NoNumber cel_NoNumber : Array (Option Value)} {vs_NoNumber : Array Value} {file_NoNumber : Str} {tf_NoNumber : Tok}
    (xl_NoNumber : K.lookup gc_NoNumber = some (excClassObj nm_NoNumber q_NoNumber gc_NoNumber N_NoNumber bs_NoNumber bm_NoNumber true sn_NoNumber sub_NoNumber ab_NoNumber col_NoNumber dd_NoNumber k0_NoNumber k1_NoNumber k2_NoNumber k3_NoNumber k5_NoNumber "ValueError.__new__")) (xr_NoNumber : PySem.HandSPX.refsVE bm_NoNumber = true) (xsa_NoNumber : PySem.W.findIn K (.ref gc_NoNumber) "__setattr__" = some (some (.builtin "object.__setattr__")))
    (xga_NoNumber : PySem.W.findIn K (.ref gc_NoNumber) "__getattribute__" = some (some (.builtin "BaseException.__getattribute__"))) (xgg_NoNumber : PySem.W.findIn K (.ref gc_NoNumber) "__getattr__" = some none) (xb_NoNumber : PySem.W.subIn K (.ref gc_NoNumber) (.type "BaseException") = some true) (xt_NoNumber : PySem.W.typeIn K (.ref gc_NoNumber) = some (.type "type")) (xk_NoNumber : PySem.W.keepIn K (.ref gc_NoNumber) = true) (xh_NoNumber : PySem.W.hasDictIn K gc_NoNumber = true)
    (xi_NoNumber : PySem.W.findIn K (.ref gc_NoNumber) "__init__" = some (some (.ref fI_NoNumber))) (xit_NoNumber : PySem.W.typeIn K (.ref fI_NoNumber) = some (.type "function")) (xil_NoNumber : K.lookup fI_NoNumber = some ⟨oc_NoNumber, od_NoNumber, .func (PySem.W.ksFn "__init__" "NoNumber.__init__" (defArgs i_NoNumber) (defBody i_NoNumber) (defScope i_NoNumber) .none kV_NoNumber doc_NoNumber pm_NoNumber an_NoNumber (.ref cda_NoNumber) ct_NoNumber cc_NoNumber), osl_NoNumber⟩)
    (xcd_NoNumber : PySem.W.codeIn K (.ref cda_NoNumber) "NoNumber.__init__" = true) (xco_NoNumber : K.lookup cda_NoNumber = some ⟨cl_NoNumber, cod_NoNumber, .fields vs_NoNumber, col2_NoNumber⟩) (xcv_NoNumber : vs_NoNumber[2]? = some (.str file_NoNumber tf_NoNumber)) (xcf_NoNumber : ((l.prog.main.file : Str) == file_NoNumber) = true) (xce_NoNumber : K.lookup cc_NoNumber = some ⟨cv_NoNumber, ced_NoNumber, .cell (some (.ref gc_NoNumber)), cel_NoNumber⟩)
    (xow_NoNumber : PySem.W.mroIn K gc_NoNumber (.ref gc_NoNumber) = some true) (xsu_NoNumber : PySem.W.ks_superIn K gc_NoNumber gc_NoNumber "__init__" = some (some (.builtin "ValueError.__init__"))) (xve_NoNumber : PySem.W.subIn K (.ref gc_NoNumber) (.type "ValueError") = some true)
    (xn_NoNumber_slot : PySem.W.findIn K (.ref gc_NoNumber) "slot" = some none)
    {nm_NoValue q_NoValue : Str} {N_NoValue : Addr} {bs_NoValue bm_NoValue : List Value} {sn_NoValue : List Str} {sub_NoValue : List Value} {ab_NoValue : Bool} {col_NoValue : Option Bool} {dd_NoValue : Option Addr} {k0_NoValue k1_NoValue k2_NoValue k3_NoValue k5_NoValue : Option Value} {fI_NoValue cc_NoValue cda_NoValue : Addr} {kV_NoValue doc_NoValue pm_NoValue ct_NoValue oc_NoValue cl_NoValue cv_NoValue : Value} {an_NoValue od_NoValue cod_NoValue ced_NoValue : Option Addr} {osl_NoValue col2_NoValue cel_NoValue : Array (Option Value)} {vs_NoValue : Array Value} {file_NoValue : Str} {tf_NoValue : Tok}
    (xl_NoValue : K.lookup gc_NoValue = some (excClassObj nm_NoValue q_NoValue gc_NoValue N_NoValue bs_NoValue bm_NoValue true sn_NoValue sub_NoValue ab_NoValue col_NoValue dd_NoValue k0_NoValue k1_NoValue k2_NoValue k3_NoValue k5_NoValue "ValueError.__new__")) (xr_NoValue : PySem.HandSPX.refsVE bm_NoValue = true) (xsa_NoValue : PySem.W.findIn K (.ref gc_NoValue) "__setattr__" = some (some (.builtin "object.__setattr__")))
    (xga_NoValue : PySem.W.findIn K (.ref gc_NoValue) "__getattribute__" = some (some (.builtin "BaseException.__getattribute__"))) (xgg_NoValue : PySem.W.findIn K (.ref gc_NoValue) "__getattr__" = some none) (xb_NoValue : PySem.W.subIn K (.ref gc_NoValue) (.type "BaseException") = some true) (xt_NoValue : PySem.W.typeIn K (.ref gc_NoValue) = some (.type "type")) (xk_NoValue : PySem.W.keepIn K (.ref gc_NoValue) = true) (xh_NoValue : PySem.W.hasDictIn K gc_NoValue = true)
    (xi_NoValue : PySem.W.findIn K (.ref gc_NoValue) "__init__" = some (some (.ref fI_NoValue))) (xit_NoValue : PySem.W.typeIn K (.ref fI_NoValue) = some (.type "function")) (xil_NoValue : K.lookup fI_NoValue = some ⟨oc_NoValue, od_NoValue, .func (PySem.W.ksFn "__init__" "NoValue.__init__" (defArgs i_NoValue) (defBody i_NoValue) (defScope i_NoValue) .none kV_NoValue doc_NoValue pm_NoValue an_NoValue (.ref cda_NoValue) ct_NoValue cc_NoValue), osl_NoValue⟩)
    (xcd_NoValue : PySem.W.codeIn K (.ref cda_NoValue) "NoValue.__init__" = true) (xco_NoValue : K.lookup cda_NoValue = some ⟨cl_NoValue, cod_NoValue, .fields vs_NoValue, col2_NoValue⟩) (xcv_NoValue : vs_NoValue[2]? = some (.str file_NoValue tf_NoValue)) (xcf_NoValue : ((l.prog.main.file : Str) == file_NoValue) = true) (xce_NoValue : K.lookup cc_NoValue = some ⟨cv_NoValue, ced_NoValue, .cell (some (.ref gc_NoValue)), cel_NoValue⟩)
    (xow_NoValue : PySem.W.mroIn K gc_NoValue (.ref gc_NoValue) = some true) (xsu_NoValue : PySem.W.ks_superIn K gc_NoValue gc_NoValue "__init__" = some (some (.builtin "ValueError.__init__"))) (xve_NoValue : PySem.W.subIn K (.ref gc_NoValue) (.type "ValueError") = some true)
    (xn_NoValue_slot : PySem.W.findIn K (.ref gc_NoValue) "slot" = some none)
    : ∃ fd : FuncData, (∀ (s : Shared) (v : Value), BindsTo s fd ⟨[v], []⟩ [("script", v)]) ∧ ∀ base : Heap, K.In base → base.Ns mainGlobals mg → FnOk l.prog w K mg base (L2.CX l.prog w) 12 fa fd ["script"] (spLaw K) := by
  have hfe : f19 = fa := by
    have e := hfa.symm.trans (PySem.W.mg_of X G a19)
    cases e; rfl
  have T : ∃ T : Txt l.prog K mg, T.a_law = fa ∧ ∀ (s : Shared) (v : Value), BindsTo s T.fd_law ⟨[v], []⟩ [("script", v)] := by
    refine ⟨{
      a__law_mixed := f0
      fd__law_mixed := _
      F__law_mixed := fun_mk (st := s__law_mixed) l0 c0 k0
      m__law_mixed := PySem.W.mg_of X G a0
      b__law_mixed := L2.Fun.binds (fun_mk (st := s__law_mixed) l0 c0 k0) (ps := ["number", "place"]) fun _ _ _ _ _ _ us hl => match us, hl with | [_, _], _ => rfl
      a__law_rest := f1
      fd__law_rest := _
      F__law_rest := fun_mk (st := s__law_rest) l1 c1 k1
      m__law_rest := PySem.W.mg_of X G a1
      b__law_rest := L2.Fun.binds (fun_mk (st := s__law_rest) l1 c1 k1) (ps := ["script", "place", "fills"]) fun _ _ _ _ _ _ us hl => match us, hl with | [_, _, _], _ => rfl
      a__law_pool := f2
      fd__law_pool := _
      F__law_pool := fun_mk (st := s__law_pool) l2 c2 k2
      m__law_pool := PySem.W.mg_of X G a2
      b__law_pool := L2.Fun.binds (fun_mk (st := s__law_pool) l2 c2 k2) (ps := ["script"]) fun _ _ _ _ _ _ us hl => match us, hl with | [_], _ => rfl
      a__law_next := f3
      fd__law_next := _
      F__law_next := fun_mk (st := s__law_next) l3 c3 k3
      m__law_next := PySem.W.mg_of X G a3
      b__law_next := L2.Fun.binds (fun_mk (st := s__law_next) l3 c3 k3) (ps := ["pool"]) fun _ _ _ _ _ _ us hl => match us, hl with | [_], _ => rfl
      a__law_draw := f4
      fd__law_draw := _
      F__law_draw := fun_mk (st := s__law_draw) l4 c4 k4
      m__law_draw := PySem.W.mg_of X G a4
      b__law_draw := L2.Fun.binds (fun_mk (st := s__law_draw) l4 c4 k4) (ps := ["pool", "limit"]) fun _ _ _ _ _ _ us hl => match us, hl with | [_, _], _ => rfl
      a__law_pick := f5
      fd__law_pick := _
      F__law_pick := fun_mk (st := s__law_pick) l5 c5 k5
      m__law_pick := PySem.W.mg_of X G a5
      b__law_pick := L2.Fun.binds (fun_mk (st := s__law_pick) l5 c5 k5) (ps := ["pool", "options"]) fun _ _ _ _ _ _ us hl => match us, hl with | [_, _], _ => rfl
      a__law_same := f6
      fd__law_same := _
      F__law_same := fun_mk (st := s__law_same) l6 c6 k6
      m__law_same := PySem.W.mg_of X G a6
      b__law_same := L2.Fun.binds (fun_mk (st := s__law_same) l6 c6 k6) (ps := ["answer", "due"]) fun _ _ _ _ _ _ us hl => match us, hl with | [_, _], _ => rfl
      a__law_copied := f7
      fd__law_copied := _
      F__law_copied := fun_mk (st := s__law_copied) l7 c7 k7
      m__law_copied := PySem.W.mg_of X G a7
      b__law_copied := L2.Fun.binds (fun_mk (st := s__law_copied) l7 c7 k7) (ps := ["value"]) fun _ _ _ _ _ _ us hl => match us, hl with | [_], _ => rfl
      a__law_phrase := f8
      fd__law_phrase := _
      F__law_phrase := fun_mk (st := s__law_phrase) l8 c8 k8
      m__law_phrase := PySem.W.mg_of X G a8
      b__law_phrase := L2.Fun.binds (fun_mk (st := s__law_phrase) l8 c8 k8) (ps := ["pool"]) fun _ _ _ _ _ _ us hl => match us, hl with | [_], _ => rfl
      a__law_template_drawn := f9
      fd__law_template_drawn := _
      F__law_template_drawn := fun_mk (st := s__law_template_drawn) l9 c9 k9
      m__law_template_drawn := PySem.W.mg_of X G a9
      b__law_template_drawn := L2.Fun.binds (fun_mk (st := s__law_template_drawn) l9 c9 k9) (ps := ["pool"]) fun _ _ _ _ _ _ us hl => match us, hl with | [_], _ => rfl
      a__law_values_drawn := f10
      fd__law_values_drawn := _
      F__law_values_drawn := fun_mk (st := s__law_values_drawn) l10 c10 k10
      m__law_values_drawn := PySem.W.mg_of X G a10
      b__law_values_drawn := L2.Fun.binds (fun_mk (st := s__law_values_drawn) l10 c10 k10) (ps := ["pool"]) fun _ _ _ _ _ _ us hl => match us, hl with | [_], _ => rfl
      a__law_is_int := f11
      fd__law_is_int := _
      F__law_is_int := fun_mk (st := s__law_is_int) l11 c11 k11
      m__law_is_int := PySem.W.mg_of X G a11
      b__law_is_int := L2.Fun.binds (fun_mk (st := s__law_is_int) l11 c11 k11) (ps := ["value"]) fun _ _ _ _ _ _ us hl => match us, hl with | [_], _ => rfl
      a__law_class := f12
      fd__law_class := _
      F__law_class := fun_mk (st := s__law_class) l12 c12 k12
      m__law_class := PySem.W.mg_of X G a12
      b__law_class := L2.Fun.binds (fun_mk (st := s__law_class) l12 c12 k12) (ps := ["rules", "number"]) fun _ _ _ _ _ _ us hl => match us, hl with | [_, _], _ => rfl
      a__law_due := f13
      fd__law_due := _
      F__law_due := fun_mk (st := s__law_due) l13 c13 k13
      m__law_due := PySem.W.mg_of X G a13
      b__law_due := L2.Fun.binds (fun_mk (st := s__law_due) l13 c13 k13) (ps := ["template", "rules", "values"]) fun _ _ _ _ _ _ us hl => match us, hl with | [_, _, _], _ => rfl
      a_holds_for := f14
      fd_holds_for := _
      F_holds_for := fun_mk (st := s_holds_for) l14 c14 k14
      m_holds_for := PySem.W.mg_of X G a14
      b_holds_for := L2.Fun.binds (fun_mk (st := s_holds_for) l14 c14 k14) (ps := ["test", "number"]) fun _ _ _ _ _ _ us hl => match us, hl with | [_, _], _ => rfl
      a_class_of := f15
      fd_class_of := _
      F_class_of := fun_mk (st := s_class_of) l15 c15 k15
      m_class_of := PySem.W.mg_of X G a15
      b_class_of := L2.Fun.binds (fun_mk (st := s_class_of) l15 c15 k15) (ps := ["rules", "number"]) fun _ _ _ _ _ _ us hl => match us, hl with | [_, _], _ => rfl
      a_is_number := f16
      fd_is_number := _
      F_is_number := fun_mk (st := s_is_number) l16 c16 k16
      m_is_number := PySem.W.mg_of X G a16
      b_is_number := L2.Fun.binds (fun_mk (st := s_is_number) l16 c16 k16) (ps := ["value"]) fun _ _ _ _ _ _ us hl => match us, hl with | [_], _ => rfl
      a_said := f17
      fd_said := _
      F_said := fun_mk (st := s_said) l17 c17 k17
      m_said := PySem.W.mg_of X G a17
      b_said := L2.Fun.binds (fun_mk (st := s_said) l17 c17 k17) (ps := ["template", "rules", "values"]) fun _ _ _ _ _ _ us hl => match us, hl with | [_, _, _], _ => rfl
      a__law_told := f18
      fd__law_told := _
      F__law_told := fun_mk (st := s__law_told) l18 c18 k18
      m__law_told := PySem.W.mg_of X G a18
      b__law_told := L2.Fun.binds (fun_mk (st := s__law_told) l18 c18 k18) (ps := ["template", "rules", "values"]) fun _ _ _ _ _ _ us hl => match us, hl with | [_, _, _], _ => rfl
      a_law := f19
      fd_law := _
      F_law := fun_mk (st := s_law) l19 c19 k19
      m_law := PySem.W.mg_of X G a19
      b_law := L2.Fun.binds (fun_mk (st := s_law) l19 c19 k19) (ps := ["script"]) fun _ _ _ _ _ _ us hl => match us, hl with | [_], _ => rfl
      z_all := PySem.W.mg_none_of X G z_all
      z_bool := PySem.W.mg_none_of X G z_bool
      z_dict := PySem.W.mg_none_of X G z_dict
      z_int := PySem.W.mg_none_of X G z_int
      z_isinstance := PySem.W.mg_none_of X G z_isinstance
      z_len := PySem.W.mg_none_of X G z_len
      z_list := PySem.W.mg_none_of X G z_list
      z_range := PySem.W.mg_none_of X G z_range
      z_str := PySem.W.mg_none_of X G z_str
      z_tuple := PySem.W.mg_none_of X G z_tuple
      t_OTHER := t_OTHER
      c_OTHER := PySem.W.mg_of X G c_OTHER
      ac_NoNumber := gc_NoNumber
      m_NoNumber := PySem.W.mg_of X G ag_NoNumber
      ac_NoValue := gc_NoValue
      m_NoValue := PySem.W.mg_of X G ag_NoValue
      x_NoNumber := xc1 (st := i_NoNumber) (PySem.W.mg_of X G ag_NoNumber) ⟨⟨_, _, _, _, _, _, _, _, _, _, _, _, _, _, _, xl_NoNumber, xr_NoNumber⟩, xsa_NoNumber, xb_NoNumber, xt_NoNumber, xk_NoNumber⟩ ⟨xga_NoNumber, xgg_NoNumber, xb_NoNumber, xh_NoNumber⟩ xi_NoNumber xit_NoNumber xn_NoNumber_slot xil_NoNumber ⟨xcd_NoNumber, ⟨_, _, _, _, _, _, xco_NoNumber, xcv_NoNumber, xcf_NoNumber⟩, ⟨_, _, _, xce_NoNumber⟩, xow_NoNumber, xsu_NoNumber, thi, xve_NoNumber, top⟩ (PySem.W.mg_none_of X G z_super) rfl rfl rfl (by decide +kernel) rfl (.all fun us hl => match us, hl with | [_, _], _ => rfl) (by decide) (by decide) (fun _ => ⟨_, rfl⟩)
      x_NoValue := xc1 (st := i_NoValue) (PySem.W.mg_of X G ag_NoValue) ⟨⟨_, _, _, _, _, _, _, _, _, _, _, _, _, _, _, xl_NoValue, xr_NoValue⟩, xsa_NoValue, xb_NoValue, xt_NoValue, xk_NoValue⟩ ⟨xga_NoValue, xgg_NoValue, xb_NoValue, xh_NoValue⟩ xi_NoValue xit_NoValue xn_NoValue_slot xil_NoValue ⟨xcd_NoValue, ⟨_, _, _, _, _, _, xco_NoValue, xcv_NoValue, xcf_NoValue⟩, ⟨_, _, _, xce_NoValue⟩, xow_NoValue, xsu_NoValue, thi, xve_NoValue, top⟩ (PySem.W.mg_none_of X G z_super) rfl rfl rfl (by decide +kernel) rfl (.all fun us hl => match us, hl with | [_, _], _ => rfl) (by decide) (by decide) (fun _ => ⟨_, rfl⟩)
      e_NoNumber_NoNumber := exm_of hb_NoNumber hi_NoNumber ht_NoNumber hp_NoNumber_NoNumber
      e_NoNumber_NoValue := exm_of hb_NoValue hi_NoValue ht_NoValue hp_NoNumber_NoValue
      e_NoValue_NoNumber := exm_of hb_NoNumber hi_NoNumber ht_NoNumber hp_NoValue_NoNumber
      e_NoValue_NoValue := exm_of hb_NoValue hi_NoValue ht_NoValue hp_NoValue_NoValue
    }, hfe, fun s v => .of_eq rfl⟩
  obtain ⟨T, rfl, hb⟩ := T
  exact ⟨T.fd_law, hb, fun base _ _ => ok_all T⟩
end Lk75
open PySem PySem.W PyProof.Rows
set_option maxHeartbeats 0 in
theorem PySem.Challenge.cw_whyform_k75_templates_said_holds : PySem.Challenge.rw_whyform_k75_templates_said.Holds := by
  w_on; o_law; k_head; (case hw => w_witness2)
  k_fill
  refine L2.walk_ofB (l := PySem.Challenge.rw_whyform_k75_templates_said) (n := 63) (k := 12) (x := "script") (CX := fun w => L2.CX (PySem.Challenge.rw_whyform_k75_templates_said).prog w) (sp := fun w => Lk75.spLaw _) rfl (by decide) rfl ⟨rfl, by decide, by decide⟩ (fun w h Y => PySem.W.kIn_of Y) ?F (fun _ _ a ns hl hb _ hS => ⟨a, ns, rfl, hS, hl, hb, fun _ => rfl⟩) (fun _ _ _ _ _ h => Den.cx_false h)
  case F =>
    intro w mg fa h KX G hmg
    refine' Lk75.all_mk KX G hmg ?a0 ?l0 ?c0 ?k0 ?a1 ?l1 ?c1 ?k1 ?a2 ?l2 ?c2 ?k2 ?a3 ?l3 ?c3 ?k3 ?a4 ?l4 ?c4 ?k4 ?a5 ?l5 ?c5 ?k5 ?a6 ?l6 ?c6 ?k6 ?a7 ?l7 ?c7 ?k7 ?a8 ?l8 ?c8 ?k8 ?a9 ?l9 ?c9 ?k9 ?a10 ?l10 ?c10 ?k10 ?a11 ?l11 ?c11 ?k11 ?a12 ?l12 ?c12 ?k12 ?a13 ?l13 ?c13 ?k13 ?a14 ?l14 ?c14 ?k14 ?a15 ?l15 ?c15 ?k15 ?a16 ?l16 ?c16 ?k16 ?a17 ?l17 ?c17 ?k17 ?a18 ?l18 ?c18 ?k18 ?a19 ?l19 ?c19 ?k19 ?z_all ?z_bool ?z_dict ?z_int ?z_isinstance ?z_len ?z_list ?z_range ?z_str ?z_tuple ?c_OTHER ?ag_NoNumber ?ag_NoValue ?hb_NoNumber ?hi_NoNumber ?ht_NoNumber ?hb_NoValue ?hi_NoValue ?ht_NoValue ?hp_NoNumber_NoNumber ?hp_NoNumber_NoValue ?hp_NoValue_NoNumber ?hp_NoValue_NoValue ?z_super ?thi ?top ?xl_NoNumber ?xr_NoNumber ?xsa_NoNumber ?xga_NoNumber ?xgg_NoNumber ?xb_NoNumber ?xt_NoNumber ?xk_NoNumber ?xh_NoNumber ?xi_NoNumber ?xit_NoNumber ?xil_NoNumber ?xcd_NoNumber ?xco_NoNumber ?xcv_NoNumber ?xcf_NoNumber ?xce_NoNumber ?xow_NoNumber ?xsu_NoNumber ?xve_NoNumber ?xn_NoNumber_slot ?xl_NoValue ?xr_NoValue ?xsa_NoValue ?xga_NoValue ?xgg_NoValue ?xb_NoValue ?xt_NoValue ?xk_NoValue ?xh_NoValue ?xi_NoValue ?xit_NoValue ?xil_NoValue ?xcd_NoValue ?xco_NoValue ?xcv_NoValue ?xcf_NoValue ?xce_NoValue ?xow_NoValue ?xsu_NoValue ?xve_NoValue ?xn_NoValue_slot
    (case a0 => k_is); (case l0 => k_is); (case c0 => k_is); (case k0 => k_is); (case a1 => k_is); (case l1 => k_is); (case c1 => k_is); (case k1 => k_is); (case a2 => k_is); (case l2 => k_is); (case c2 => k_is); (case k2 => k_is); (case a3 => k_is); (case l3 => k_is); (case c3 => k_is); (case k3 => k_is); (case a4 => k_is); (case l4 => k_is); (case c4 => k_is); (case k4 => k_is); (case a5 => k_is); (case l5 => k_is); (case c5 => k_is); (case k5 => k_is); (case a6 => k_is); (case l6 => k_is); (case c6 => k_is); (case k6 => k_is); (case a7 => k_is); (case l7 => k_is); (case c7 => k_is); (case k7 => k_is); (case a8 => k_is); (case l8 => k_is); (case c8 => k_is); (case k8 => k_is); (case a9 => k_is); (case l9 => k_is); (case c9 => k_is); (case k9 => k_is); (case a10 => k_is); (case l10 => k_is); (case c10 => k_is); (case k10 => k_is); (case a11 => k_is); (case l11 => k_is); (case c11 => k_is); (case k11 => k_is); (case a12 => k_is); (case l12 => k_is); (case c12 => k_is); (case k12 => k_is); (case a13 => k_is); (case l13 => k_is); (case c13 => k_is); (case k13 => k_is); (case a14 => k_is); (case l14 => k_is); (case c14 => k_is); (case k14 => k_is); (case a15 => k_is); (case l15 => k_is); (case c15 => k_is); (case k15 => k_is); (case a16 => k_is); (case l16 => k_is); (case c16 => k_is); (case k16 => k_is); (case a17 => k_is); (case l17 => k_is); (case c17 => k_is); (case k17 => k_is); (case a18 => k_is); (case l18 => k_is); (case c18 => k_is); (case k18 => k_is); (case a19 => k_is); (case l19 => k_is); (case c19 => k_is); (case k19 => k_is); (case z_all => k_is); (case z_bool => k_is); (case z_dict => k_is); (case z_int => k_is); (case z_isinstance => k_is); (case z_len => k_is); (case z_list => k_is); (case z_range => k_is); (case z_str => k_is); (case z_tuple => k_is); (case c_OTHER => k_is); (case ag_NoNumber => k_is); (case ag_NoValue => k_is); (case hb_NoNumber => k_is); (case hi_NoNumber => k_is); (case ht_NoNumber => k_is); (case hb_NoValue => k_is); (case hi_NoValue => k_is); (case ht_NoValue => k_is); (case hp_NoNumber_NoNumber => first | k_is | rfl | kernel_rfl); (case hp_NoNumber_NoValue => first | k_is | rfl | kernel_rfl); (case hp_NoValue_NoNumber => first | k_is | rfl | kernel_rfl); (case hp_NoValue_NoValue => first | k_is | rfl | kernel_rfl); (case z_super => k_is); (case thi => k_is); (case top => first | rfl | decide +kernel); (case xl_NoNumber => k_is); (case xr_NoNumber => first | rfl | kernel_rfl | decide +kernel); (case xsa_NoNumber => k_is); (case xga_NoNumber => k_is); (case xgg_NoNumber => k_is); (case xb_NoNumber => k_is); (case xt_NoNumber => k_is); (case xk_NoNumber => k_is); (case xh_NoNumber => k_is); (case xi_NoNumber => k_is); (case xit_NoNumber => k_is); (case xil_NoNumber => k_is); (case xcd_NoNumber => k_is); (case xco_NoNumber => k_is); (case xcv_NoNumber => rfl); (case xcf_NoNumber => first | rfl | decide +kernel); (case xce_NoNumber => k_is); (case xow_NoNumber => k_is); (case xsu_NoNumber => first | k_is | kernel_rfl | rfl); (case xve_NoNumber => k_is); (case xn_NoNumber_slot => k_is); (case xl_NoValue => k_is); (case xr_NoValue => first | rfl | kernel_rfl | decide +kernel); (case xsa_NoValue => k_is); (case xga_NoValue => k_is); (case xgg_NoValue => k_is); (case xb_NoValue => k_is); (case xt_NoValue => k_is); (case xk_NoValue => k_is); (case xh_NoValue => k_is); (case xi_NoValue => k_is); (case xit_NoValue => k_is); (case xil_NoValue => k_is); (case xcd_NoValue => k_is); (case xco_NoValue => k_is); (case xcv_NoValue => rfl); (case xcf_NoValue => first | rfl | decide +kernel); (case xce_NoValue => k_is); (case xow_NoValue => k_is); (case xsu_NoValue => first | k_is | kernel_rfl | rfl); (case xve_NoValue => k_is); (case xn_NoValue_slot => k_is)

