import PyProof.Rows.All
import Wide.All
import OpenK.AllK
import Wide.FinOn
import HandS.ForMost
import HandS.Conv
import HandS.Defaults
import HandS.IsInst
import HandS.Deep
import HandS.TupAny
import HandS.TupLe
import HandS.RaiseMore
import HandS.Style
import PyProof.ReprRoads
import PyProof.P3In
import HandS.More
import HandS.Text
import HandS.HeadHook1
import HandS.HeadHook2
import HandS.HeadHook3
import HandS.Codes
import PyProof.ReprLen
import PyProof.Rows.RegFStrParts
import KE.KStateDown
import Lean
import HandS.Exc
import HandS.Head0
import HandS.Head1
import HandS.Head2
import HandS.HeadEnd
import HandS.HeadHook4
import PySem.Challenge.RW_almsrow_k82_deeds_as_texts
set_option Elab.async false
set_option linter.all false
set_option maxRecDepth 100000
set_option maxHeartbeats 1000000
/-! PdCore: the data layer over HandS: values as data (D), an abstract heap of lists (AH), judgements by data -/
namespace PD
open PySem PySem.Spec PyProof.Rows L2

/-! ### data -/
inductive D where
  | non | bl (b : Bool) | int (i : Int) | str (x : Str) | tup (xs : List D) | ref (a : Addr) | kls (xs : List D)

/-- what stands at a tracked address, by data -/
inductive AO where
  | lst (ds : List D)
  | rls (ds : List D)
  | dic (kvs : List (Key × D))
  | dit (kvs : List (List Key × D))
  | ins (C : Addr) (fs : List (Str × D))
abbrev AH := Addr → Option AO
def AH.upd (A : AH) (a : Addr) (o : AO) : AH := fun b => if b = a then some o else A b
theorem AH.upd_same {A : AH} {a : Addr} {o : AO} : A.upd a o a = some o := if_pos rfl
theorem AH.upd_ne {A : AH} {a b : Addr} {o : AO} (h : b ≠ a) : A.upd a o b = A b := if_neg h
theorem AH.ne {A : AH} {a b : Addr} {o : AO} (h : A a = some o) (h' : A b = none) : a ≠ b := fun e => by
  rw [e, h'] at h
  cases h

/-- a list of the written part -/
def KLs (K : PySem.W.Frag) (p : Addr) (vs : List V) : Prop := SqL K (fun _ => none) p vs
theorem KLs.sq {K : PySem.W.Frag} {p : Addr} {vs : List V} (h : KLs K p vs) (H : Hp) : SqL K H p vs := by
  rcases h with (h | ⟨u, h⟩) | h
  · cases h
  · cases h
  · exact .inr h
section
variable (K : PySem.W.Frag) (H : Hp)
mutual
def Rep : D → V → Prop
  | .non, v => v = .non
  | .bl b, v => v = .bl b
  | .int i, v => v = .int i
  | .str x, v => v = .str x
  | .ref a, v => v = .ref a
  | .tup ds, v => ∃ p vs, v = .ref p ∧ SqT K H p vs ∧ RepL ds vs
  | .kls ds, v => ∃ p vs, v = .ref p ∧ KLs K p vs ∧ RepL ds vs
def RepL : List D → List V → Prop
  | [], vs => vs = []
  | d :: ds, vs => ∃ v r, vs = v :: r ∧ Rep d v ∧ RepL ds r
end
def RepF : List (Str × D) → List (Str × V) → Prop
  | [], vs => vs = []
  | d :: ds, vs => ∃ v r, vs = (d.1, v) :: r ∧ Rep K H d.2 v ∧ RepF ds r
def RepK {κ : Type} : List (κ × D) → List (κ × V) → Prop
  | [], vs => vs = []
  | d :: ds, vs => ∃ v r, vs = (d.1, v) :: r ∧ Rep K H d.2 v ∧ RepK ds r
def ORel (a : Addr) : AO → Prop
  | .lst ds => ∃ vs, H a = some (.lst vs) ∧ RepL K H ds vs
  | .rls ds => ∃ o vs, H a = some (.frz o (.lst vs)) ∧ RepL K H ds vs
  | .dic kvs => ∃ vs, H a = some (.dK vs) ∧ RepK K H kvs vs
  | .dit kvs => ∃ vs, H a = some (.dT vs) ∧ RepK K H kvs vs
  | .ins C fs => ∃ dx vs, H a = some (.ins C dx vs) ∧ RepF K H fs vs
def ARel (A : AH) : Prop := ∀ a o, A a = some o → ORel K H a o
end

abbrev DSt := List (Option D)
structure SRel (K : PySem.W.Frag) (σ : L2.St) (H : Hp) (ds : DSt) (A : AH) : Prop where
  len : ds.length = σ.length
  var : ∀ (i : Nat) (d : D), ds[i]? = some (some d) → ∃ v : V, σ[i]? = some (some v) ∧ Rep K H d v
  obj : ARel K H A

/-! ### the heap grows, tuples stay -/
def TExt (H H' : Hp) : Prop := ∀ a xs, Rd H a (.tup xs) → Rd H' a (.tup xs)
theorem TExt.refl {H : Hp} : TExt H H := fun _ _ h => h
theorem TExt.trans {H H1 H2 : Hp} (a : TExt H H1) (b : TExt H1 H2) : TExt H H2 := fun x xs h => b x xs (a x xs h)
theorem TExt.new {H : Hp} {p : Addr} {o : HO} (h : H p = none) : TExt H (L2.upd H p o) := fun a xs r => by
  rcases r with r | ⟨u, r⟩
  · exact .inl (by rw [L2.upd_ne (ne_of_none r h)]; exact r)
  · exact .inr ⟨u, by rw [L2.upd_ne (ne_of_none r h)]; exact r⟩
/-- a changed object that is no tuple -/
theorem TExt.mut {H : Hp} {p : Addr} {o u : HO} (h : H p = some u) (n1 : ∀ xs, u ≠ .tup xs) (n2 : ∀ q xs, u ≠ .frz q (.tup xs)) : TExt H (L2.upd H p o) := fun a xs r => by
  rcases r with r | ⟨w, r⟩
  · exact .inl (by rw [L2.upd_ne (ne_of r h fun e => n1 xs e.symm)]; exact r)
  · exact .inr ⟨w, by rw [L2.upd_ne (ne_of r h fun e => n2 w xs e.symm)]; exact r⟩
theorem TExt.sqt {K : PySem.W.Frag} {H H' : Hp} (e : TExt H H') {a : Addr} {xs : List V} (h : SqT K H a xs) : SqT K H' a xs := by
  rcases h with h | h
  · exact .inl (e a xs h)
  · exact .inr h
section
variable {K : PySem.W.Frag} {H H' : Hp}
mutual
theorem Rep.mono (e : TExt H H') : ∀ (d : D) (v : V), Rep K H d v → Rep K H' d v
  | .non, _, h => h
  | .bl _, _, h => h
  | .int _, _, h => h
  | .str _, _, h => h
  | .ref _, _, h => h
  | .tup ds, _, ⟨p, vs, h1, h2, h3⟩ => ⟨p, vs, h1, e.sqt h2, RepL.mono e ds vs h3⟩
  | .kls ds, _, ⟨p, vs, h1, h2, h3⟩ => ⟨p, vs, h1, h2, RepL.mono e ds vs h3⟩
theorem RepL.mono (e : TExt H H') : ∀ (ds : List D) (vs : List V), RepL K H ds vs → RepL K H' ds vs
  | [], _, h => h
  | d :: ds, _, ⟨v, r, h1, h2, h3⟩ => ⟨v, r, h1, Rep.mono e d v h2, RepL.mono e ds r h3⟩
end
theorem RepF.mono (e : TExt H H') : ∀ {ds : List (Str × D)} {vs : List (Str × V)}, RepF K H ds vs → RepF K H' ds vs
  | [], _, h => h
  | _ :: _, _, ⟨v, r, h1, h2, h3⟩ => ⟨v, r, h1, Rep.mono e _ v h2, RepF.mono e h3⟩
theorem RepK.mono {κ : Type} (e : TExt H H') : ∀ {ds : List (κ × D)} {vs : List (κ × V)}, RepK K H ds vs → RepK K H' ds vs
  | [], _, h => h
  | _ :: _, _, ⟨v, r, h1, h2, h3⟩ => ⟨v, r, h1, Rep.mono e _ v h2, RepK.mono e h3⟩
theorem ORel.mono (e : TExt H H') {a : Addr} (k : H' a = H a) : ∀ {o : AO}, ORel K H a o → ORel K H' a o
  | .lst _, ⟨vs, h1, h2⟩ => ⟨vs, k.trans h1, RepL.mono e _ _ h2⟩
  | .rls _, ⟨o, vs, h1, h2⟩ => ⟨o, vs, k.trans h1, RepL.mono e _ _ h2⟩
  | .dic _, ⟨vs, h1, h2⟩ => ⟨vs, k.trans h1, RepK.mono e h2⟩
  | .dit _, ⟨vs, h1, h2⟩ => ⟨vs, k.trans h1, RepK.mono e h2⟩
  | .ins _ _, ⟨dx, vs, h1, h2⟩ => ⟨dx, vs, k.trans h1, RepF.mono e h2⟩
theorem ORel.there {a : Addr} : ∀ {o : AO}, ORel K H a o → H a ≠ none
  | .lst _, ⟨vs, h1, _⟩ => by rw [h1]; simp
  | .rls _, ⟨o, vs, h1, _⟩ => by rw [h1]; simp
  | .dic _, ⟨vs, h1, _⟩ => by rw [h1]; simp
  | .dit _, ⟨vs, h1, _⟩ => by rw [h1]; simp
  | .ins _ _, ⟨dx, vs, h1, _⟩ => by rw [h1]; simp
theorem ARel.free {A : AH} (h : ARel K H A) {p : Addr} (hp : H p = none) : A p = none := by
  cases q : A p with
  | none => rfl
  | some o => exact absurd hp (h p o q).there
/-- a new object, tracked -/
theorem ARel.new {A : AH} (h : ARel K H A) {p : Addr} {o : HO} {u : AO} (hp : H p = none) (n : ORel K (L2.upd H p o) p u) : ARel K (L2.upd H p o) (A.upd p u) := fun b w e => by
  by_cases hb : b = p
  · subst hb
    rw [AH.upd_same] at e
    cases e
    exact n
  · rw [AH.upd_ne hb] at e
    exact (h b w e).mono (TExt.new hp) (L2.upd_ne hb)
/-- a new object, not tracked (a tuple) -/
theorem ARel.newT {A : AH} (h : ARel K H A) {p : Addr} {o : HO} (hp : H p = none) : ARel K (L2.upd H p o) A := fun b w e =>
  (h b w e).mono (TExt.new hp) (L2.upd_ne fun z => (h b w e).there (by rw [z]; exact hp))
/-- an object changed -/
theorem ARel.mut {A : AH} (h : ARel K H A) {p : Addr} {o : HO} {u : AO} (t : TExt H (L2.upd H p o)) (n : ORel K (L2.upd H p o) p u) : ARel K (L2.upd H p o) (A.upd p u) := fun b w e => by
  by_cases hb : b = p
  · subst hb
    rw [AH.upd_same] at e
    cases e
    exact n
  · rw [AH.upd_ne hb] at e
    exact (h b w e).mono t (L2.upd_ne hb)
theorem SRel.to {σ : L2.St} {ds : DSt} {A A' : AH} (S : SRel K σ H ds A) (e : TExt H H') (o : ARel K H' A') : SRel K σ H' ds A' :=
  ⟨S.len, fun i d hd => let ⟨v, h1, h2⟩ := S.var i d hd; ⟨v, h1, Rep.mono e d v h2⟩, o⟩
theorem SRel.set {σ : L2.St} {ds : DSt} {A : AH} (S : SRel K σ H ds A) (i : Nat) {d : D} {v : V} (r : Rep K H d v) : SRel K (σ.set i (some v)) H (ds.set i (some d)) A := by
  refine ⟨by simp [S.len], fun j d' hd => ?_, S.obj⟩
  by_cases hj : i = j
  · subst hj
    rw [List.getElem?_set] at hd ⊢
    simp only [if_true] at hd ⊢
    by_cases hl : i < ds.length
    · rw [if_pos hl] at hd
      rw [if_pos (by rw [← S.len]; exact hl)]
      cases hd
      exact ⟨v, rfl, r⟩
    · rw [if_neg hl] at hd
      cases hd
  · rw [List.getElem?_set_ne hj] at hd ⊢
    exact S.var j d' hd
theorem RepL.length : ∀ {ds : List D} {vs : List V}, RepL K H ds vs → vs.length = ds.length
  | [], _, h => by rw [show _ = [] from h]; rfl
  | _ :: _, _, ⟨v, r, h1, _, h3⟩ => by rw [h1, List.length_cons, List.length_cons, RepL.length h3]
theorem RepL.get : ∀ {ds : List D} {vs : List V} {i : Nat} {d : D}, RepL K H ds vs → ds[i]? = some d → ∃ v, vs[i]? = some v ∧ Rep K H d v
  | [], _, _, _, _, e => by simp at e
  | _ :: _, _, 0, _, ⟨v, r, h1, h2, _⟩, e => by
    simp at e
    subst e
    exact ⟨v, by rw [h1]; rfl, h2⟩
  | _ :: _, _, i + 1, _, ⟨v, r, h1, _, h3⟩, e => by
    simp at e
    obtain ⟨w, e1, e2⟩ := RepL.get h3 e
    exact ⟨w, by rw [h1]; simpa using e1, e2⟩
theorem RepL.getV : ∀ {ds : List D} {vs : List V} {i : Nat} {v : V}, RepL K H ds vs → vs[i]? = some v → ∃ d, ds[i]? = some d ∧ Rep K H d v
  | [], _, _, _, h, e => by
    rw [show _ = [] from h] at e
    simp at e
  | d :: _, _, 0, _, ⟨v, r, h1, h2, _⟩, e => by
    rw [h1] at e
    simp at e
    subst e
    exact ⟨d, rfl, h2⟩
  | _ :: _, _, i + 1, _, ⟨v, r, h1, _, h3⟩, e => by
    rw [h1] at e
    simp at e
    obtain ⟨w, e1, e2⟩ := RepL.getV h3 e
    exact ⟨w, by simpa using e1, e2⟩
theorem RepL.append : ∀ {ds es : List D} {vs us : List V}, RepL K H ds vs → RepL K H es us → RepL K H (ds ++ es) (vs ++ us)
  | [], _, _, _, h, h' => by rw [show _ = [] from h]; exact h'
  | _ :: _, _, _, _, ⟨v, r, h1, h2, h3⟩, h' => ⟨v, _, by rw [h1]; rfl, h2, RepL.append h3 h'⟩
theorem RepL.one {d : D} {v : V} (h : Rep K H d v) : RepL K H [d] [v] := ⟨v, [], rfl, h, rfl⟩
theorem RepL.snoc {ds : List D} {vs : List V} {d : D} {v : V} (a : RepL K H ds vs) (h : Rep K H d v) : RepL K H (ds ++ [d]) (vs ++ [v]) := a.append (.one h)
theorem RepL.take : ∀ (n : Nat) {ds : List D} {vs : List V}, RepL K H ds vs → RepL K H (ds.take n) (vs.take n)
  | 0, _, _, _ => rfl
  | _ + 1, [], _, h => by rw [show _ = [] from h]; rfl
  | n + 1, _ :: _, _, ⟨v, r, h1, h2, h3⟩ => ⟨v, _, by rw [h1]; rfl, h2, RepL.take n h3⟩
theorem RepL.drop : ∀ (n : Nat) {ds : List D} {vs : List V}, RepL K H ds vs → RepL K H (ds.drop n) (vs.drop n)
  | 0, _, _, h => h
  | _ + 1, [], _, h => by rw [show _ = [] from h]; rfl
  | n + 1, _ :: _, _, ⟨v, r, h1, h2, h3⟩ => by rw [h1]; exact RepL.drop n h3
theorem RepL.set : ∀ {ds : List D} {vs : List V} (i : Nat) {d : D} {v : V}, RepL K H ds vs → Rep K H d v → RepL K H (ds.set i d) (vs.set i v)
  | [], _, _, _, _, h, _ => by rw [show _ = [] from h]; rfl
  | _ :: _, _, 0, _, w, ⟨v, r, h1, h2, h3⟩, q => ⟨w, r, by rw [h1]; rfl, q, h3⟩
  | _ :: _, _, i + 1, _, _, ⟨v, r, h1, h2, h3⟩, q => ⟨v, _, by rw [h1]; rfl, h2, RepL.set i h3 q⟩
theorem RepL.reverse : ∀ {ds : List D} {vs : List V}, RepL K H ds vs → RepL K H ds.reverse vs.reverse
  | [], _, h => by rw [show _ = [] from h]; rfl
  | _ :: _, _, ⟨v, r, h1, h2, h3⟩ => by
    rw [h1, List.reverse_cons, List.reverse_cons]
    exact (RepL.reverse h3).snoc h2
theorem RepL.eraseIdx : ∀ {ds : List D} {vs : List V} (i : Nat), RepL K H ds vs → RepL K H (ds.eraseIdx i) (vs.eraseIdx i)
  | [], _, _, h => by rw [show _ = [] from h]; rfl
  | _ :: _, _, 0, ⟨v, r, h1, h2, h3⟩ => by rw [h1]; exact h3
  | _ :: _, _, i + 1, ⟨v, r, h1, h2, h3⟩ => ⟨v, _, by rw [h1]; rfl, h2, RepL.eraseIdx i h3⟩
theorem RepL.ints : ∀ {ns : List Int} {vs : List V}, RepL K H (ns.map D.int) vs → vs = ns.map V.int
  | [], _, h => h
  | _ :: _, _, ⟨v, r, h1, h2, h3⟩ => by rw [h1, show v = _ from h2, RepL.ints h3]; rfl
theorem RepL.of_ints : ∀ (ns : List Int), RepL K H (ns.map D.int) (ns.map V.int)
  | [] => rfl
  | n :: ns => ⟨.int n, _, rfl, rfl, RepL.of_ints ns⟩
theorem RepL.strs : ∀ {ns : List Str} {vs : List V}, RepL K H (ns.map D.str) vs → vs = ns.map V.str
  | [], _, h => h
  | _ :: _, _, ⟨v, r, h1, h2, h3⟩ => by rw [h1, show v = _ from h2, RepL.strs h3]; rfl
theorem RepL.of_strs : ∀ (ns : List Str), RepL K H (ns.map D.str) (ns.map V.str)
  | [] => rfl
  | n :: ns => ⟨.str n, _, rfl, rfl, RepL.of_strs ns⟩
theorem RepL.bls : ∀ {ns : List Bool} {vs : List V}, RepL K H (ns.map D.bl) vs → vs = ns.map V.bl
  | [], _, h => h
  | _ :: _, _, ⟨v, r, h1, h2, h3⟩ => by rw [h1, show v = _ from h2, RepL.bls h3]; rfl
end

/-! ### readings by data -/
abbrev DK := D → AH → Prop
abbrev DTE := DSt → AH → DK → Prop
abbrev DTT := DSt → AH → (Bool → AH → Prop) → Prop
abbrev DTA := DSt → AH → (List D → AH → Prop) → Prop
structure DEnds where
  nx : DSt → AH → Prop
  rt : DK
  bk : DSt → AH → Prop := fun _ _ => False
  ct : DSt → AH → Prop := fun _ _ => False
abbrev DTS := DEnds → DSt → AH → Prop
abbrev DR2 := D → D → AH → DK → Prop
abbrev DR1 := D → AH → DK → Prop
abbrev DRC := List D → AH → DK → Prop
abbrev DTG := D → DSt → AH → (DSt → AH → Prop) → Prop
abbrev DTGs := List D → DSt → AH → (DSt → AH → Prop) → Prop

def LE (K : PySem.W.Frag) (t : DTE) : TE := fun σ H Q => ∃ ds A Qd, SRel K σ H ds A ∧ t ds A Qd ∧ ∀ d A' v H', Qd d A' → TExt H H' → ARel K H' A' → Rep K H' d v → Q v H'
def LT (K : PySem.W.Frag) (t : DTT) : TT := fun σ H Q => ∃ ds A Qd, SRel K σ H ds A ∧ t ds A Qd ∧ ∀ b A' H', Qd b A' → TExt H H' → ARel K H' A' → Q b H'
def LA (K : PySem.W.Frag) (t : DTA) : TA := fun σ H Q => ∃ ds A Qd, SRel K σ H ds A ∧ t ds A Qd ∧ ∀ d A' v H', Qd d A' → TExt H H' → ARel K H' A' → RepL K H' d v → Q v H'
def LS (K : PySem.W.Frag) (t : DTS) : TS := fun De σ H => ∃ ds A Dd, SRel K σ H ds A ∧ t Dd ds A ∧
  (∀ ds' A' σ' H', Dd.nx ds' A' → TExt H H' → SRel K σ' H' ds' A' → De.nx σ' H') ∧
  (∀ d A' v H', Dd.rt d A' → TExt H H' → ARel K H' A' → Rep K H' d v → De.rt v H') ∧
  (∀ ds' A' σ' H', Dd.bk ds' A' → TExt H H' → SRel K σ' H' ds' A' → De.bk σ' H') ∧
  (∀ ds' A' σ' H', Dd.ct ds' A' → TExt H H' → SRel K σ' H' ds' A' → De.ct σ' H')
def LG (K : PySem.W.Frag) (g : DTG) : TG := fun v σ H Q => ∃ d ds A Qd, SRel K σ H ds A ∧ Rep K H d v ∧ g d ds A Qd ∧ ∀ ds' A' σ' H', Qd ds' A' → TExt H H' → SRel K σ' H' ds' A' → Q σ' H'
def LGs (K : PySem.W.Frag) (g : DTGs) : TGs := fun v σ H Q => ∃ d ds A Qd, SRel K σ H ds A ∧ RepL K H d v ∧ g d ds A Qd ∧ ∀ ds' A' σ' H', Qd ds' A' → TExt H H' → SRel K σ' H' ds' A' → Q σ' H'
def LO (K : PySem.W.Frag) (r : DR2) : R2 := fun x y H Q => ∃ dx dy A Qd, ARel K H A ∧ Rep K H dx x ∧ Rep K H dy y ∧ r dx dy A Qd ∧ ∀ d A' v H', Qd d A' → TExt H H' → ARel K H' A' → Rep K H' d v → Q v H'
def LU (K : PySem.W.Frag) (r : DR1) : V → Hp → VK → Prop := fun x H Q => ∃ dx A Qd, ARel K H A ∧ Rep K H dx x ∧ r dx A Qd ∧ ∀ d A' v H', Qd d A' → TExt H H' → ARel K H' A' → Rep K H' d v → Q v H'
def LC (K : PySem.W.Frag) (r : DRC) : List V → Hp → VK → Prop := fun x H Q => ∃ dx A Qd, ARel K H A ∧ RepL K H dx x ∧ r dx A Qd ∧ ∀ d A' v H', Qd d A' → TExt H H' → ARel K H' A' → Rep K H' d v → Q v H'
def LM (K : PySem.W.Frag) (r : D → List D → AH → DK → Prop) : V → List V → Hp → VK → Prop := fun x xs H Q => ∃ d ds A Qd, ARel K H A ∧ Rep K H d x ∧ RepL K H ds xs ∧ r d ds A Qd ∧
  ∀ d A' v H', Qd d A' → TExt H H' → ARel K H' A' → Rep K H' d v → Q v H'

theorem PE.imp {X : Cx} {e : Expr} {t u : TE} (h : PE X e t) (i : ∀ σ H Q, u σ H Q → t σ H Q) : PE X e u := ⟨fun pins s σ H Q I q => h.run pins s σ H Q I (i σ H Q q)⟩
theorem PT.imp {X : Cx} {e : Expr} {t u : TT} (h : PT X e t) (i : ∀ σ H Q, u σ H Q → t σ H Q) : PT X e u := ⟨fun pins s σ H Q I q => h.run pins s σ H Q I (i σ H Q q)⟩
theorem PW.imp {X : Cx} {e : Expr} {t u : TT} (h : PW X e t) (i : ∀ σ H Q, u σ H Q → t σ H Q) : PW X e u := ⟨fun wh pins s σ H Q I q => h.run wh pins s σ H Q I (i σ H Q q)⟩
theorem PA.imp {X : Cx} {e : List Expr} {t u : TA} (h : PA X e t) (i : ∀ σ H Q, u σ H Q → t σ H Q) : PA X e u := ⟨fun pos pins s σ H Q I q => h.run pos pins s σ H Q I (i σ H Q q)⟩
theorem PS.imp {X : Cx} {e : Stmt} {t u : TS} (h : PS X e t) (i : ∀ D σ H, u D σ H → t D σ H) : PS X e u := ⟨fun pins s σ H D I q => h.run pins s σ H D I (i D σ H q)⟩
theorem PSs.imp {X : Cx} {e : List Stmt} {t u : TS} (h : PSs X e t) (i : ∀ D σ H, u D σ H → t D σ H) : PSs X e u := ⟨fun pins s σ H D I q => h.run pins s σ H D I (i D σ H q)⟩
theorem PG.imp {X : Cx} {e : Expr} {t u : TG} (h : PG X e t) (i : ∀ v σ H Q, u v σ H Q → t v σ H Q) : PG X e u := ⟨fun pins s σ H v w Q I r q => h.run pins s σ H v w Q I r (i v σ H Q q)⟩
theorem PGs.imp {X : Cx} {e : List Expr} {t u : TGs} (h : PGs X e t) (i : ∀ v σ H Q, u v σ H Q → t v σ H Q) : PGs X e u := ⟨fun pins s σ H v w Q I r q => h.run pins s σ H v w Q I r (i v σ H Q q)⟩

abbrev QE (X : Cx) (e : Expr) (t : DTE) : Prop := PE X e (LE X.K t)
abbrev QT (X : Cx) (e : Expr) (t : DTT) : Prop := PT X e (LT X.K t)
abbrev QW (X : Cx) (e : Expr) (t : DTT) : Prop := PW X e (LT X.K t)
abbrev QA (X : Cx) (e : List Expr) (t : DTA) : Prop := PA X e (LA X.K t)
abbrev QS (X : Cx) (e : Stmt) (t : DTS) : Prop := PS X e (LS X.K t)
abbrev QSs (X : Cx) (e : List Stmt) (t : DTS) : Prop := PSs X e (LS X.K t)
abbrev QG (X : Cx) (e : Expr) (t : DTG) : Prop := PG X e (LG X.K t)
abbrev QGs (X : Cx) (e : List Expr) (t : DTGs) : Prop := PGs X e (LGs X.K t)
abbrev OpQ (X : Cx) (f : Value → Value → Sem Value) (r : DR2) : Prop := OpR X f (LO X.K r)
abbrev UnQ (X : Cx) (f : Value → Sem Value) (r : DR1) : Prop := UnR X f (LU X.K r)
abbrev CallQ (X : Cx) (f : Value) (r : DRC) : Prop := CallR X f (LC X.K r)
abbrev MtQ (X : Cx) (id : String) (r : D → List D → AH → DK → Prop) : Prop := MtR X id (LM X.K r)

/-! ### expressions -/
section
variable {X : Cx} {e a b c : Expr} {t ta tb tc : DTE} {u tt tu : DTT} {es : List Expr} {tr : DTA} {pos : Pos}
def dVar (i : Nat) : DTE := fun ds A Q => match ds[i]? with
  | some (some d) => Q d A
  | _ => False
def dC (d : D) : DTE := fun _ A Q => Q d A
theorem q_var (i : Nat) {x : Str} (hN : X.N[i]? = some x := by rfl) (hv : Vis X.env.scope x := by first | exact Or.inl rfl | exact Or.inr (Or.inl rfl) | exact Or.inr (Or.inr rfl)) (hd : (x == ("__debug__" : Str)) = false := by decide)
    (hcd : (x == ("__classdict__" : Str)) = false := by decide) : QE X (.Name x pos) (dVar i) := by
  refine PE.imp (pe_var hN hv hd hcd) fun σ H Q ⟨ds, A, Qd, S, h, k⟩ => ?_
  unfold dVar at h
  split at h
  · rename_i d hd
    obtain ⟨v, h1, h2⟩ := S.var i d hd
    exact ⟨v, h1, k d A v H h TExt.refl S.obj h2⟩
  · exact h.elim
theorem q_con {d : D} {v : V} (h : PE X e (tC v)) (r : ∀ H, Rep X.K H d v) : QE X e (dC d) :=
  PE.imp h fun _ H _ ⟨_, A, _, S, q, k⟩ => k d A v H q TExt.refl S.obj (r H)
theorem q_int {i j} : QE X (.Constant (.int i) j pos) (dC (.int i)) := q_con pe_int fun _ => rfl
theorem q_bl {i j} : QE X (.Constant (.bool i) j pos) (dC (.bl i)) := q_con pe_bl fun _ => rfl
theorem q_non {j} : QE X (.Constant .none j pos) (dC .non) := q_con pe_non fun _ => rfl
theorem q_str {i j} : QE X (.Constant (.str i) j pos) (dC (.str i)) := q_con pe_str fun _ => rfl
theorem q_glob {x : Str} {d : D} {v : V} {u : Value} (hg : Gl X x) (hm : X.mg x = some u) (r : RelV v u) (rd : ∀ H, Rep X.K H d v) (hd : (x == ("__debug__" : Str)) = false := by decide) : QE X (.Name x pos) (dC d) := q_con (pe_glob hg hm r hd) rd

def dOp (r : DR2) (ta tb : DTE) : DTE := fun ds A Q => ta ds A fun x A1 => tb ds A1 fun y A2 => r x y A2 Q
theorem LE.bin {K : PySem.W.Frag} {σ : L2.St} {H : Hp} {Q : VK} {r : DR2} (h : LE K (dOp r ta tb) σ H Q) : tOp (LO K r) (LE K ta) (LE K tb) σ H Q := by
  obtain ⟨ds, A, Qd, S, h, k⟩ := h
  refine ⟨ds, A, _, S, h, fun x A1 v H1 h1 e1 o1 r1 => ?_⟩
  refine ⟨ds, A1, _, S.to e1 o1, h1, fun y A2 w H2 h2 e2 o2 r2 => ?_⟩
  exact ⟨x, y, A2, Qd, o2, Rep.mono e2 _ _ r1, r2, h2, fun d A' z H' q e3 o3 r3 => k d A' z H' q ((e1.trans e2).trans e3) o3 r3⟩
theorem q_op {op : Operator} {r : DR2} (ho : OpQ X (binaryOp op) r) (ha : QE X a ta) (hb : QE X b tb) : QE X (.BinOp a op b pos) (dOp r ta tb) := PE.imp (pe_op ho ha hb) fun _ _ _ => LE.bin
theorem q_cmp {op : CmpOp} {r : DR2} (ho : OpQ X (compareOp op) r) (ha : QE X a ta) (hb : QE X b tb) (hm : behindInMarks op b = false) : QE X (.Compare a [op] [b] pos) (dOp r ta tb) := PE.imp (pe_cmpR ho ha hb hm) fun _ _ _ => LE.bin
def dUn (r : DR1) (ta : DTE) : DTE := fun ds A Q => ta ds A fun x A1 => r x A1 Q
theorem q_un {op : UnaryOp} {r : DR1} (ho : UnQ X (unaryOp op) r) (ha : QE X a ta) : QE X (.UnaryOp op a pos) (dUn r ta) := PE.imp (pe_un ho ha) fun σ H Q ⟨ds, A, Qd, S, h, k⟩ =>
  ⟨ds, A, _, S, h, fun x A1 v H1 h1 e1 o1 r1 => ⟨x, A1, Qd, o1, r1, h1, fun d A' z H' q e3 o3 r3 => k d A' z H' q (e1.trans e3) o3 r3⟩⟩

/-- a value that is a truth -/
def dTest (t : DTE) : DTT := fun ds A Q => t ds A fun x A1 => match x with
  | .bl k => Q k A1
  | _ => False
theorem LT.test {K : PySem.W.Frag} {σ : L2.St} {H : Hp} {Q : Bool → Hp → Prop} (h : LT K (dTest t) σ H Q) : (fun σ H Q => LE K t σ H fun x H' => ∃ k, x = .bl k ∧ Q k H' : TT) σ H Q := by
  obtain ⟨ds, A, Qd, S, h, k⟩ := h
  refine ⟨ds, A, _, S, h, fun x A1 v H1 h1 e1 o1 r1 => ?_⟩
  cases x with
  | bl b => exact ⟨b, r1, k b A1 H1 h1 e1 o1⟩
  | _ => exact h1.elim
theorem qt_cmp {op : CmpOp} {r : DR2} (ho : OpQ X (compareOp op) r) (ha : QE X a ta) (hb : QE X b tb) (hm : behindInMarks op b = false) : QT X (.Compare a [op] [b] pos) (dTest (dOp r ta tb)) :=
  PT.imp (pt_cmpR ho ha hb hm) fun σ H Q h => by
    obtain ⟨ds, A, Qd, S, h, k⟩ := h
    exact LE.bin (r := r) ⟨ds, A, _, S, h, fun x A1 v H1 h1 e1 o1 r1 => by
      cases x with
      | bl b => exact ⟨b, r1, k b A1 H1 h1 e1 o1⟩
      | _ => exact h1.elim⟩
theorem qt_val (h : QE X e t) (he : ∀ whole, isTrue e X.env whole = (do let v ← whole; standAt e.pos; holding [v] (truthy v)) := by intro _; rfl) : QT X e (dTest t) := PT.imp (pt_val h he) fun _ _ _ => LT.test
def dAnd (t u : DTT) : DTT := fun ds A Q => t ds A fun k A1 => if k = true then u ds A1 Q else Q false A1
def dOr (t u : DTT) : DTT := fun ds A Q => t ds A fun k A1 => if k = true then Q true A1 else u ds A1 Q
def dNot (t : DTT) : DTT := fun ds A Q => t ds A fun k A1 => Q (!k) A1
theorem qw_and1 (h : QT X a u) : QW X (.BoolOp .And [a] pos) u := pw_and1 h
theorem qw_or1 (h : QT X a u) : QW X (.BoolOp .Or [a] pos) u := pw_or1 h
theorem qw_and (ha : QT X a tt) (hb : QW X (.BoolOp .And (b :: es) pos) tu) : QW X (.BoolOp .And (a :: b :: es) pos) (dAnd tt tu) := PW.imp (pw_and ha hb) fun σ H Q ⟨ds, A, Qd, S, h, k⟩ =>
  ⟨ds, A, _, S, h, fun b A1 H1 h1 e1 o1 => by
    cases b with
    | true => exact iteT ⟨ds, A1, Qd, S.to e1 o1, h1, fun b A2 H2 h2 e2 o2 => k b A2 H2 h2 (e1.trans e2) o2⟩
    | false => exact iteF (k false A1 H1 h1 e1 o1)⟩
theorem qw_or (ha : QT X a tt) (hb : QW X (.BoolOp .Or (b :: es) pos) tu) : QW X (.BoolOp .Or (a :: b :: es) pos) (dOr tt tu) := PW.imp (pw_or ha hb) fun σ H Q ⟨ds, A, Qd, S, h, k⟩ =>
  ⟨ds, A, _, S, h, fun b A1 H1 h1 e1 o1 => by
    cases b with
    | false => exact iteF ⟨ds, A1, Qd, S.to e1 o1, h1, fun b A2 H2 h2 e2 o2 => k b A2 H2 h2 (e1.trans e2) o2⟩
    | true => exact iteT (k true A1 H1 h1 e1 o1)⟩
theorem qt_w (h : QW X e u) : QT X e u := PW.pt h
theorem qt_not (ha : QT X a tt) : QT X (.UnaryOp .Not a pos) (dNot tt) := PT.imp (pt_not ha) fun σ H Q ⟨ds, A, Qd, S, h, k⟩ => ⟨ds, A, _, S, h, fun b A1 H1 h1 e1 o1 => k (!b) A1 H1 h1 e1 o1⟩
def dIf (t : DTT) (ta tb : DTE) : DTE := fun ds A Q => t ds A fun k A1 => if k = true then ta ds A1 Q else tb ds A1 Q
theorem q_if (hc : QT X c tt) (ha : QE X a ta) (hb : QE X b tb) : QE X (.IfExp c a b pos) (dIf tt ta tb) := PE.imp (pe_ifExp hc ha hb) fun σ H Q ⟨ds, A, Qd, S, h, k⟩ =>
  ⟨ds, A, _, S, h, fun b A1 H1 h1 e1 o1 => by
    cases b with
    | true => exact iteT ⟨ds, A1, Qd, S.to e1 o1, h1, fun b A2 v H2 h2 e2 o2 r2 => k b A2 v H2 h2 (e1.trans e2) o2 r2⟩
    | false => exact iteF ⟨ds, A1, Qd, S.to e1 o1, h1, fun b A2 v H2 h2 e2 o2 r2 => k b A2 v H2 h2 (e1.trans e2) o2 r2⟩⟩
/-- and, or, not as values (truths) -/
def dAndV (ta tb : DTE) : DTE := fun ds A Q => ta ds A fun x A1 => match x with
  | .bl true => tb ds A1 Q
  | .bl false => Q (.bl false) A1
  | _ => False
def dOrV (ta tb : DTE) : DTE := fun ds A Q => ta ds A fun x A1 => match x with
  | .bl true => Q (.bl true) A1
  | .bl false => tb ds A1 Q
  | _ => False
def dNotV (ta : DTE) : DTE := fun ds A Q => ta ds A fun x A1 => match x with
  | .bl b => Q (.bl (!b)) A1
  | _ => False
theorem q_one {op} (h : QE X a t) : QE X (.BoolOp op [a] pos) t := pe_one h
theorem q_and (ha : QE X a ta) (hb : QE X (.BoolOp .And (b :: es) pos) tb) : QE X (.BoolOp .And (a :: b :: es) pos) (dAndV ta tb) := PE.imp (pe_and ha hb) fun σ H Q ⟨ds, A, Qd, S, h, k⟩ =>
  ⟨ds, A, _, S, h, fun x A1 v H1 h1 e1 o1 r1 => by
    cases x with
    | bl b =>
      cases b with
      | true => exact ⟨true, r1, iteT ⟨ds, A1, Qd, S.to e1 o1, h1, fun b A2 v H2 h2 e2 o2 r2 => k b A2 v H2 h2 (e1.trans e2) o2 r2⟩⟩
      | false => exact ⟨false, r1, iteF (k _ A1 _ H1 h1 e1 o1 rfl)⟩
    | _ => exact h1.elim⟩
theorem q_or (ha : QE X a ta) (hb : QE X (.BoolOp .Or (b :: es) pos) tb) : QE X (.BoolOp .Or (a :: b :: es) pos) (dOrV ta tb) := PE.imp (pe_or ha hb) fun σ H Q ⟨ds, A, Qd, S, h, k⟩ =>
  ⟨ds, A, _, S, h, fun x A1 v H1 h1 e1 o1 r1 => by
    cases x with
    | bl b =>
      cases b with
      | false => exact ⟨false, r1, iteF ⟨ds, A1, Qd, S.to e1 o1, h1, fun b A2 v H2 h2 e2 o2 r2 => k b A2 v H2 h2 (e1.trans e2) o2 r2⟩⟩
      | true => exact ⟨true, r1, iteT (k _ A1 _ H1 h1 e1 o1 rfl)⟩
    | _ => exact h1.elim⟩
theorem q_not (ha : QE X a ta) : QE X (.UnaryOp .Not a pos) (dNotV ta) := PE.imp (pe_not ha) fun σ H Q ⟨ds, A, Qd, S, h, k⟩ =>
  ⟨ds, A, _, S, h, fun x A1 v H1 h1 e1 o1 r1 => by
    cases x with
    | bl b => exact ⟨b, r1, k _ A1 _ H1 h1 e1 o1 rfl⟩
    | _ => exact h1.elim⟩

/-! ### arguments, displays, calls of builtins -/
def dNil : DTA := fun _ A Q => Q [] A
def dCons (ta : DTE) (tr : DTA) : DTA := fun ds A Q => ta ds A fun x A1 => tr ds A1 fun xs A2 => Q (x :: xs) A2
theorem qa_nil : QA X [] dNil := PA.imp pa_nil fun _ H _ ⟨_, A, _, S, h, k⟩ => k [] A [] H h TExt.refl S.obj rfl
theorem qa_cons (ha : QE X e t) (hr : QA X es tr) (hs : starEach (e :: es) X.env = (false, eval e X.env) :: starEach es X.env := by rfl) : QA X (e :: es) (dCons t tr) := PA.imp (pa_cons ha hr hs) fun σ H Q ⟨ds, A, Qd, S, h, k⟩ =>
  ⟨ds, A, _, S, h, fun x A1 v H1 h1 e1 o1 r1 => ⟨ds, A1, _, S.to e1 o1, h1, fun xs A2 vs H2 h2 e2 o2 r2 => k (x :: xs) A2 (v :: vs) H2 h2 (e1.trans e2) o2 ⟨v, vs, rfl, Rep.mono e2 _ _ r1, r2⟩⟩⟩
def dTup (tr : DTA) : DTE := fun ds A Q => tr ds A fun xs A1 => xs.length ≤ sizeLine ∧ Q (.tup xs) A1
def dLst (tr : DTA) : DTE := fun ds A Q => tr ds A fun xs A1 => xs.length ≤ sizeLine ∧ ∀ p, A1 p = none → Q (.ref p) (A1.upd p (.lst xs))
theorem q_tup {x1} (h : QA X es tr) : QE X (.Tuple es x1 pos) (dTup tr) := PE.imp (pe_tup h) fun σ H Q ⟨ds, A, Qd, S, h, k⟩ =>
  ⟨ds, A, _, S, h, fun xs A1 vs H1 ⟨hz, h1⟩ e1 o1 r1 => ⟨by rw [r1.length]; exact hz, fun p hp => k _ A1 _ _ h1 (e1.trans (TExt.new hp)) (o1.newT hp) ⟨p, vs, rfl, SqT.of L2.upd_same, RepL.mono (TExt.new hp) _ _ r1⟩⟩⟩
theorem q_lst (h : QA X es tr) : QE X (.List es pos) (dLst tr) := PE.imp (pe_lst h) fun σ H Q ⟨ds, A, Qd, S, h, k⟩ =>
  ⟨ds, A, _, S, h, fun xs A1 vs H1 ⟨hz, h1⟩ e1 o1 r1 => ⟨by rw [r1.length]; exact hz, fun p hp => k _ _ _ _ (h1 p (o1.free hp)) (e1.trans (TExt.new hp)) (o1.new hp ⟨vs, L2.upd_same, RepL.mono (TExt.new hp) _ _ r1⟩) rfl⟩⟩
def dCB (r : DRC) (tr : DTA) : DTE := fun ds A Q => tr ds A fun xs A1 => r xs A1 Q
theorem LE.cb {K : PySem.W.Frag} {σ : L2.St} {H : Hp} {Q : VK} {r : DRC} (h : LE K (dCB r tr) σ H Q) : tCB (LC K r) (LA K tr) σ H Q := by
  obtain ⟨ds, A, Qd, S, h, k⟩ := h
  exact ⟨ds, A, _, S, h, fun xs A1 vs H1 h1 e1 o1 r1 => ⟨xs, A1, Qd, o1, r1, h1, fun d A' v H' q e2 o2 r2 => k d A' v H' q (e1.trans e2) o2 r2⟩⟩
theorem q_callB {x : Str} {id : String} {p : Pos} {r : DRC} (hc : CallQ X (.builtin id) r) (hg : Gl X x) (hm : X.mg x = none) (hv : bootBuiltins x = some (.builtin id)) (ha : QA X (e :: es) tr) (hn : x ≠ "__name__" := by decide) (hdb : (x == ("__debug__" : Str)) = false := by decide)
    (he : starEach (e :: es) X.env = (false, eval e X.env) :: starEach es X.env := by rfl) (hpl : (backTo pos (starEach es X.env)).any (·.1) = false := by rfl) : QE X (.Call (.Name x p) (e :: es) [] pos) (dCB r tr) := PE.imp (pe_callB hc hg hm hv ha hn hdb he hpl) fun _ _ _ => LE.cb
theorem q_callTy {x : Str} {T : String} {p : Pos} {r : DRC} (hc : CallQ X (.type T) r) (hg : Gl X x) (hm : X.mg x = none) (hv : bootBuiltins x = some (.type T)) (ha : QA X (e :: es) tr) (hn : x ≠ "__name__" := by decide) (hdb : (x == ("__debug__" : Str)) = false := by decide)
    (he : starEach (e :: es) X.env = (false, eval e X.env) :: starEach es X.env := by rfl) (hpl : (backTo pos (starEach es X.env)).any (·.1) = false := by rfl) : QE X (.Call (.Name x p) (e :: es) [] pos) (dCB r tr) := PE.imp (pe_callTy hc hg hm hv ha hn hdb he hpl) fun _ _ _ => LE.cb
end

/-! ### statements -/
section
variable {X : Cx} {st : Stmt} {rest a b : List Stmt} {t u : DTS} {e c : Expr} {te : DTE} {tc : DTT} {pos : Pos}
def dNext : DTS := fun D ds A => D.nx ds A
def dSeq (t u : DTS) : DTS := fun D ds A => t { D with nx := u D } ds A
theorem qss_nil : QSs X [] dNext := PSs.imp pss_nil fun D σ H ⟨ds, A, Dd, S, h, k1, k2, k3, k4⟩ => k1 ds A σ H h TExt.refl S
theorem qss_cons (h1 : QS X st t) (h2 : QSs X rest u) : QSs X (st :: rest) (dSeq t u) := PSs.imp (pss_cons h1 h2) fun D σ H ⟨ds, A, Dd, S, h, k1, k2, k3, k4⟩ =>
  ⟨ds, A, _, S, h, fun ds' A' σ' H' h' e' S' => ⟨ds', A', Dd, S', h', fun a b c d x y z => k1 a b c d x (e'.trans y) z, fun a b c d x y z => k2 a b c d x (e'.trans y) z, fun a b c d x y z => k3 a b c d x (e'.trans y) z, fun a b c d x y z => k4 a b c d x (e'.trans y) z⟩, k2, k3, k4⟩
theorem qss_one (h1 : QS X st t) : QSs X [st] t := pss_one h1
def dBreak : DTS := fun D ds A => D.bk ds A
theorem qs_pass : QS X (.Pass pos) dNext := PS.imp ps_pass fun D σ H ⟨ds, A, Dd, S, h, k1, k2, k3, k4⟩ => k1 ds A σ H h TExt.refl S
theorem qs_break : QS X (.Break pos) dBreak := PS.imp ps_break fun D σ H ⟨ds, A, Dd, S, h, k1, k2, k3, k4⟩ => k3 ds A σ H h TExt.refl S
def dDrop (te : DTE) : DTS := fun D ds A => te ds A fun _ A1 => D.nx ds A1
theorem qs_expr (he : QE X e te) (hs : swapsWith e none pos.line X.env = pure false := by rfl) : QS X (.Expr e pos) (dDrop te) := PS.imp (ps_expr he hs) fun D σ H ⟨ds, A, Dd, S, h, k1, k2, k3, k4⟩ =>
  ⟨ds, A, _, S, h, fun d A1 v H1 h1 e1 o1 r1 => k1 ds A1 σ H1 h1 e1 (S.to e1 o1)⟩
def dRet (te : DTE) : DTS := fun D ds A => te ds A D.rt
theorem qs_ret (he : QE X e te) : QS X (.Return (some e) pos) (dRet te) := PS.imp (ps_ret he) fun D σ H ⟨ds, A, Dd, S, h, k1, k2, k3, k4⟩ => ⟨ds, A, _, S, h, k2⟩
def dRetN : DTS := fun D _ A => D.rt .non A
theorem qs_retN : QS X (.Return none pos) dRetN := PS.imp ps_retN fun D σ H ⟨ds, A, Dd, S, h, k1, k2, k3, k4⟩ => k2 .non A .non H h TExt.refl S.obj rfl
def dIfS (c : DTT) (t u : DTS) : DTS := fun D ds A => c ds A fun b A1 => if b = true then t D ds A1 else u D ds A1
theorem qs_if (hc : QT X c tc) (ha : QSs X a t) (hb : QSs X b u) : QS X (.If c a b pos) (dIfS tc t u) := PS.imp (ps_if hc ha hb) fun D σ H ⟨ds, A, Dd, S, h, k1, k2, k3, k4⟩ =>
  ⟨ds, A, _, S, h, fun b A1 H1 h1 e1 o1 => by
    cases b with
    | true => exact iteT ⟨ds, A1, Dd, S.to e1 o1, h1, fun a b c d x y z => k1 a b c d x (e1.trans y) z, fun a b c d x y z => k2 a b c d x (e1.trans y) z, fun a b c d x y z => k3 a b c d x (e1.trans y) z, fun a b c d x y z => k4 a b c d x (e1.trans y) z⟩
    | false => exact iteF ⟨ds, A1, Dd, S.to e1 o1, h1, fun a b c d x y z => k1 a b c d x (e1.trans y) z, fun a b c d x y z => k2 a b c d x (e1.trans y) z, fun a b c d x y z => k3 a b c d x (e1.trans y) z, fun a b c d x y z => k4 a b c d x (e1.trans y) z⟩⟩
def dNever : DTS := fun _ _ _ => False
theorem qs_never : QS X st dNever := PS.imp ps_never fun D σ H ⟨ds, A, Dd, S, h, _⟩ => h

/-! ### targets, assignment -/
def dgName (i : Nat) : DTG := fun d ds A Q => Q (ds.set i (some d)) A
theorem qg_name (i : Nat) {x : Str} (hN : X.N.Nodup) (hi : X.N[i]? = some x := by rfl) (hx : Loc X.env.scope x := by first | exact Or.inl rfl | exact Or.inr rfl) (hf : X.fn x = true ∨ X.env.scope.names.lookup x = some .local := by first | exact .inl rfl | exact .inr rfl | assumption) : QG X (.Name x pos) (dgName i) :=
  PG.imp (pg_name hN hi hx hf) fun v σ H Q ⟨d, ds, A, Qd, S, r, h, k⟩ => k _ A _ H h TExt.refl (S.set i r)
def dgNil : DTGs := fun vs ds A Q => vs = [] ∧ Q ds A
def dgCons (t : DTG) (u : DTGs) : DTGs := fun vs ds A Q => match vs with
  | v :: r => t v ds A fun ds' A' => u r ds' A' Q
  | [] => False
theorem qgs_nil : QGs X [] dgNil := PGs.imp pgs_nil fun v σ H Q ⟨d, ds, A, Qd, S, r, h, k⟩ => by
  obtain ⟨e, h⟩ := h
  subst e
  exact ⟨r, k ds A σ H h TExt.refl S⟩
theorem qgs_cons {es : List Expr} {g : DTG} {gs : DTGs} (h1 : QG X e g) (h2 : QGs X es gs) (hs : (assignEach (e :: es) X.env).map (·.2) = assign e X.env :: (assignEach es X.env).map (·.2) := by rfl) : QGs X (e :: es) (dgCons g gs) :=
  PGs.imp (pgs_cons h1 h2 hs) fun v σ H Q ⟨d, ds, A, Qd, S, r, h, k⟩ => by
    cases d with
    | nil => exact h.elim
    | cons d dr =>
      obtain ⟨v1, vr, rfl, r1, r2⟩ := r
      exact ⟨v1, vr, rfl, d, ds, A, _, S, r1, h, fun ds' A' σ' H' h' e' S' => ⟨dr, ds', A', Qd, S', RepL.mono e' _ _ r2, h', fun a b c d x y z => k a b c d x (e'.trans y) z⟩⟩
def dgTup (n : Nat) (g : DTGs) : DTG := fun v ds A Q => match v with
  | .tup xs => xs.length = n ∧ g xs ds A Q
  | _ => False
theorem qg_tup {es : List Expr} {k : Nat} {g : DTGs} {n : Nat} (hc : X.calm = true) (h : QGs X es g) (hn : (assignEach es X.env).length = n := by rfl) (hst : (assignEach es X.env).findIdx? (·.1) = none := by rfl) : QG X (.Tuple es k pos) (dgTup n g) :=
  PG.imp (pg_tup hc h hn hst) fun v σ H Q ⟨d, ds, A, Qd, S, r, h, k⟩ => by
    cases d with
    | tup xs =>
      obtain ⟨p, vs, rfl, h1, h2⟩ := r
      exact ⟨p, vs, rfl, h1, by rw [h2.length]; exact h.1, xs, ds, A, Qd, S, h2, h.2, k⟩
    | _ => exact h.elim
def dAsg (te : DTE) (g : DTG) : DTS := fun D ds A => te ds A fun x A1 => g x ds A1 D.nx
theorem LS.asg {K : PySem.W.Frag} {D : Ends} {σ : L2.St} {H : Hp} {g : DTG} (h : LS K (dAsg te g) D σ H) : tAsg (LE K te) (LG K g) D σ H := by
  obtain ⟨ds, A, Dd, S, h, k1, k2, k3, k4⟩ := h
  exact ⟨ds, A, _, S, h, fun x A1 v H1 h1 e1 o1 r1 => ⟨x, ds, A1, _, S.to e1 o1, r1, h1, fun a b c d x y z => k1 a b c d x (e1.trans y) z⟩⟩
theorem qs_asg {tg : Expr} {g : DTG} (he : QE X e te) (hg : QG X tg g) (hs : swapsWithSole [tg] e pos.line X.env = pure false := by rfl) (hw : swappedStores [tg] e X.env = pure none := by rfl)
    (h1 : (assignEach [tg] X.env).map (·.2) = [assign tg X.env] := by rfl) : QS X (.Assign [tg] e pos) (dAsg te g) := PS.imp (ps_asg he hg hs hw h1) fun _ _ _ => LS.asg
theorem qs_set (i : Nat) {x : Str} {pos' : Pos} (hN : X.N.Nodup) (he : QE X e te) (hi : X.N[i]? = some x := by rfl) (hx : Loc X.env.scope x := by first | exact Or.inl rfl | exact Or.inr rfl) (hs : swapsWith e (some (.Name x pos')) pos.line X.env = pure false := by rfl)
    (hf : X.fn x = true ∨ X.env.scope.names.lookup x = some .local := by first | exact .inl rfl | exact .inr rfl | assumption) : QS X (.Assign [.Name x pos'] e pos) (dAsg te (dgName i)) := PS.imp (ps_set hN hi hx he hs hf) fun D σ H h => by
    obtain ⟨ds, A, Dd, S, h, k1, k2, k3, k4⟩ := h
    exact ⟨ds, A, _, S, h, fun x A1 v H1 h1 e1 o1 r1 => k1 _ A1 _ H1 h1 e1 ((S.to e1 o1).set i r1)⟩
def dPar (i j : Nat) (ta : DTA) : DTS := fun D ds A => ta ds A fun vs A1 => match vs with
  | [v, w] => D.nx ((ds.set i (some v)).set j (some w)) A1
  | _ => False
theorem qs_par (i j : Nat) {x y : Str} {a b : Expr} {ta : DTA} {px py pt : Pos} {kt k2 pt2} (hc : X.calm = true) (hN : X.N.Nodup) (ha : QA X [a, b] ta) (hi : X.N[i]? = some x := by rfl) (hj : X.N[j]? = some y := by rfl) (hij : i ≠ j := by decide)
    (hx : X.env.scope.names.lookup x = some .local := by rfl) (hy : X.env.scope.names.lookup y = some .local := by rfl)
    (hw : swappedStores [.Tuple [.Name x px, .Name y py] kt pt] (.Tuple [a, b] k2 pt2) X.env = pure (some [x, y]) := by rfl)
    (hs : swapsWithSole [.Tuple [.Name x px, .Name y py] kt pt] (.Tuple [a, b] k2 pt2) pos.line X.env = pure false := by rfl) :
    QS X (.Assign [.Tuple [.Name x px, .Name y py] kt pt] (.Tuple [a, b] k2 pt2) pos) (dPar i j ta) := PS.imp (ps_par hc hN hi hj hij hx hy ha hw hs) fun D σ H h => by
    obtain ⟨ds, A, Dd, S, h, k1, k2, k3, k4⟩ := h
    refine ⟨ds, A, _, S, h, fun xs A1 vs H1 h1 e1 o1 r1 => ?_⟩
    match xs, r1, h1 with
    | [d1, d2], ⟨v1, q1, e9, r1, v2, q2, e8, r2, e7⟩, h1 => exact ⟨v1, v2, by rw [e9, e8, e7], k1 _ A1 _ H1 h1 e1 (((S.to e1 o1).set i r1).set j r2)⟩

/-! ### while -/
def dWhile (c : DTT) (tb : DTS) : DTS := fun D ds A => ∃ W : Nat → DSt → AH → Prop, (∃ m, W m ds A) ∧ ∀ m ds A, W m ds A →
  c ds A fun b A1 => if b = true then tb { D with nx := fun ds' A' => ∃ m', m' < m ∧ W m' ds' A', ct := fun ds' A' => ∃ m', m' < m ∧ W m' ds' A', bk := D.nx } ds A1 else D.nx ds A1
theorem qs_while {tb : DTS} (hp : PassesOwn (model X.prog X.w) X.A X.env X.xe) (hc : QT X c tc) (hb : QSs X a tb) : QS X (.While c a [] pos) (dWhile tc tb) := PS.imp (ps_while hp hc hb) fun D σ H ⟨ds, A, Dd, S, ⟨W, ⟨m0, w0⟩, turn⟩, k1, k2, k3, k4⟩ => by
  refine ⟨fun m σ' H' => TExt H H' ∧ ∃ ds' A', SRel X.K σ' H' ds' A' ∧ W m ds' A', ⟨m0, TExt.refl, ds, A, S, w0⟩, ?_⟩
  rintro m σ1 H1 ⟨e1, ds1, A1, S1, w1⟩
  refine ⟨ds1, A1, _, S1, turn m ds1 A1 w1, fun b A2 H2 h2 e2 o2 => ?_⟩
  cases b with
  | false => exact iteF (k1 ds1 A2 σ1 H2 h2 (e1.trans e2) (S1.to e2 o2))
  | true =>
    refine iteT ⟨fun σ' H' => ∃ m', m' < m ∧ TExt H H' ∧ ∃ ds' A', SRel X.K σ' H' ds' A' ∧ W m' ds' A', fun σ' H' ⟨m', hm, q⟩ => ⟨m', hm, q⟩, ds1, A2, _, S1.to e2 o2, h2, ?_, ?_, ?_, ?_⟩
    · exact fun ds' A' σ' H' ⟨m', hm, w'⟩ e' S' => ⟨m', hm, (e1.trans e2).trans e', ds', A', S', w'⟩
    · exact fun a b c d x y z => k2 a b c d x ((e1.trans e2).trans y) z
    · exact fun a b c d x y z => k1 a b c d x ((e1.trans e2).trans y) z
    · exact fun ds' A' σ' H' ⟨m', hm, w'⟩ e' S' => ⟨m', hm, (e1.trans e2).trans e', ds', A', S', w'⟩
end
end PD

/-! PdCall: defs that are called where no repr runs; their promises by data -/
namespace PD
open PySem PySem.Spec PyProof.Rows L2

/-- room for k calls, and no repr under way -/
structure RoomG (k : Nat) (A : Around) : Prop where
  r : Room k A
  g : A.guards = some []
theorem RoomG.mono {j k : Nat} {A : Around} (x : RoomG k A) (h : j ≤ k) : RoomG j A := ⟨x.r.mono h, x.g⟩
theorem RoomG.deeper {k : Nat} {A : Around} (x : RoomG (k + 1) A) (env : Env) : RoomG k (A.deeper env) := ⟨x.r.deeper env, x.g⟩
theorem RoomG.make {k : Nat} {A : Around} (x : RoomG (k + 1) A) (C : Addr) (us : List Value) (kw : List (Str × Value)) : RoomG k (A.under (.builtin "type.__call__" ⟨.ref C :: us, kw⟩)) :=
  ⟨x.r.make C us kw, by
    have e : (Code.builtin "type.__call__" ⟨.ref C :: us, kw⟩).guards = [] := by rfl
    unfold Around.under
    simp only [e, x.g]
    rfl⟩

structure FnG (P : Program) (w : World) (K : PySem.W.Frag) (mg : Str → Option Value) (base : Heap) (CX : CXT) (k : Nat) (f : Addr) (fd : FuncData) (ps : List Str) (sp : Sp) : Prop where
  len : ∀ vs H Q E, sp vs H Q E → vs.length = ps.length
  run : ∀ (A : Around) (outer : List Env) (s : Shared) (H : Hp) (args : Args) (us : List Value) (vs : List V) (Q : VK) (E : XK), RoomG k A → Env0 P w K mg base A outer s H → BindsTo s fd args (ps.zip us) → Vals vs us → sp vs H Q E →
    codeAny (model P w) A (.call (.ref f) args) (CR CX outer P w H s Q E) s
section
variable {P : Program} {w : World} {K : PySem.W.Frag} {mg : Str → Option Value} {base : Heap} {CX : CXT}
theorem FnG.mono {j k : Nat} {f : Addr} {fd : FuncData} {ps : List Str} {sp : Sp} (F : FnG P w K mg base CX j f fd ps sp) (h : j ≤ k) : FnG P w K mg base CX k f fd ps sp :=
  ⟨F.len, fun A outer s H args us vs Q E hr => F.run A outer s H args us vs Q E (hr.mono h)⟩

/-- a def of the text by its body, where no repr is under way -/
theorem fnG_of {x qual : Str} {params : Arguments} {body : List Stmt} {scope : Scope} {dvs : List V} {kws : List (Str × V)} {f : Addr} {fd : FuncData} {N ps : List Str} {k : Nat} {sp : Sp}
    (F : FunD K x qual params body scope dvs kws f fd) (S : FnScope N ps scope) (len : ∀ vs H Q E, sp vs H Q E → vs.length = ps.length)
    (hbody : ∀ (cdv : Value) (A : Around) (outer : List Env) (s : Shared) (H : Hp) (vs : List V) (Q : VK) (E : XK), RoomG k (A.deeper (envOfC qual scope s.heap.objs.size f cdv)) → sp vs H Q E →
      ∃ t, PSs (cxOf CX P w K mg base N qual scope f cdv A outer s H E) body t ∧ t { nx := fun _ H' => Q .non H', rt := Q } (start N vs) H) : FnG P w K mg base CX (k + 1) f fd ps sp := by
  obtain ⟨oc, od, dV, kV, doc, pm, an, cdv, ct, osl, rfl, lk, hcd, _, _⟩ := F.ex
  constructor
  · exact len
  intro A outer s H args us vs Q E room env bind rel promise
  have many := len _ _ _ _ promise
  have within : K.In s.heap := env.mod.kin.keeps fun b o e => (env.bs b o e).1
  have noLim : s.heap.NoLimit := env.mod.nolimit.keeps fun b o e => (env.bs b o e).1
  have kinds : ∀ y ∈ ps.zip us, scope.names.lookup y.1 = some .local ∨ (scope.names.lookup y.1 = some .cell ∧ ((cellsFrom (s.heap.objs.size + 1) scope.names []).lookup y.1).isSome = true) := by
    rintro ⟨n, v⟩ hy
    refine (S.par n (List.of_mem_zip hy).1).imp id fun q => ⟨q, PySem.W.cellsFrom_some _ _ _ (.inl q)⟩
  refine codeAny_call_function room.r.depth (within _ _ lk) rfl S.co S.gen rfl (PySem.W.codeRec_of within hcd) (bind _ _ _ _ ?_)
  refine wpAny_newFunctionEnv_cells S.kind kinds fun en hen s1 x => ?_
  subst hen
  refine ⟨noLim.keeps x.toInCall.keep, codeAny_func ?_⟩
  obtain ⟨t, ht, hq⟩ := hbody cdv A outer s H vs Q E (room.deeper _) promise
  have I := inv_start (CX := CX) (E := E) S room.r.hd env many rel x
  refine wpAny_mono (ht.run [] s1 (start N vs) H _ I hq) (fun fl s' got => ?_) fun _ _ z => z
  cases fl with
  | ret u =>
    obtain ⟨v, σ', H', J, rv, q⟩ := got
    exact ⟨v, H', J.os, J.bare, J.base, J.hok, rv, q⟩
  | next =>
    obtain ⟨σ', H', J, q⟩ := got
    exact ⟨V.non, H', J.os, J.bare, J.base, J.hok, rfl, q⟩
  | brk => exact False.elim got.choose_spec.choose_spec.2
  | cont => exact False.elim got.choose_spec.choose_spec.2
end

/-! ### calls -/
section
variable {X : Cx} {CX : CXT} {k : Nat} {f C : Addr} {fd : FuncData} {ps : List Str} {sp : Sp} {E : XK} {x m : Str} {p pos apos : Pos} {e o : Expr} {es : List Expr} {ta : TE} {t : TA}
theorem run_fnG {pins : List (Addr × Obj)} {σ : L2.St} {H : Hp} {s : Shared} {Q : VK} {us : List Value} {vs : List V} (F : FnG X.prog X.w X.K X.mg X.base CX k f fd ps sp) (hr : RoomG k X.A) (hb : Binds X.K fd ps []) (hx : Passes CX X E)
    (I : Inv X pins σ H s) (r : Vals vs us) (h : sp vs H Q E) : wpAny (model X.prog X.w) X.A (call (.ref f) us) (EP X pins σ Q) X.xe s := by
  have hl : (us ++ []).length = ps.length := by
    rw [List.append_nil, ← r.length]
    exact F.len _ _ _ _ h
  have bt := hb s us I.kIn hl
  rw [List.append_nil] at bt
  refine wpAny_call (codeAny_mono (F.run X.A X.stack s H ⟨us, []⟩ us vs Q E hr I.env0 bt r h) fun r' s' hq => ?_)
  match r', hq with
  | .error e, hq => exact hx pins σ H s e s' I hq
  | .ok (.ret u), hq => exact I.after hq
  | .ok .next, hq => exact False.elim hq
  | .ok .brk, hq => exact False.elim hq
  | .ok .cont, hq => exact False.elim hq
def tCallG (sp : Sp) (E : XK) (t : TA) : TE := fun σ H Q => t σ H fun vs H1 => sp vs H1 Q E
theorem pe_callG (F : FnG X.prog X.w X.K X.mg X.base CX k f fd ps sp) (hr : RoomG k X.A) (hg : Gl X x) (hm : X.mg x = some (.ref f)) (hk : PySem.W.keepIn X.K (.ref f) = true) (hb : Binds X.K fd ps []) (hx : Passes CX X E)
    (ha : PA X (e :: es) t) (hdb : (x == ("__debug__" : Str)) = false := by decide) (he : starEach (e :: es) X.env = (false, eval e X.env) :: starEach es X.env := by rfl) (hpl : (backTo pos (starEach es X.env)).any (·.1) = false := by rfl) :
    PE X (.Call (.Name x p) (e :: es) [] pos) (tCallG sp E t) := by
  constructor
  intro pins s σ H Q I h
  refine wpAny_Call_Name_kw (ld_glob I hg hm ?_ hdb)
  exact PySem.W.callWith_K (h₀ := X.base) I.ok.mod.kin hk (thn (ha.run pos pins s σ H _ I h) fun us s1 ⟨vs, H1, I1, r, q⟩ => ⟨I1.kIn, run_fnG F hr hb hx I1 r q⟩) he hpl
theorem pe_callG0 (F : FnG X.prog X.w X.K X.mg X.base CX k f fd ps sp) (hr : RoomG k X.A) (hg : Gl X x) (hm : X.mg x = some (.ref f)) (hk : PySem.W.keepIn X.K (.ref f) = true) (hb : Binds X.K fd ps []) (hx : Passes CX X E)
    (hdb : (x == ("__debug__" : Str)) = false := by decide) : PE X (.Call (.Name x p) [] [] pos) (tCallG sp E tNil) :=
  ⟨fun pins s σ H Q I h => wpAny_Call_Name_kw (ld_glob I hg hm (PySem.W.callWith_K0 I.kIn hk (run_fnG (us := []) F hr hb hx I .nil h)) hdb)⟩
def tMethG (C : Addr) (m : Str) (sp : Sp) (E : XK) (ta : TE) (t : TA) : TE := fun σ H Q => ta σ H fun x H1 => ∃ a dx fs, x = .ref a ∧ H1 a = some (.ins C dx fs) ∧ fs.lookup m = none ∧
  t σ H1 fun vs H2 => sp (x :: vs) H2 Q E
theorem pe_methG {pl : Sem Bool} (he : PE X o ta) (c : Cls X.K C) (hm : Meth X.K C m f) (F : FnG X.prog X.w X.K X.mg X.base CX k f fd ps sp) (hr : RoomG k X.A) (hb : Binds X.K fd ps []) (hx : Passes CX X E) (ha : PA X (e :: es) t)
    (hst : starEach (e :: es) X.env = (false, eval e X.env) :: starEach es X.env := by rfl) (hpl : (backTo pos (starEach es X.env)).any (·.1) = false := by rfl)
    (ht : eval (.Call (.Attribute o m apos) (e :: es) [] pos) X.env = (do
      let ov ← eval o X.env
      standAt apos.atName
      let (f, first) ← holding [ov] (getMethod ov m pl)
      callWith pos f first (backTo pos (starEach (e :: es) X.env)) (backToKw pos (keywordEach [] X.env))) := by rfl) :
    PE X (.Call (.Attribute o m apos) (e :: es) [] pos) (tMethG C m sp E ta t) := by
  constructor
  intro pins s σ H Q I h
  refine PySem.W.methodCall_KW (pl := pl) (thn (he.run pins s σ H _ I h) fun u s1 got => ?_) ht
  obtain ⟨x, H1, I1, rx, a, dx, fs, rfl, ea, l, q⟩ := got
  obtain rfl : u = Value.ref a := rx
  refine getmeth_ok I1 ea c hm l ?_
  exact PySem.W.callWith_K (first := [.ref a]) (h₀ := X.base) I.ok.mod.kin hm.kp (thn (ha.run pos pins s1 σ H1 _ I1 q) fun us s2 ⟨vs, H2, I2, r, q2⟩ =>
    ⟨I2.kIn, run_fnG (us := .ref a :: us) (vs := .ref a :: vs) F hr hb hx I2 (.cons rfl r) q2⟩) hst hpl
theorem pe_methG0 {pl : Sem Bool} (he : PE X o ta) (c : Cls X.K C) (hm : Meth X.K C m f) (F : FnG X.prog X.w X.K X.mg X.base CX k f fd ps sp) (hr : RoomG k X.A) (hb : Binds X.K fd ps []) (hx : Passes CX X E)
    (ht : eval (.Call (.Attribute o m apos) [] [] pos) X.env = (do
      let ov ← eval o X.env
      standAt apos.atName
      let (f, first) ← holding [ov] (getMethod ov m pl)
      callWith pos f first (backTo pos (starEach [] X.env)) (backToKw pos (keywordEach [] X.env))) := by rfl) :
    PE X (.Call (.Attribute o m apos) [] [] pos) (tMethG C m sp E ta tNil) := by
  constructor
  intro pins s σ H Q I h
  refine PySem.W.methodCall_KW (pl := pl) (thn (he.run pins s σ H _ I h) fun u s1 got => ?_) ht
  obtain ⟨x, H1, I1, rx, a, dx, fs, rfl, ea, l, q⟩ := got
  obtain rfl : u = Value.ref a := rx
  refine getmeth_ok I1 ea c hm l ?_
  exact PySem.W.callWith_K0 (first := [.ref a]) I1.kIn hm.kp (run_fnG (us := [.ref a]) (vs := [.ref a]) F hr hb hx I1 (.cons rfl .nil) q)
end

/-! ### promises by data -/
/-- an exception by data: its class, its fields -/
abbrev DX := Addr → List (Str × D) → AH → Prop
abbrev DSp := List D → AH → DK → DX → Prop
def LSp (K : PySem.W.Frag) (sp : DSp) : Sp := fun vs H Q E => ∃ ds A Qd Ed, ARel K H A ∧ RepL K H ds vs ∧ sp ds A Qd Ed ∧
  (∀ d A' v H', Qd d A' → TExt H H' → ARel K H' A' → Rep K H' d v → Q v H') ∧
  (∀ C fs A' dx vs' H', Ed C fs A' → TExt H H' → ARel K H' A' → H' dx = some (.xd vs') → RepF K H' fs vs' → E (.ref C) (some dx) H')
/-- a def of the module that lets no exception out -/
def Cal (P : Program) (w : World) (K : PySem.W.Frag) (mg : Str → Option Value) (base : Heap) (x : Str) (k : Nat) (sp : DSp) : Prop :=
  ∃ f fd ps, FnG P w K mg base CX0 k f fd ps (LSp K sp) ∧ mg x = some (.ref f) ∧ PySem.W.keepIn K (.ref f) = true ∧ Binds K fd ps []
/-- a method of the class at C -/
def CalM (P : Program) (w : World) (K : PySem.W.Frag) (mg : Str → Option Value) (base : Heap) (C : Addr) (m : Str) (k : Nat) (sp : DSp) : Prop :=
  ∃ f fd ps, FnG P w K mg base CX0 k f fd ps (LSp K sp) ∧ Meth K C m f ∧ Binds K fd ps []
section
variable {X : Cx} {k : Nat} {sp : DSp} {x m : Str} {p pos apos : Pos} {e o : Expr} {es : List Expr} {tr : DTA} {te : DTE} {C : Addr}
def dCall (sp : DSp) (tr : DTA) : DTE := fun ds A Q => tr ds A fun xs A1 => sp xs A1 Q fun _ _ _ => False
theorem LE.call {K : PySem.W.Frag} {σ : L2.St} {H : Hp} {Q : VK} (h : LE K (dCall sp tr) σ H Q) : tCallG (LSp K sp) E0 (LA K tr) σ H Q := by
  obtain ⟨ds, A, Qd, S, h, k⟩ := h
  exact ⟨ds, A, _, S, h, fun xs A1 vs H1 h1 e1 o1 r1 => ⟨xs, A1, Qd, _, o1, r1, h1, fun d A' v H' q e2 o2 r2 => k d A' v H' q (e1.trans e2) o2 r2, fun _ _ _ _ _ _ z => False.elim z⟩⟩
theorem q_call (F : Cal X.prog X.w X.K X.mg X.base x k sp) (hr : RoomG k X.A) (hg : Gl X x) (ha : QA X (e :: es) tr) (hdb : (x == ("__debug__" : Str)) = false := by decide)
    (he : starEach (e :: es) X.env = (false, eval e X.env) :: starEach es X.env := by rfl) (hpl : (backTo pos (starEach es X.env)).any (·.1) = false := by rfl) : QE X (.Call (.Name x p) (e :: es) [] pos) (dCall sp tr) := by
  obtain ⟨f, fd, ps, G, hm, hk, hb⟩ := F
  exact PE.imp (pe_callG G hr hg hm hk hb pass0 ha hdb he hpl) fun _ _ _ => LE.call
theorem q_call0 (F : Cal X.prog X.w X.K X.mg X.base x k sp) (hr : RoomG k X.A) (hg : Gl X x) (hdb : (x == ("__debug__" : Str)) = false := by decide) : QE X (.Call (.Name x p) [] [] pos) (dCall sp dNil) := by
  obtain ⟨f, fd, ps, G, hm, hk, hb⟩ := F
  refine PE.imp (pe_callG0 G hr hg hm hk hb pass0 hdb) fun σ H Q h => ?_
  obtain ⟨ds, A, Qd, S, h, k⟩ := h
  exact ⟨[], A, Qd, _, S.obj, rfl, h, k, fun _ _ _ _ _ _ z => False.elim z⟩

/-- a def of the text and its body: the derivation first, then its reading -/
theorem fn_of {P : Program} {w : World} {K : PySem.W.Frag} {mg : Str → Option Value} {base : Heap} {qual : Str} {params : Arguments} {body : List Stmt} {scope : Scope} {f : Addr} {fd : FuncData} {N ps : List Str} {t : DTS}
    (F : FunD K x qual params body scope [] [] f fd) (hm : mg x = some (.ref f)) (S : FnScope N ps scope)
    (hb : ∀ (oc : Value) (od : Option Addr) (dV kV doc pm : Value) (an : Option Addr) (cdv ct : Value) (us : List Value), us.length = ps.length → bindArgs (PySem.W.fnOf x qual params body scope .none kV doc pm an cdv ct) ⟨us, []⟩ = pure (ps.zip us))
    (len : ∀ ds A Q E, sp ds A Q E → ds.length = ps.length)
    (hd : ∀ (cdv : Value) (A : Around) (outer : List Env) (s : Shared) (H : Hp), RoomG k (A.deeper (envOfC qual scope s.heap.objs.size f cdv)) → QSs (cxOf CX0 P w K mg base N qual scope f cdv A outer s H E0).nox body t)
    (hr : ∀ ds A Q E, sp ds A Q E → t { nx := fun _ A' => Q .non A', rt := Q } (ds.map some ++ List.replicate (N.length - ds.length) none) A) : FnG P w K mg base CX0 (k + 1) f fd ps (LSp K sp) := by
  refine fnG_of F S (fun vs H Q E ⟨ds, A, Qd, Ed, o, r, h, _⟩ => by rw [r.length]; exact len _ _ _ _ h) ?_
  rintro cdv A outer s H vs Q E room ⟨ds, A0, Qd, Ed, o, r, h, kq, _⟩
  refine ⟨_, PSs.nox (X := cxOf CX0 P w K mg base N qual scope f cdv A outer s H E) (hd cdv A outer s H room), ?_⟩
  refine ⟨ds.map some ++ List.replicate (N.length - ds.length) none, A0, { nx := fun _ A' => Qd .non A', rt := Qd }, ⟨?_, ?_, o⟩, hr ds A0 Qd Ed h, ?_, ?_, ?_, ?_⟩
  · unfold L2.start
    rw [List.length_append, List.length_append, List.length_map, List.length_map, List.length_replicate, List.length_replicate, r.length]
  · intro i d hi
    unfold L2.start
    by_cases hl : i < ds.length
    · rw [List.getElem?_append_left (by simpa using hl), List.getElem?_map] at hi
      cases q : ds[i]? with
      | none => rw [q] at hi; cases hi
      | some z =>
        rw [q] at hi
        cases hi
        obtain ⟨v, h1, h2⟩ := r.get q
        exact ⟨v, by rw [List.getElem?_append_left (by rw [List.length_map, r.length]; exact hl), List.getElem?_map, h1]; rfl, h2⟩
    · rw [List.getElem?_append_right (by simpa using hl), List.getElem?_replicate] at hi
      split at hi <;> cases hi
  · exact fun ds' A' σ' H' q e S' => kq .non A' .non H' q e S'.obj rfl
  · exact fun d A' v H' q e o' r' => kq d A' v H' q e o' r'
  · exact fun _ _ _ _ z => False.elim z
  · exact fun _ _ _ _ z => False.elim z
theorem cal_of {P : Program} {w : World} {K : PySem.W.Frag} {mg : Str → Option Value} {base : Heap} {qual : Str} {params : Arguments} {body : List Stmt} {scope : Scope} {f : Addr} {fd : FuncData} {N ps : List Str} {t : DTS}
    (F : FunD K x qual params body scope [] [] f fd) (hm : mg x = some (.ref f)) (S : FnScope N ps scope)
    (hb : ∀ (oc : Value) (od : Option Addr) (dV kV doc pm : Value) (an : Option Addr) (cdv ct : Value) (us : List Value), us.length = ps.length → bindArgs (PySem.W.fnOf x qual params body scope .none kV doc pm an cdv ct) ⟨us, []⟩ = pure (ps.zip us))
    (len : ∀ ds A Q E, sp ds A Q E → ds.length = ps.length)
    (hd : ∀ (cdv : Value) (A : Around) (outer : List Env) (s : Shared) (H : Hp), RoomG k (A.deeper (envOfC qual scope s.heap.objs.size f cdv)) → QSs (cxOf CX0 P w K mg base N qual scope f cdv A outer s H E0).nox body t)
    (hr : ∀ ds A Q E, sp ds A Q E → t { nx := fun _ A' => Q .non A', rt := Q } (ds.map some ++ List.replicate (N.length - ds.length) none) A) : Cal P w K mg base x (k + 1) sp := by
  have hbind : Binds K fd ps [] := F.bindsN (ps := ps) fun kV doc pm an cdv ct us hl => hb .none none .none kV doc pm an cdv ct us hl
  exact ⟨f, fd, ps, fn_of F hm S hb len hd hr, hm, F.kp, hbind⟩
end

/-! ### the law's own def, called by the claim -/
theorem entryG {P : Program} {w : World} {K : PySem.W.Frag} {mg mb : Str → Option Value} {k : Nat} {fa a : Addr} {fd : FuncData} {x : Str} {sp : Sp} {s : Shared} {vs : List Value} {ns : List Int}
    (within : K.In s.heap) (names : s.heap.Ns mainGlobals mg) (blt : s.heap.Ns builtinsNs mb) (boot : ∀ x : Str, x ≠ "__name__" → mb x = bootBuiltins x) (noLim : s.heap.NoLimit) (gens : s.gens = #[])
    (obj : s.heap.get? a = some { cls := .type "list", data := .seq vs.toArray }) (areI : IntsAre vs ns) (few : ns.length ≤ sizeLine) (room : Room k callerA)
    (F : ∀ base : Heap, K.In base → base.Ns mainGlobals mg → FnG P w K mg base CX0 k fa fd [x] sp) (bind : ∀ (s : Shared) (u : Value), BindsTo s fd ⟨[u], []⟩ [(x, u)])
    (promise : ∀ H : Hp, (K.lookup a = none → ∃ o, H a = some (.frz o (.lst (ns.map V.int)))) → SqL K H a (ns.map V.int) → sp [.ref a] H (fun v _ => v = .bl true) fun _ _ _ => False) :
    codeAny (model P w) callerA (.call (.ref fa) ⟨[.ref a], []⟩) (fun r s' => r = .ok (.ret (.bool true)) ∧ OldK s.heap s'.heap ∧ s'.os = s.os ∧ AllBare s'.gens) s := by
  have rel := vals_ints areI
  let ob : Obj := { cls := .type "list", data := .seq vs.toArray }
  let H : Hp := fun b => if b = a ∧ K.lookup a = none then some (.frz ob (.lst (ns.map V.int))) else none
  have atA : ∀ b u, H b = some u → b = a ∧ K.lookup a = none ∧ u = .frz ob (.lst (ns.map V.int)) := fun b u e => by
    by_cases c : b = a ∧ K.lookup a = none
    · have e' := (if_pos c).symm.trans e
      exact ⟨c.1, c.2, (Option.some.inj e').symm⟩
    · have e' := (if_neg c).symm.trans e
      cases e'
  have held : HOk P w H s.heap := fun b u e => by
    obtain ⟨rfl, _, rfl⟩ := atA b u e
    exact ⟨obj, by rw [List.length_map]; exact few, vs, _, rel, obj⟩
  have seen : SqL K H a (ns.map V.int) := by
    cases q : K.lookup a with
    | none => exact .inl (.inr ⟨ob, if_pos ⟨rfl, q⟩⟩)
    | some o =>
      have e := within a o q
      rw [obj] at e
      cases e
      exact .inr ⟨_, vs.toArray, _, q, rfl, rfl, rfl, by rw [List.size_toArray, areI.length]; exact few, by simpa using rel⟩
  have frozen : K.lookup a = none → ∃ o, H a = some (.frz o (.lst (ns.map V.int))) := fun q => ⟨ob, if_pos ⟨rfl, q⟩⟩
  -- the heap without the script's list, where that is tracked
  let base := hidT s.heap H
  have keepN : ∀ {b : Addr} {m : Str → Option Value}, s.heap.Ns b m → base.Ns b m := by
    rintro b m ⟨o, es, ep, e, d, r⟩
    refine ⟨o, es, ep, hidT_get e ?_, d, r⟩
    cases q : H b with
    | none => rfl
    | some u =>
      obtain ⟨rfl, _, _⟩ := atA b u q
      rw [obj] at e
      cases e
      exact nomatch (show Data.seq vs.toArray _ = Data.dict es ep from d)
  have inB : K.In base := fun b o e => hidT_get (within b o e) (by
    cases q : H b with
    | none => rfl
    | some u =>
      obtain ⟨rfl, z, _⟩ := atA b u q
      rw [z] at e
      cases e)
  have env : Env0 P w K mg base callerA [] s H := ⟨rfl, ⟨inB, keepN names, ⟨mb, keepN blt, boot⟩, noLim.imp fun mc h => ⟨keepN h.1, h.2⟩⟩, fun b o e => of_hidT e, Nat.le_of_eq (hidT_size _ _), trivial, fun _ z => (List.not_mem_nil z).elim, held, .of_eq gens⟩
  refine codeAny_mono ((F base inB (keepN names)).run callerA [] s H ⟨[.ref a], []⟩ [.ref a] [.ref a] _ _ ⟨room, rfl⟩ env (bind s (.ref a)) (.cons rfl .nil) (promise H frozen seen)) fun r s' got => ?_
  match r, got with
  | .error e, got => exact False.elim got
  | .ok .next, got => exact False.elim got
  | .ok .brk, got => exact False.elim got
  | .ok .cont, got => exact False.elim got
  | .ok (.ret u), ⟨v, H', os, bare, un, held', ru, q⟩ =>
    subst q
    obtain rfl : u = Value.bool true := ru
    refine ⟨rfl, OldK.of_keep fun b o e => ?_, os, bare⟩
    cases q : H b with
    | none => exact un.keep b o e q (fun z => (List.not_mem_nil z).elim) (fun z => (List.not_mem_nil z).elim)
    | some u =>
      obtain ⟨rfl, _, rfl⟩ := atA b u q
      have z := un.frzs b ob _ q
      rw [obj] at e
      cases e
      exact (held' b _ z).1
/-- the end of a law, from a head by facts -/
theorem lawG {l : PySem.W.OpenLaw} {n k : Nat} {q : Program} {loose : List Str} {XP : (Str → Option Value) → Heap → Prop} {YP : World → Heap → Prop} {d : DefRec} {x : Str}
    (hn : l.most = some n) (hn2 : n ≤ sizeLine) (hdf : d.params.defaults = []) (hr : Room k callerA)
    (F : ∀ (w : World) (mg : Str → Option Value) (fa : Addr) (h : Heap), YP w h → h.Ns mainGlobals mg → mg d.name = some (.ref fa) →
      ∃ (K : PySem.W.Frag) (fd : FuncData) (sp : Sp), K.In h ∧ (∀ (s : Shared) (u : Value), BindsTo s fd ⟨[u], []⟩ [(x, u)]) ∧
        (∀ (H : Hp) (a : Addr) (ns : List Int), ns.length ≤ n → (K.lookup a = none → ∃ o, H a = some (.frz o (.lst (ns.map V.int)))) → SqL K H a (ns.map V.int) → sp [.ref a] H (fun v _ => v = .bl true) fun _ _ _ => False) ∧
        ∀ base : Heap, K.In base → base.Ns mainGlobals mg → FnG l.prog w K mg base CX0 k fa fd [x] sp) :
    PySem.W.WalkO q loose XP YP l.row.toRowW d [] (fun f vs => PySem.call f vs) := by
  refine Att.attach_call hn hdf fun w s₀ s₁ mg mb fa o pm cd doc a vs ns G Y ho hd hcd hmg hobj hints hlen hg => ?_
  obtain ⟨K, fd, sp, KX, hb, hsp, hF⟩ := F w mg fa _ Y G.T.g hmg
  exact entryG KX G.T.g G.T.b G.T.builtins G.T.nolimit hg hobj hints (Nat.le_trans hlen hn2) hr hF hb fun H e hS => hsp H a ns hlen e hS
end PD

/-! PdOps: operators, comparisons, subscripts, calls of builtins, by data -/
namespace PD
open PySem PySem.Spec PyProof.Rows L2

/-! ### data as the model's own data -/
mutual
def D.py : D → PyData
  | .non => .none
  | .bl b => .bool b
  | .int i => .int i
  | .str x => .str x
  | .tup xs => .tuple (D.pys xs)
  | .ref _ => .none
  | .kls _ => .none
def D.pys : List D → List PyData
  | [] => []
  | d :: ds => d.py :: D.pys ds
end
mutual
def D.pure : D → Bool
  | .ref _ => false
  | .kls _ => false
  | .tup xs => D.pures xs
  | _ => true
def D.pures : List D → Bool
  | [] => true
  | d :: ds => d.pure && D.pures ds
end
mutual
inductive PyR (A : AH) : D → PyData → Prop
  | non : PyR A .non .none
  | bl (b : Bool) : PyR A (.bl b) (.bool b)
  | int (i : Int) : PyR A (.int i) (.int i)
  | str (x : Str) : PyR A (.str x) (.str x)
  | tup {xs : List D} {ps : List PyData} : PyRL A xs ps → PyR A (.tup xs) (.tuple ps)
  | lst {a : Addr} {xs : List D} {ps : List PyData} : A a = some (.lst xs) → PyRL A xs ps → PyR A (.ref a) (.list ps)
  | rls {a : Addr} {xs : List D} {ps : List PyData} : A a = some (.rls xs) → PyRL A xs ps → PyR A (.ref a) (.list ps)
inductive PyRL (A : AH) : List D → List PyData → Prop
  | nil : PyRL A [] []
  | cons {d : D} {ds : List D} {p : PyData} {ps : List PyData} : PyR A d p → PyRL A ds ps → PyRL A (d :: ds) (p :: ps)
end
mutual
theorem PyR.of_pure (A : AH) : ∀ (d : D), d.pure = true → PyR A d d.py
  | .non, _ => .non
  | .bl b, _ => .bl b
  | .int i, _ => .int i
  | .str x, _ => .str x
  | .tup xs, h => .tup (PyRL.of_pure A xs h)
  | .ref _, h => nomatch h
theorem PyRL.of_pure (A : AH) : ∀ (ds : List D), D.pures ds = true → PyRL A ds (D.pys ds)
  | [], _ => .nil
  | d :: ds, h => .cons (PyR.of_pure A d (Bool.and_eq_true_iff.mp h).1) (PyRL.of_pure A ds (Bool.and_eq_true_iff.mp h).2)
end
section
variable {K : PySem.W.Frag} {A : AH} {H : Hp}
mutual
theorem PyR.dp (o : ARel K H A) : ∀ (p : PyData) (d : D) (v : V), PyR A d p → Rep K H d v → Dp K H v p
  | .none, _, _, .non, r => by rw [show _ = V.non from r]; exact .non
  | .bool b, _, _, .bl _, r => by rw [show _ = V.bl b from r]; exact .bl b
  | .int i, _, _, .int _, r => by rw [show _ = V.int i from r]; exact .int i
  | .str x, _, _, .str _, r => by rw [show _ = V.str x from r]; exact .str x
  | .tuple ps, .tup xs, _, .tup h, ⟨a, vs, e, s, r⟩ => by rw [e]; exact .tup s (PyRL.dp o ps xs vs h r)
  | .list ps, .ref a, _, .lst (xs := xs) e h, r => by
    obtain ⟨vs, s, q⟩ := o _ _ e
    rw [show _ = V.ref a from r]
    exact .lst (SqL.of s) (PyRL.dp o ps xs vs h q)
  | .list ps, .ref a, _, .rls (xs := xs) e h, r => by
    obtain ⟨ob, vs, s, q⟩ := o _ _ e
    rw [show _ = V.ref a from r]
    exact .lst (.inl (.inr ⟨ob, s⟩)) (PyRL.dp o ps xs vs h q)
theorem PyRL.dp (o : ARel K H A) : ∀ (ps : List PyData) (ds : List D) (vs : List V), PyRL A ds ps → RepL K H ds vs → DpAll K H vs ps
  | [], _, _, .nil, r => by rw [show _ = [] from r]; exact .nil
  | p :: ps, _, _, .cons h1 h2, ⟨v, r, e, r1, r2⟩ => by rw [e]; exact .cons (PyR.dp o p _ v h1 r1) (PyRL.dp o ps _ r h2 r2)
end
end

/-! ### what is a row of things -/
def seqA : Option AO → Option (List D)
  | some (.lst xs) => some xs
  | some (.rls xs) => some xs
  | _ => none
def seqOf (A : AH) : D → Option (List D)
  | .tup xs => some xs
  | .ref a => seqA (A a)
  | _ => none
section
variable {K : PySem.W.Frag} {A : AH} {H : Hp} {d : D} {v : V} {xs : List D}
theorem seqA_of {a : Addr} (o : ARel K H A) (h : seqA (A a) = some xs) : ∃ vs, SqL K H a vs ∧ RepL K H xs vs := by
  cases e : A a with
  | none => rw [e] at h; cases h
  | some u =>
    rw [e] at h
    have q := o a u e
    cases u with
    | lst ys =>
      cases h
      obtain ⟨vs, s, r⟩ := q
      exact ⟨vs, SqL.of s, r⟩
    | rls ys =>
      cases h
      obtain ⟨ob, vs, s, r⟩ := q
      exact ⟨vs, .inl (.inr ⟨ob, s⟩), r⟩
    | _ => cases h
theorem seq_of (o : ARel K H A) (r : Rep K H d v) (h : seqOf A d = some xs) : ∃ p vs, v = .ref p ∧ RepL K H xs vs ∧ (SqL K H p vs ∨ SqT K H p vs) := by
  cases d with
  | tup ys =>
    cases h
    obtain ⟨p, vs, e, s, q⟩ := r
    exact ⟨p, vs, e, q, .inr s⟩
  | ref a =>
    obtain ⟨vs, s, q⟩ := seqA_of o (show seqA (A a) = some xs from h)
    exact ⟨a, vs, r, q, .inl s⟩
  | _ => cases h
end

/-! ### operators -/
section
variable {X : Cx}
def opAdd : DR2 := fun x y A Q => match x, y with
  | .int i, .int j => Q (.int (i + j)) A
  | .str i, .str j => i.length + j.length ≤ sizeLine ∧ Q (.str (i ++ j)) A
  | .tup i, .tup j => i.length + j.length ≤ sizeLine ∧ Q (.tup (i ++ j)) A
  | .ref a, .ref b => match A a, A b with
    | some (.lst i), some (.lst j) => i.length + j.length ≤ sizeLine ∧ ∀ p, A p = none → Q (.ref p) (A.upd p (.lst (i ++ j)))
    | _, _ => False
  | _, _ => False
theorem nilV {K : PySem.W.Frag} {H : Hp} {ds : List D} {vs : List V} (r : RepL K H ds vs) (h : vs = []) : ds = [] := by
  have z := r.length
  rw [h] at z
  exact List.length_eq_zero_iff.mp z.symm
theorem oq_add : OpQ X (binaryOp .Add) opAdd := by
  rintro pins s σ H x y v u Q I rx ry ⟨dx, dy, A, Qd, o, r1, r2, h, k⟩
  cases dx with
  | int i =>
    cases dy with
    | int j => exact op_add pins s σ H x y v u Q I rx ry ⟨_, _, r1, r2, k _ A _ H h TExt.refl o rfl⟩
    | _ => exact False.elim h
  | str i =>
    cases dy with
    | str j => exact op_add_str pins s σ H x y v u Q I rx ry ⟨_, _, r1, r2, h.1, k _ A _ H h.2 TExt.refl o rfl⟩
    | _ => exact False.elim h
  | tup i =>
    cases dy with
    | tup j =>
      obtain ⟨p, vs, rfl, s1, q1⟩ := r1
      obtain ⟨p2, us, rfl, s2, q2⟩ := r2
      have h : i.length + j.length ≤ sizeLine ∧ Qd (.tup (i ++ j)) A := h
      refine op_catA pins s σ H _ _ v u Q I rx ry ⟨p, p2, vs, us, rfl, rfl, s1, s2, by rw [q1.length, q2.length]; exact h.1, fun hv => ?_, fun _ hu => ?_, fun _ _ q hq => ?_⟩
      · have hi := nilV q1 hv
        subst hi
        exact k _ A _ H h.2 TExt.refl o ⟨p2, us, rfl, s2, q2⟩
      · have hj := nilV q2 hu
        subst hj
        rw [List.append_nil] at h
        exact k _ A _ H h.2 TExt.refl o ⟨p, vs, rfl, s1, q1⟩
      · exact k _ A _ _ h.2 (TExt.new hq) (o.newT hq) ⟨q, vs ++ us, rfl, SqT.of L2.upd_same, (RepL.mono (TExt.new hq) _ _ q1).append (RepL.mono (TExt.new hq) _ _ q2)⟩
    | _ => exact False.elim h
  | ref a =>
    cases dy with
    | ref b =>
      have h : (match A a, A b with
        | some (.lst i), some (.lst j) => i.length + j.length ≤ sizeLine ∧ ∀ p, A p = none → Qd (.ref p) (A.upd p (.lst (i ++ j)))
        | _, _ => False) := h
      split at h
      · rename_i i j e1 e2
        obtain ⟨vs, s1, q1⟩ := o _ _ e1
        obtain ⟨us, s2, q2⟩ := o _ _ e2
        refine op_cat pins s σ H x y v u Q I rx ry ⟨a, b, vs, us, r1, r2, s1, s2, by rw [q1.length, q2.length]; exact h.1, fun p hp => ?_⟩
        exact k _ _ _ _ (h.2 p (o.free hp)) (TExt.new hp) (o.new hp ⟨_, L2.upd_same, (RepL.mono (TExt.new hp) _ _ q1).append (RepL.mono (TExt.new hp) _ _ q2)⟩) rfl
      · exact h.elim
    | _ => exact False.elim h
  | _ => exact False.elim h
/-- two ints, under a condition -/
def opI (C : Int → Int → Prop) (g : Int → Int → D) : DR2 := fun x y A Q => match x, y with
  | .int i, .int j => C i j ∧ Q (g i j) A
  | _, _ => False
theorem oq_I {f : Value → Value → Sem Value} {C : Int → Int → Prop} {g : Int → Int → V} {gd : Int → Int → D} (h : OpR X f (rI C g)) (e : ∀ i j H, Rep X.K H (gd i j) (g i j)) : OpQ X f (opI C gd) := by
  rintro pins s σ H x y v u Q I rx ry ⟨dx, dy, A, Qd, o, r1, r2, q, k⟩
  unfold opI at q
  split at q
  · exact h pins s σ H x y v u Q I rx ry ⟨_, _, r1, r2, q.1, k _ A _ H q.2 TExt.refl o (e _ _ H)⟩
  · exact q.elim
def opI0 (g : Int → Int → D) : DR2 := fun x y A Q => match x, y with
  | .int i, .int j => Q (g i j) A
  | _, _ => False
theorem oq_I0 {f : Value → Value → Sem Value} {g : Int → Int → V} {gd : Int → Int → D} (h : OpR X f (rI0 g)) (e : ∀ i j H, Rep X.K H (gd i j) (g i j)) : OpQ X f (opI0 gd) := by
  rintro pins s σ H x y v u Q I rx ry ⟨dx, dy, A, Qd, o, r1, r2, q, k⟩
  unfold opI0 at q
  split at q
  · exact h pins s σ H x y v u Q I rx ry ⟨_, _, r1, r2, k _ A _ H q TExt.refl o (e _ _ H)⟩
  · exact q.elim
theorem oq_sub : OpQ X (binaryOp .Sub) (opI0 fun i j => .int (i - j)) := oq_I0 op_sub fun _ _ _ => rfl
theorem oq_fdiv : OpQ X (binaryOp .FloorDiv) (opI CDiv fun i j => .int (i / j)) := oq_I op_fdiv fun _ _ _ => rfl
theorem oq_mod : OpQ X (binaryOp .Mod) (opI (fun _ j => 0 < j) fun i j => .int (i % j)) := oq_I op_mod fun _ _ _ => rfl
theorem oq_pow : OpQ X (binaryOp .Pow) (opI CPow fun i j => .int (i ^ j.toNat)) := oq_I op_pow fun _ _ _ => rfl
theorem oq_shl : OpQ X (binaryOp .LShift) (opI CPow fun i j => .int (i * 2 ^ j.toNat)) := oq_I op_shl fun _ _ _ => rfl
theorem oq_or : OpQ X (binaryOp .BitOr) (opI0 fun i j => .int (Builtin.bitOr i j)) := oq_I0 op_or fun _ _ _ => rfl
/-- a text said again and again -/
def repS (x : Str) (n : Int) : Str := ⟨((List.replicate n.toNat x.cps.toList).flatten).toArray⟩
def opMul : DR2 := fun x y A Q => match x, y with
  | .int i, .int j => CMul i j ∧ Q (.int (i * j)) A
  | .ref a, .int j => match A a with
    | some (.lst i) => (-(2 ^ 63) ≤ j ∧ j < 2 ^ 63 ∧ i.length * j.toNat ≤ sizeLine) ∧ ∀ p, A p = none → Q (.ref p) (A.upd p (.lst (List.replicate j.toNat i).flatten))
    | _ => False
  | .str x, .int j => (2 ≤ j ∧ j ≤ 1000 ∧ 1 ≤ x.length ∧ x.length ≤ 1000) ∧ Q (.str (repS x j)) A
  | _, _ => False
theorem fold_cps (c : Array Nat) : ∀ (n : Nat) (acc : Array Nat), (List.replicate n c).foldl (· ++ ·) acc = (acc.toList ++ (List.replicate n c.toList).flatten).toArray
  | 0, acc => by simp
  | n + 1, acc => by
    rw [List.replicate_succ, List.foldl_cons, fold_cps c n (acc ++ c), List.replicate_succ, List.flatten_cons]
    simp [List.append_assoc]
theorem flat_rep {K : PySem.W.Frag} {H : Hp} {ds : List D} {vs : List V} (r : RepL K H ds vs) : ∀ n : Nat, RepL K H (List.replicate n ds).flatten (List.replicate n vs).flatten
  | 0 => rfl
  | n + 1 => by
    rw [List.replicate_succ, List.replicate_succ, List.flatten_cons, List.flatten_cons]
    exact r.append (flat_rep r n)
theorem oq_mul : OpQ X (binaryOp .Mult) opMul := by
  rintro pins s σ H x y v u Q I rx ry ⟨dx, dy, A, Qd, o, r1, r2, h, k⟩
  unfold opMul at h
  split at h
  · exact op_mul pins s σ H x y v u Q I rx ry ⟨_, _, r1, r2, h.1, k _ A _ H h.2 TExt.refl o rfl⟩
  · rename_i a j
    split at h
    · rename_i i e
      obtain ⟨vs, s1, q1⟩ := o _ _ e
      obtain ⟨⟨h1, h2, h3⟩, h4⟩ := h
      refine op_rep pins s σ H x y v u Q I rx ry ⟨a, j, vs, r1, r2, s1, h1, h2, by rw [q1.length]; exact h3, fun p hp => ?_⟩
      exact k _ _ _ _ (h4 p (o.free hp)) (TExt.new hp) (o.new hp ⟨_, L2.upd_same, flat_rep (RepL.mono (TExt.new hp) _ _ q1) _⟩) rfl
    · exact h.elim
  · rename_i z j
    obtain ⟨⟨h1, h2, h3, h4⟩, h5⟩ := h
    rw [show x = V.str z from r1] at rx
    rw [show y = V.int j from r2] at ry
    obtain ⟨t, rfl⟩ := rx
    obtain ⟨t', rfl⟩ := ry
    have hb : z.length * j.toNat ≤ 1000000 := by
      have e1 : j.toNat ≤ 1000 := by omega
      calc z.length * j.toNat ≤ 1000 * 1000 := Nat.mul_le_mul h4 e1
        _ = 1000000 := by decide
    have hs : (1000000 : Nat) ≤ sizeLine := by decide
    refine PySem.P.mul_str (by rw [decide_eq_false (by omega), decide_eq_false (by omega)]; rfl) (fun _ _ hc => ?_) (fun _ _ => ?_) ?_
    · have e2 : (1000 : Int) ≤ (2 ^ 63 - 1) / j := by
        rw [Int.le_ediv_iff_mul_le (by omega)]
        have : 1000 * j ≤ 1000 * 1000 := Int.mul_le_mul_of_nonneg_left h2 (by decide)
        omega
      omega
    · show decide (sizeLine < z.length * j.toNat) = false
      exact decide_eq_false (by omega)
    · rw [if_neg (by omega), if_neg (by
        have e3 : (j == 1) = false := by
          apply beq_false_of_ne
          omega
        have e4 : (z.length == 0) = false := by
          apply beq_false_of_ne
          omega
        rw [e3, e4]
        decide)]
      have e5 : (⟨(List.replicate j.toNat z.cps).foldl (· ++ ·) #[]⟩ : Str) = repS z j := by
        rw [fold_cps]
        rfl
      rw [e5]
      have e6 : (repS z j).length = z.length * j.toNat := by
        unfold repS
        show (List.replicate j.toNat z.cps.toList).flatten.toArray.size = z.cps.size * j.toNat
        rw [List.size_toArray, List.length_flatten, List.map_replicate, List.sum_replicate_nat, Array.length_toList, Nat.mul_comm]
      exact ⟨by rw [e6]; omega, ⟨.str (repS z j), H, I.tok _, ⟨_, rfl⟩, k _ A _ H h5 TExt.refl o rfl⟩⟩
  · exact h.elim
def unNeg : DR1 := fun x A Q => match x with
  | .int i => Q (.int (-i)) A
  | _ => False
theorem uq_neg : UnQ X (unaryOp .USub) unNeg := by
  rintro pins s σ H x v Q I rx ⟨dx, A, Qd, o, r1, h, k⟩
  unfold unNeg at h
  split at h
  · exact un_neg pins s σ H x v Q I rx ⟨_, r1, k _ A _ H h TExt.refl o rfl⟩
  · exact h.elim

/-! ### comparisons -/
def scalD : D → D → Bool
  | .non, .non => true | .non, .int _ => true | .int _, .non => true | .non, .bl _ => true | .bl _, .non => true | .non, .str _ => true | .str _, .non => true
  | .int _, .int _ => true | .bl _, .bl _ => true | .str _, .str _ => true
  | .int _, .str _ => true | .str _, .int _ => true | .bl _, .str _ => true | .str _, .bl _ => true
  | _, _ => false
def sameD : D → D → Bool
  | .non, .non => true
  | .int i, .int j => decide (i = j)
  | .bl i, .bl j => decide (i = j)
  | .str i, .str j => decide (i = j)
  | _, _ => false
def opEqG (f : Bool → Bool) : DR2 := fun x y A Q => if scalD x y = true then Q (.bl (f (sameD x y))) A else
  ∃ p q, PyR A x p ∧ PyR A y q ∧ SeqAt.shaped p = true ∧ SeqAt.shaped q = true ∧ Q (.bl (f (PyData.eqv p q))) A
abbrev opEq : DR2 := opEqG id
abbrev opNe : DR2 := opEqG not
theorem scal_of {K : PySem.W.Frag} {H : Hp} {a b : D} {x y : V} (r1 : Rep K H a x) (r2 : Rep K H b y) (h : scalD a b = true) : scal x y = true ∧ decide (x = y) = sameD a b := by
  cases a <;> cases b <;> first
    | (cases h; done)
    | (rw [show x = _ from r1, show y = _ from r2]; refine ⟨rfl, ?_⟩; first | rfl | (unfold sameD; simp))
theorem oq_eq (hu : X.A.units + 64 < cLine) : OpQ X (compareOp .Eq) opEq := by
  rintro pins s σ H x y v u Q I rx ry ⟨dx, dy, A, Qd, o, r1, r2, h, k⟩
  unfold opEq opEqG at h
  by_cases c : scalD dx dy = true
  · rw [if_pos c] at h
    obtain ⟨e1, e2⟩ := scal_of r1 r2 c
    exact op_eq pins s σ H x y v u Q I rx ry ⟨e1, by rw [e2]; exact k _ A _ H h TExt.refl o rfl⟩
  · rw [if_neg c] at h
    obtain ⟨p, q, h1, h2, h3, h4, h5⟩ := h
    exact op_eqD hu pins s σ H x y v u Q I rx ry ⟨p, q, PyR.dp o p dx x h1 r1, PyR.dp o q dy y h2 r2, h3, h4, k _ A _ H h5 TExt.refl o rfl⟩
theorem oq_ne (hu : X.A.units + 64 < cLine) : OpQ X (compareOp .NotEq) opNe := by
  rintro pins s σ H x y v u Q I rx ry ⟨dx, dy, A, Qd, o, r1, r2, h, k⟩
  unfold opNe opEqG at h
  by_cases c : scalD dx dy = true
  · rw [if_pos c] at h
    obtain ⟨e1, e2⟩ := scal_of r1 r2 c
    exact op_ne pins s σ H x y v u Q I rx ry ⟨e1, by rw [e2]; exact k _ A _ H h TExt.refl o rfl⟩
  · rw [if_neg c] at h
    obtain ⟨p, q, h1, h2, h3, h4, h5⟩ := h
    exact op_neD hu pins s σ H x y v u Q I rx ry ⟨p, q, PyR.dp o p dx x h1 r1, PyR.dp o q dy y h2 r2, h3, h4, k _ A _ H h5 TExt.refl o rfl⟩
def opLt : DR2 := fun x y A Q => match x, y with
  | .int i, .int j => Q (.bl (decide (i < j))) A
  | .str i, .str j => Q (.bl (decide (i.cps.toList < j.cps.toList))) A
  | _, _ => False
theorem oq_lt : OpQ X (compareOp .Lt) opLt := by
  rintro pins s σ H x y v u Q I rx ry ⟨dx, dy, A, Qd, o, r1, r2, h, k⟩
  unfold opLt at h
  split at h
  · exact op_lt pins s σ H x y v u Q I rx ry ⟨_, _, r1, r2, k _ A _ H h TExt.refl o rfl⟩
  · exact op_lt_str pins s σ H x y v u Q I rx ry ⟨_, _, r1, r2, k _ A _ H h TExt.refl o rfl⟩
  · exact h.elim
theorem oq_le : OpQ X (compareOp .LtE) (opI0 fun i j => .bl (decide (i ≤ j))) := oq_I0 op_le fun _ _ _ => rfl
theorem oq_gt : OpQ X (compareOp .Gt) (opI0 fun i j => .bl (decide (j < i))) := oq_I0 op_gt fun _ _ _ => rfl
theorem oq_ge : OpQ X (compareOp .GtE) (opI0 fun i j => .bl (decide (j ≤ i))) := oq_I0 op_ge fun _ _ _ => rfl
def isNon : D → Bool
  | .non => true
  | _ => false
def opIsN (f : Bool → Bool) : DR2 := fun x y A Q => match y with
  | .non => Q (.bl (f (isNon x))) A
  | _ => False
theorem isNon_of {K : PySem.W.Frag} {H : Hp} {a : D} {x : V} (r : Rep K H a x) : decide (x = .non) = isNon a := by
  cases a with
  | kls ds =>
    obtain ⟨p, vs, e, _⟩ := r
    rw [e]
    exact decide_eq_false fun z => nomatch z
  | tup ds =>
    obtain ⟨p, vs, e, _⟩ := r
    rw [e]
    exact decide_eq_false fun z => nomatch z
  | _ => rw [show x = _ from r]; first | rfl | exact decide_eq_false fun z => nomatch z
theorem oq_isN : OpQ X (compareOp .Is) (opIsN id) := by
  rintro pins s σ H x y v u Q I rx ry ⟨dx, dy, A, Qd, o, r1, r2, h, k⟩
  unfold opIsN at h
  split at h
  · exact op_isN pins s σ H x y v u Q I rx ry ⟨r2, by rw [isNon_of r1]; exact k _ A _ H h TExt.refl o rfl⟩
  · exact h.elim
theorem oq_notN : OpQ X (compareOp .IsNot) (opIsN not) := by
  rintro pins s σ H x y v u Q I rx ry ⟨dx, dy, A, Qd, o, r1, r2, h, k⟩
  unfold opIsN at h
  split at h
  · exact op_notN pins s σ H x y v u Q I rx ry ⟨r2, by rw [isNon_of r1]; exact k _ A _ H h TExt.refl o rfl⟩
  · exact h.elim
/-- == of flat data -/
def flatD : D → Bool
  | .non | .bl _ | .int _ | .str _ => true
  | _ => false
def eqF : D → D → Bool
  | .non, .non => true
  | .bl a, .bl b => a == b
  | .bl a, .int b => (if a then 1 else 0) == b
  | .int a, .bl b => a == (if b then 1 else 0)
  | .int a, .int b => a == b
  | .str a, .str b => a == b
  | _, _ => false
theorem flat_of {K : PySem.W.Frag} {H : Hp} {a : D} {x : V} (r : Rep K H a x) (h : flatD a = true) : flatV x = true := by
  cases a <;> first
    | (cases h; done)
    | (rw [show x = _ from r]; rfl)
theorem eqF_of {K : PySem.W.Frag} {H : Hp} {a b : D} {x y : V} (r1 : Rep K H a x) (r2 : Rep K H b y) (h1 : flatD a = true) (h2 : flatD b = true) : eqV x y = eqF a b := by
  cases a <;> cases b <;> first
    | (cases h1; done)
    | (cases h2; done)
    | (rw [show x = _ from r1, show y = _ from r2]; rfl)
theorem anyF_of {K : PySem.W.Frag} {H : Hp} {b : D} {y : V} (r2 : Rep K H b y) (h2 : flatD b = true) : ∀ {ds : List D} {vs : List V}, RepL K H ds vs → ds.all flatD = true → vs.all flatV = true ∧ inV y vs = ds.any fun d => eqF d b
  | [], _, r, _ => by rw [show _ = [] from r]; exact ⟨rfl, rfl⟩
  | d :: ds, _, ⟨v, w, e, r, rr⟩, h => by
    rw [List.all_cons, Bool.and_eq_true] at h
    obtain ⟨i1, i2⟩ := anyF_of r2 h2 rr h.2
    rw [e, List.all_cons, flat_of r h.1, i1, List.any_cons]
    refine ⟨rfl, ?_⟩
    unfold inV at i2 ⊢
    rw [List.any_cons, i2, eqF_of r r2 h.1 h2]
def signIn : D → D → Option Bool
  | .str a, .str b => match a.cps.toList with
    | [c] => some (decide (c ∈ b.cps.toList))
    | _ => none
  | _, _ => none
def keyD : D → Option Key
  | .int i => some (.inl i)
  | .str x => some (.inr x)
  | _ => none
/-- what a dict of data has at a key -/
def dgetD : List (Key × D) → Key → Option D
  | [], _ => none
  | (k, d) :: r, x => if k = x then some d else dgetD r x
def opInG (f : Bool → Bool) : DR2 := fun x y A Q => match signIn x y with
  | some b => Q (.bl (f b)) A
  | none => match seqOf A y with
    | some ds => (flatD x = true ∧ ds.all flatD = true) ∧ Q (.bl (f (ds.any fun d => eqF d x))) A
    | none => False
abbrev opIn : DR2 := opInG id
abbrev opNotIn : DR2 := opInG not
theorem sign_of {K : PySem.W.Frag} {H : Hp} {a b : D} {x y : V} {k : Bool} (r1 : Rep K H a x) (r2 : Rep K H b y) (h : signIn a b = some k) : ∃ (c : Nat) (z : Str), x = .str ⟨#[c]⟩ ∧ y = .str z ∧ decide (c ∈ z.cps.toList) = k := by
  unfold signIn at h
  split at h
  · rename_i a b
    split at h
    · rename_i c e
      cases h
      have ea : a = ⟨#[c]⟩ := TL.ext_tl (by rw [show TL.tl a = [c] from e])
      exact ⟨c, b, by rw [show x = _ from r1, ea], r2, rfl⟩
    · cases h
  · cases h
theorem oq_in : OpQ X (compareOp .In) opIn := by
  rintro pins s σ H x y v u Q I rx ry ⟨dx, dy, A, Qd, o, r1, r2, h, k⟩
  unfold opIn opInG at h
  split at h
  · rename_i b e
    obtain ⟨c, z, h1, h2, h3⟩ := sign_of r1 r2 e
    exact op_in_sign pins s σ H x y v u Q I rx ry ⟨c, z, h1, h2, by rw [h3]; exact k _ A _ H h TExt.refl o rfl⟩
  · split at h
    · rename_i ds e
      obtain ⟨p, vs, h1, h2, h3⟩ := seq_of o r2 e
      obtain ⟨i1, i2⟩ := anyF_of r1 h.1.1 h2 h.1.2
      exact op_in_seq pins s σ H x y v u Q I rx ry ⟨p, vs, h1, h3, flat_of r1 h.1.1, i1, by rw [i2]; exact k _ A _ H h.2 TExt.refl o rfl⟩
    · exact h.elim
theorem oq_notIn : OpQ X (compareOp .NotIn) opNotIn := by
  rintro pins s σ H x y v u Q I rx ry ⟨dx, dy, A, Qd, o, r1, r2, h, k⟩
  unfold opNotIn opInG at h
  split at h
  · rename_i b e
    obtain ⟨c, z, h1, h2, h3⟩ := sign_of r1 r2 e
    exact op_notIn_sign pins s σ H x y v u Q I rx ry ⟨c, z, h1, h2, by rw [h3]; exact k _ A _ H h TExt.refl o rfl⟩
  · split at h
    · rename_i ds e
      obtain ⟨p, vs, h1, h2, h3⟩ := seq_of o r2 e
      obtain ⟨i1, i2⟩ := anyF_of r1 h.1.1 h2 h.1.2
      exact op_notIn_seq pins s σ H x y v u Q I rx ry ⟨p, vs, h1, h3, flat_of r1 h.1.1, i1, by rw [i2]; exact k _ A _ H h.2 TExt.refl o rfl⟩
    · exact h.elim
/-- a chain of two comparisons -/
def dChain (r r' : DR2) (ta tb tc : DTE) : DTE := fun ds A Q => ta ds A fun x A1 => tb ds A1 fun y A2 => r x y A2 fun z A3 => match z with
  | .bl true => tc ds A3 fun w A4 => r' y w A4 Q
  | .bl false => Q (.bl false) A3
  | _ => False
theorem LE.chain {K : PySem.W.Frag} {σ : L2.St} {H : Hp} {Q : VK} {r r' : DR2} {ta tb tc : DTE} (h : LE K (dChain r r' ta tb tc) σ H Q) : tChain (LO K r) (LO K r') (LE K ta) (LE K tb) (LE K tc) σ H Q := by
  obtain ⟨ds, A, Qd, S, h, k⟩ := h
  refine ⟨ds, A, _, S, h, fun x A1 v H1 h1 e1 o1 r1 => ⟨ds, A1, _, S.to e1 o1, h1, fun y A2 w H2 h2 e2 o2 r2 => ⟨x, y, A2, _, o2, Rep.mono e2 _ _ r1, r2, h2, fun z A3 zv H3 h3 e3 o3 r3 => ?_⟩⟩⟩
  cases z with
  | bl b =>
    refine ⟨b, r3, ?_⟩
    cases b with
    | true =>
      rw [if_pos rfl]
      refine ⟨ds, A3, _, (S.to e1 o1).to (e2.trans e3) o3, h3, fun w' A4 wv H4 h4 e4 o4 r4 => ?_⟩
      exact ⟨y, w', A4, Qd, o4, Rep.mono (e3.trans e4) _ _ r2, r4, h4, fun d A' v' H' q e5 o5 r5 => k d A' v' H' q ((((e1.trans e2).trans e3).trans e4).trans e5) o5 r5⟩
    | false =>
      rw [if_neg Bool.false_ne_true]
      exact k _ A3 _ H3 h3 ((e1.trans e2).trans e3) o3 rfl
  | _ => exact h3.elim
section
variable {a b c e o : Expr} {ta tb tc te tob : DTE} {tr : DTA} {es : List Expr} {pos apos : Pos} {op op' : CmpOp} {r r' : DR2}
theorem q_chain (ho : OpQ X (compareOp op) r) (ho' : OpQ X (compareOp op') r') (ha : QE X a ta) (hb : QE X b tb) (hc : QE X c tc) (hm : lastMarks [op, op'] [b, c] = false := by rfl) : QE X (.Compare a [op, op'] [b, c] pos) (dChain r r' ta tb tc) :=
  PE.imp (pe_chain ho ho' ha hb hc hm) fun _ _ _ => LE.chain
theorem qt_chain (ho : OpQ X (compareOp op) r) (ho' : OpQ X (compareOp op') r') (ha : QE X a ta) (hb : QE X b tb) (hc : QE X c tc) (hm : lastMarks [op, op'] [b, c] = false := by rfl) : QT X (.Compare a [op, op'] [b, c] pos) (dTest (dChain r r' ta tb tc)) :=
  PT.imp (pt_chain ho ho' ha hb hc hm) fun σ H Q h => by
    obtain ⟨ds, A, Qd, S, h, k⟩ := h
    exact LE.chain (r := r) (r' := r') ⟨ds, A, _, S, h, fun x A1 v H1 h1 e1 o1 r1 => by
      cases x with
      | bl b => exact ⟨b, r1, k b A1 H1 h1 e1 o1⟩
      | _ => exact h1.elim⟩

/-! ### subscripts -/
def opIx : DR2 := fun x y A Q => match y with
  | .int i => (match x with
    | .str z => z.length ≤ sizeLine ∧ (match atI z.cps.toList i with
      | some c => Q (.str ⟨#[c]⟩) A
      | none => False)
    | x => match seqOf A x with
      | some ds => (match atI ds i with
        | some d => Q d A
        | none => False)
      | none => False)
  | _ => False
theorem atI_rep {K : PySem.W.Frag} {H : Hp} {ds : List D} {vs : List V} {i : Int} {d : D} (r : RepL K H ds vs) (h : atI ds i = some d) : ∃ v, atI vs i = some v ∧ Rep K H d v := by
  unfold atI at h ⊢
  rw [r.length]
  cases e : ixN ds.length i with
  | none => rw [e] at h; cases h
  | some j =>
    rw [e] at h
    exact r.get h
theorem ixq : IxR X (LO X.K opIx) := by
  rintro va sl pins s σ H x y v u Q I rx ry ⟨dx, dy, A, Qd, o, r1, r2, h, k⟩ hsub
  unfold opIx at h
  split at h
  · rename_i i
    split at h
    · rename_i z
      obtain ⟨hz, h⟩ := h
      split at h
      · rename_i c hc
        exact ix_str va sl pins s σ H x y v u Q I rx ry ⟨z, i, c, r1, r2, hz, hc, k _ A _ H h TExt.refl o rfl⟩ hsub
      · exact h.elim
    · split at h
      · rename_i ds e
        split at h
        · rename_i d hd
          obtain ⟨p, vs, h1, h2, h3⟩ := seq_of o r1 e
          obtain ⟨w, h4, h5⟩ := atI_rep h2 hd
          rcases h3 with h3 | h3
          · exact ix_list va sl pins s σ H x y v u Q I rx ry ⟨p, vs, i, w, h1, r2, h3, h4, k _ A _ H h TExt.refl o h5⟩ hsub
          · exact ix_tup va sl pins s σ H x y v u Q I rx ry ⟨p, vs, i, w, h1, r2, h3, h4, k _ A _ H h TExt.refl o h5⟩ hsub
        · exact h.elim
      · exact h.elim
  · exact h.elim
theorem q_ix (ha : QE X a ta) (hb : QE X b tb) (hs : PlainIx b) : QE X (.Subscript a b pos) (dOp opIx ta tb) := PE.imp (pe_ix ixq ha hb hs) fun _ _ _ => LE.bin
/-- a part of a slice -/
abbrev DTO := DSt → AH → (Option Int → AH → Prop) → Prop
def LPO (K : PySem.W.Frag) (t : DTO) : TO := fun σ H Q => ∃ ds A Qd, SRel K σ H ds A ∧ t ds A Qd ∧ ∀ i A' H', Qd i A' → TExt H H' → ARel K H' A' → Q i H'
abbrev QPO (X : Cx) (e : Option Expr) (t : DTO) : Prop := PO X e (LPO X.K t)
theorem PO.imp {e : Option Expr} {t u : TO} (h : PO X e t) (i : ∀ σ H Q, u σ H Q → t σ H Q) : PO X e u := ⟨fun pins s σ H Q I q => h.run pins s σ H Q I (i σ H Q q)⟩
def dNoPart : DTO := fun _ A Q => Q none A
def dPart (t : DTE) : DTO := fun ds A Q => t ds A fun x A1 => match x with
  | .int i => Q (some i) A1
  | _ => False
theorem qpo_none : QPO X none dNoPart := PO.imp po_none fun _ H _ ⟨_, A, _, S, h, k⟩ => k none A H h TExt.refl S.obj
theorem qpo_some (h : QE X e te) : QPO X (some e) (dPart te) := PO.imp (po_some h) fun σ H Q ⟨ds, A, Qd, S, h, k⟩ => ⟨ds, A, _, S, h, fun x A1 v H1 h1 e1 o1 r1 => by
  cases x with
  | int i => exact ⟨i, r1, k _ A1 H1 h1 e1 o1⟩
  | _ => exact h1.elim⟩
def cutD (xs : List D) (lo hi : Option Int) : List D := (xs.drop (HT.sIx xs.length 0 lo)).take (HT.sIx xs.length xs.length hi - HT.sIx xs.length 0 lo)
def opSl (x : D) (lo hi : Option Int) : AH → DK → Prop := fun A Q => match x with
  | .str z => z.length ≤ sizeLine ∧ Q (.str (cutS z lo hi)) A
  | .tup xs => Q (.tup (cutD xs lo hi)) A
  | .ref a => match seqA (A a) with
    | some xs => ∀ p, A p = none → Q (.ref p) (A.upd p (.lst (cutD xs lo hi)))
    | none => False
  | .kls xs => ∀ p, A p = none → Q (.ref p) (A.upd p (.lst (cutD xs lo hi)))
  | _ => False
def LSl (K : PySem.W.Frag) : V → Option Int → Option Int → Hp → VK → Prop := fun x lo hi H Q => ∃ dx A Qd, ARel K H A ∧ Rep K H dx x ∧ opSl dx lo hi A Qd ∧ ∀ d A' v H', Qd d A' → TExt H H' → ARel K H' A' → Rep K H' d v → Q v H'
theorem cut_rep {K : PySem.W.Frag} {H : Hp} {ds : List D} {vs : List V} (lo hi : Option Int) (r : RepL K H ds vs) : RepL K H (cutD ds lo hi) (cutV vs lo hi) := by
  unfold cutD cutV
  rw [r.length]
  exact (r.drop _).take _
theorem cut_whole (xs : List D) (lo hi : Option Int) (h : HT.sIx xs.length 0 lo = 0 ∧ HT.sIx xs.length xs.length hi = xs.length) : cutD xs lo hi = xs := by
  unfold cutD
  rw [h.1, h.2]
  simp
theorem slq : SlR X (LSl X.K) := by
  rintro pins s σ H x v vl vu lo hi sl Q I rx hs pl pu ⟨dx, A, Qd, o, r1, h, k⟩
  unfold opSl at h
  split at h
  · rename_i z
    exact sl_str pins s σ H x v vl vu lo hi sl Q I rx hs pl pu ⟨z, r1, h.1, k _ A _ H h.2 TExt.refl o rfl⟩
  · rename_i xs
    obtain ⟨p, vs, e, s1, q1⟩ := r1
    refine sl_tupA pins s σ H x v vl vu lo hi sl Q I rx hs pl pu ⟨p, vs, e, s1, fun w => ?_, fun _ q hq => ?_⟩
    · rw [q1.length] at w
      rw [cut_whole xs lo hi w] at h
      exact k _ A _ H h TExt.refl o ⟨p, vs, rfl, s1, q1⟩
    · exact k _ A _ _ h (TExt.new hq) (o.newT hq) ⟨q, _, rfl, SqT.of L2.upd_same, cut_rep lo hi (RepL.mono (TExt.new hq) _ _ q1)⟩
  · rename_i a
    split at h
    · rename_i xs e
      obtain ⟨vs, s1, q1⟩ := seqA_of o e
      exact sl_list pins s σ H x v vl vu lo hi sl Q I rx hs pl pu ⟨a, vs, r1, s1, fun p hp => k _ _ _ _ (h p (o.free hp)) (TExt.new hp) (o.new hp ⟨_, L2.upd_same, cut_rep lo hi (RepL.mono (TExt.new hp) _ _ q1)⟩) rfl⟩
    · exact h.elim
  · rename_i xs
    obtain ⟨a, vs, e, s1, q1⟩ := r1
    exact sl_list pins s σ H x v vl vu lo hi sl Q I rx hs pl pu ⟨a, vs, e, s1.sq H, fun p hp => k _ _ _ _ (h p (o.free hp)) (TExt.new hp) (o.new hp ⟨_, L2.upd_same, cut_rep lo hi (RepL.mono (TExt.new hp) _ _ q1)⟩) rfl⟩
  · exact h.elim
def dSl (te : DTE) (tl th : DTO) : DTE := fun ds A Q => te ds A fun x A1 => tl ds A1 fun l A2 => th ds A2 fun u A3 => opSl x l u A3 Q
theorem q_slice {lo hi : Option Expr} {tl th : DTO} {p2 : Pos} (he : QE X e te) (hl : QPO X lo tl) (hu : QPO X hi th) : QE X (.Subscript e (.Slice lo hi none p2) pos) (dSl te tl th) := PE.imp (pe_slice slq he hl hu) fun σ H Q ⟨ds, A, Qd, S, h, k⟩ =>
  ⟨ds, A, _, S, h, fun x A1 v H1 h1 e1 o1 r1 => ⟨ds, A1, _, S.to e1 o1, h1, fun l A2 H2 h2 e2 o2 => ⟨ds, A2, _, (S.to e1 o1).to e2 o2, h2, fun u A3 H3 h3 e3 o3 =>
    ⟨x, A3, Qd, o3, Rep.mono (e2.trans e3) _ _ r1, h3, fun d A' v H' q e4 o4 r4 => k d A' v H' q (((e1.trans e2).trans e3).trans e4) o4 r4⟩⟩⟩⟩
end
end
end PD

/-! PdBuilt: builtins called, methods of built-in types, by data -/
namespace PD
open PySem PySem.Spec PyProof.Rows L2
section
variable {X : Cx}
/-- one argument -/
def rc1 (f : D → AH → DK → Prop) : DRC := fun xs A Q => match xs with
  | [x] => f x A Q
  | _ => False
def rc2 (f : D → D → AH → DK → Prop) : DRC := fun xs A Q => match xs with
  | [x, y] => f x y A Q
  | _ => False
theorem rc1_of {K : PySem.W.Frag} {H : Hp} {f : D → AH → DK → Prop} {ds : List D} {vs : List V} {A : AH} {Q : DK} (r : RepL K H ds vs) (h : rc1 f ds A Q) : ∃ d v, vs = [v] ∧ Rep K H d v ∧ f d A Q := by
  cases ds with
  | nil => exact False.elim h
  | cons d t =>
    cases t with
    | nil =>
      obtain ⟨v, w, e1, r1, e2⟩ := r
      exact ⟨d, v, by rw [e1, show w = [] from e2], r1, h⟩
    | cons _ _ => exact False.elim h
theorem rc2_of {K : PySem.W.Frag} {H : Hp} {f : D → D → AH → DK → Prop} {ds : List D} {vs : List V} {A : AH} {Q : DK} (r : RepL K H ds vs) (h : rc2 f ds A Q) : ∃ d v d2 v2, vs = [v, v2] ∧ Rep K H d v ∧ Rep K H d2 v2 ∧ f d d2 A Q := by
  cases ds with
  | nil => exact False.elim h
  | cons d t =>
    cases t with
    | nil => exact False.elim h
    | cons d2 t =>
      cases t with
      | nil =>
        obtain ⟨v, w, e1, r1, v2, w2, e2, r2, e3⟩ := r
        exact ⟨d, v, d2, v2, by rw [e1, e2, show w2 = [] from e3], r1, r2, h⟩
      | cons _ _ => exact False.elim h
def rc0 (f : AH → DK → Prop) : DRC := fun xs A Q => match xs with
  | [] => f A Q
  | _ => False
theorem rc0_of {K : PySem.W.Frag} {H : Hp} {f : AH → DK → Prop} {ds : List D} {vs : List V} {A : AH} {Q : DK} (r : RepL K H ds vs) (h : rc0 f ds A Q) : vs = [] ∧ f A Q := by
  cases ds with
  | nil => exact ⟨r, h⟩
  | cons _ _ => exact False.elim h
def lenA (A : AH) : D → Option Nat
  | .str z => if z.length ≤ sizeLine then some z.length else none
  | .tup xs => some xs.length
  | .ref a => match A a with
    | some (.lst xs) => some xs.length
    | some (.rls xs) => some xs.length
    | some (.dic kvs) => some kvs.length
    | _ => none
  | _ => none
def cLen : DRC := rc1 fun x A Q => match lenA A x with
  | some n => Q (.int n) A
  | none => False
theorem RepK.length {κ : Type} {K : PySem.W.Frag} {H : Hp} : ∀ {ds : List (κ × D)} {vs : List (κ × V)}, RepK K H ds vs → vs.length = ds.length
  | [], _, h => by rw [show _ = [] from h]; rfl
  | _ :: _, _, ⟨v, r, h1, _, h3⟩ => by rw [h1, List.length_cons, List.length_cons, RepK.length h3]
theorem cq_len : CallQ X (.builtin "len") cLen := by
  rintro pins s σ H xs us Q I r ⟨dx, A, Qd, o, rx, h, k⟩
  match dx, rx, h with
  | [d], ⟨v, w, e1, r1, e2⟩, h =>
    have h : (match lenA A d with
      | some n => Qd (.int n) A
      | none => False) := h
    rw [show w = [] from e2] at e1
    cases d with
    | str z =>
      simp only [lenA] at h
      by_cases hz : z.length ≤ sizeLine
      · rw [if_pos hz] at h
        exact call_len_str pins s σ H xs us Q I r ⟨z, by rw [e1, show v = _ from r1], hz, k _ A _ H h TExt.refl o rfl⟩
      · rw [if_neg hz] at h
        exact h.elim
    | tup zs =>
      obtain ⟨p, vs, ep, s1, q1⟩ := r1
      exact call_len_seq pins s σ H xs us Q I r ⟨p, vs, by rw [e1, ep], .inr s1, by rw [q1.length]; exact k _ A _ H h TExt.refl o rfl⟩
    | ref a =>
      have ev : v = V.ref a := r1
      simp only [lenA] at h
      cases ea : A a with
      | none => rw [ea] at h; exact h.elim
      | some ob =>
        rw [ea] at h
        have q := o a ob ea
        cases ob with
        | lst zs =>
          obtain ⟨vs, s1, q1⟩ := q
          exact call_len_seq pins s σ H xs us Q I r ⟨a, vs, by rw [e1, ev], .inl (SqL.of s1), by rw [q1.length]; exact k _ A _ H h TExt.refl o rfl⟩
        | rls zs =>
          obtain ⟨oo, vs, s1, q1⟩ := q
          exact call_len_seq pins s σ H xs us Q I r ⟨a, vs, by rw [e1, ev], .inl (.inl (.inr ⟨oo, s1⟩)), by rw [q1.length]; exact k _ A _ H h TExt.refl o rfl⟩
        | dic kvs =>
          obtain ⟨vs, s1, q1⟩ := q
          exact call_lenD pins s σ H xs us Q I r ⟨a, vs, by rw [e1, ev], s1, by rw [q1.length]; exact k _ A _ H h TExt.refl o rfl⟩
        | _ => exact False.elim h
    | _ => exact False.elim h
  | [], _, h => exact False.elim h
  | _ :: _ :: _, _, h => exact False.elim h
def cTuple : DRC := rc1 fun x A Q => match seqOf A x with
  | some ds => Q (.tup ds) A
  | none => False
theorem cq_tuple : CallQ X (.type "tuple") cTuple := by
  rintro pins s σ H xs us Q I r ⟨dx, A, Qd, o, rx, h, k⟩
  match dx, rx, h with
  | [d], ⟨v, w, e1, r1, e2⟩, h =>
    have h : (match seqOf A d with
      | some ds => Qd (.tup ds) A
      | none => False) := h
    rw [show w = [] from e2] at e1
    cases e : seqOf A d with
    | none => rw [e] at h; exact h.elim
    | some ds =>
      rw [e] at h
      obtain ⟨p, vs, h1, h2, h3⟩ := seq_of o r1 e
      refine call_tuple_of pins s σ H xs us Q I r ⟨p, vs, by rw [e1, h1], ?_⟩
      rcases h3 with h3 | h3
      · exact .inl ⟨h3, fun l hl => k _ A _ _ h (TExt.new hl) (o.newT hl) ⟨l, vs, rfl, SqT.of L2.upd_same, RepL.mono (TExt.new hl) _ _ h2⟩⟩
      · exact .inr ⟨h3, k _ A _ H h TExt.refl o ⟨p, vs, rfl, h3, h2⟩⟩
  | [], _, h => exact False.elim h
  | _ :: _ :: _, _, h => exact False.elim h
def cList : DRC := rc1 fun x A Q => match seqOf A x with
  | some ds => ∀ p, A p = none → Q (.ref p) (A.upd p (.lst ds))
  | none => False
theorem cq_list : CallQ X (.type "list") cList := by
  rintro pins s σ H xs us Q I r ⟨dx, A, Qd, o, rx, h, k⟩
  match dx, rx, h with
  | [d], ⟨v, w, e1, r1, e2⟩, h =>
    have h : (match seqOf A d with
      | some ds => ∀ p, A p = none → Qd (.ref p) (A.upd p (.lst ds))
      | none => False) := h
    rw [show w = [] from e2] at e1
    cases e : seqOf A d with
    | none => rw [e] at h; exact h.elim
    | some ds =>
      rw [e] at h
      obtain ⟨p, vs, h1, h2, h3⟩ := seq_of o r1 e
      exact call_list_of pins s σ H xs us Q I r ⟨p, vs, by rw [e1, h1], h3, fun l hl => k _ _ _ _ (h l (o.free hl)) (TExt.new hl) (o.new hl ⟨vs, L2.upd_same, RepL.mono (TExt.new hl) _ _ h2⟩) rfl⟩
  | [], _, h => exact False.elim h
  | _ :: _ :: _, _, h => exact False.elim h
/-- a list of truths, of ints -/
def blsOf : List D → Option (List Bool)
  | [] => some []
  | .bl b :: r => (blsOf r).map (b :: ·)
  | _ => none
def intsOf : List D → Option (List Int)
  | [] => some []
  | .int b :: r => (intsOf r).map (b :: ·)
  | _ => none
def strsOf : List D → Option (List Str)
  | [] => some []
  | .str b :: r => (strsOf r).map (b :: ·)
  | _ => none
theorem blsOf_eq : ∀ {ds : List D} {bs : List Bool}, blsOf ds = some bs → ds = bs.map D.bl
  | [], _, h => by cases h; rfl
  | .bl b :: r, bs, h => by
    unfold blsOf at h
    cases e : blsOf r with
    | none => rw [e] at h; cases h
    | some cs =>
      rw [e] at h
      cases h
      rw [blsOf_eq e]
      rfl
  | .non :: _, _, h => by cases h
  | .int _ :: _, _, h => by cases h
  | .str _ :: _, _, h => by cases h
  | .tup _ :: _, _, h => by cases h
  | .ref _ :: _, _, h => by cases h
theorem intsOf_eq : ∀ {ds : List D} {bs : List Int}, intsOf ds = some bs → ds = bs.map D.int
  | [], _, h => by cases h; rfl
  | .int b :: r, bs, h => by
    unfold intsOf at h
    cases e : intsOf r with
    | none => rw [e] at h; cases h
    | some cs =>
      rw [e] at h
      cases h
      rw [intsOf_eq e]
      rfl
  | .non :: _, _, h => by cases h
  | .bl _ :: _, _, h => by cases h
  | .str _ :: _, _, h => by cases h
  | .tup _ :: _, _, h => by cases h
  | .ref _ :: _, _, h => by cases h
theorem strsOf_eq : ∀ {ds : List D} {bs : List Str}, strsOf ds = some bs → ds = bs.map D.str
  | [], _, h => by cases h; rfl
  | .str b :: r, bs, h => by
    unfold strsOf at h
    cases e : strsOf r with
    | none => rw [e] at h; cases h
    | some cs =>
      rw [e] at h
      cases h
      rw [strsOf_eq e]
      rfl
  | .non :: _, _, h => by cases h
  | .bl _ :: _, _, h => by cases h
  | .int _ :: _, _, h => by cases h
  | .tup _ :: _, _, h => by cases h
  | .ref _ :: _, _, h => by cases h
theorem blsOf_map : ∀ bs : List Bool, blsOf (bs.map D.bl) = some bs
  | [] => rfl
  | b :: bs => by
    show (blsOf (bs.map D.bl)).map (b :: ·) = _
    rw [blsOf_map bs]
    rfl
theorem intsOf_map : ∀ bs : List Int, intsOf (bs.map D.int) = some bs
  | [] => rfl
  | b :: bs => by
    show (intsOf (bs.map D.int)).map (b :: ·) = _
    rw [intsOf_map bs]
    rfl
theorem strsOf_map : ∀ bs : List Str, strsOf (bs.map D.str) = some bs
  | [] => rfl
  | b :: bs => by
    show (strsOf (bs.map D.str)).map (b :: ·) = _
    rw [strsOf_map bs]
    rfl
/-- a list (no tuple) and what f makes of its items -/
def cL {α : Type} (g : List D → Option α) (f : α → D) : DRC := rc1 fun x A Q => match x with
  | .ref a => (match seqA (A a) with
    | some ds => (match g ds with
      | some z => Q (f z) A
      | none => False)
    | none => False)
  | _ => False
theorem cL_of {α : Type} {K : PySem.W.Frag} {H : Hp} {g : List D → Option α} {f : α → D} {dx : List D} {xs : List V} {A : AH} {Q : DK} (o : ARel K H A) (rx : RepL K H dx xs) (h : cL g f dx A Q) :
    ∃ a vs ds z, xs = [V.ref a] ∧ SqL K H a vs ∧ RepL K H ds vs ∧ g ds = some z ∧ Q (f z) A := by
  match dx, rx, h with
  | [d], ⟨v, w, e1, r1, e2⟩, h =>
    rw [show w = [] from e2] at e1
    cases d with
    | ref a =>
      have h : (match seqA (A a) with
        | some ds => (match g ds with
          | some z => Q (f z) A
          | none => False)
        | none => False) := h
      cases e : seqA (A a) with
      | none => rw [e] at h; exact h.elim
      | some ds =>
        rw [e] at h
        obtain ⟨vs, s1, q1⟩ := seqA_of o e
        cases e3 : g ds with
        | none =>
          have h : (match g ds with
            | some z => Q (f z) A
            | none => False) := h
          rw [e3] at h
          exact h.elim
        | some z =>
          have h : (match g ds with
            | some z => Q (f z) A
            | none => False) := h
          rw [e3] at h
          exact ⟨a, vs, ds, z, by rw [e1, show v = _ from r1], s1, q1, e3, h⟩
    | _ => exact False.elim h
  | [], _, h => exact False.elim h
  | _ :: _ :: _, _, h => exact False.elim h
abbrev cAll : DRC := cL blsOf fun bs => .bl (bs.all id)
abbrev cAny : DRC := cL blsOf fun bs => .bl (bs.any id)
abbrev cSum : DRC := cL intsOf fun ns => .int ns.sum
theorem cq_all (hc : X.calm = true) : CallQ X (.builtin "all") cAll := by
  rintro pins s σ H xs us Q I r ⟨dx, A, Qd, o, rx, h, k⟩
  obtain ⟨a, vs, ds, z, e, s1, q1, g1, h⟩ := cL_of o rx h
  rw [blsOf_eq g1] at q1
  have ev := RepL.bls q1
  subst ev
  exact cr_all hc pins s σ H xs us Q I r ⟨a, z, e, s1, k _ A _ H h TExt.refl o rfl⟩
theorem cq_any (hc : X.calm = true) : CallQ X (.builtin "any") cAny := by
  rintro pins s σ H xs us Q I r ⟨dx, A, Qd, o, rx, h, k⟩
  obtain ⟨a, vs, ds, z, e, s1, q1, g1, h⟩ := cL_of o rx h
  rw [blsOf_eq g1] at q1
  have ev := RepL.bls q1
  subst ev
  exact cr_any hc pins s σ H xs us Q I r ⟨a, z, e, s1, k _ A _ H h TExt.refl o rfl⟩
theorem cq_sum (hc : X.calm = true) : CallQ X (.builtin "sum") cSum := by
  rintro pins s σ H xs us Q I r ⟨dx, A, Qd, o, rx, h, k⟩
  obtain ⟨a, vs, ds, z, e, s1, q1, g1, h⟩ := cL_of o rx h
  rw [intsOf_eq g1] at q1
  have ev := RepL.ints q1
  subst ev
  exact cr_sum hc pins s σ H xs us Q I r ⟨a, z, e, s1, k _ A _ H h TExt.refl o rfl⟩
def cInt : DRC := rc1 fun x A Q => match x with
  | .str z => z.length ≤ 640 ∧ (match intText? z with
    | some n => Q (.int n) A
    | none => False)
  | .bl b => Q (.int (if b then 1 else 0)) A
  | .int i => Q (.int i) A
  | _ => False
theorem cq_int : CallQ X (.type "int") cInt := by
  rintro pins s σ H xs us Q I r ⟨dx, A, Qd, o, rx, h, k⟩
  match dx, rx, h with
  | [d], ⟨v, w, e1, r1, e2⟩, h =>
    rw [show w = [] from e2] at e1
    cases d with
    | str z =>
      obtain ⟨hz, h⟩ := (show z.length ≤ 640 ∧ (match intText? z with
        | some n => Qd (.int n) A
        | none => False) from h)
      cases e : intText? z with
      | none => rw [e] at h; exact h.elim
      | some n =>
        rw [e] at h
        exact call_int_str pins s σ H xs us Q I r ⟨z, n, by rw [e1, show v = _ from r1], e, hz, k _ A _ H h TExt.refl o rfl⟩
    | bl b => exact call_int1 pins s σ H xs us Q I r (.inr ⟨b, by rw [e1, show v = _ from r1], k _ A _ H h TExt.refl o rfl⟩)
    | int b => exact call_int1 pins s σ H xs us Q I r (.inl ⟨b, by rw [e1, show v = _ from r1], k _ A _ H h TExt.refl o rfl⟩)
    | _ => exact False.elim h
  | [], _, h => exact False.elim h
  | _ :: _ :: _, _, h => exact False.elim h
def cStr : DRC := rc1 fun x A Q => match x with
  | .int i => i.natAbs.log2 < 1920 ∧ Q (.str (Str.ofString (toString i))) A
  | .str z => Q (.str z) A
  | _ => False
theorem cq_str : CallQ X (.type "str") cStr := by
  rintro pins s σ H xs us Q I r ⟨dx, A, Qd, o, rx, h, k⟩
  match dx, rx, h with
  | [d], ⟨v, w, e1, r1, e2⟩, h =>
    rw [show w = [] from e2] at e1
    cases d with
    | str z => exact SkE.call_str_str pins s σ H xs us Q I r ⟨z, by rw [e1, show v = _ from r1], k _ A _ H h TExt.refl o rfl⟩
    | int i =>
      have h : i.natAbs.log2 < 1920 ∧ Qd (.str (Str.ofString (toString i))) A := h
      exact call_str_int pins s σ H xs us Q I r ⟨i, by rw [e1, show v = _ from r1], h.1, k _ A _ H h.2 TExt.refl o rfl⟩
    | _ => exact False.elim h
  | [], _, h => exact False.elim h
  | _ :: _ :: _, _, h => exact False.elim h
/-- repr of data -/
def cRepr : DRC := rc1 fun x A Q => ∃ p, PyR A x p ∧ p.showable = true ∧ p.hasDict = false ∧ p.depth ≤ 60 ∧ p.shown.length ≤ sizeLine ∧ Q (.str p.shown) A
theorem cq_repr {k : Nat} (hr : RoomG k X.A) : CallQ X (.builtin "repr") cRepr := by
  rintro pins s σ H xs us Q I r ⟨dx, A, Qd, o, rx, h, k⟩
  match dx, rx, h with
  | [d], ⟨v, w, e1, r1, e2⟩, ⟨p, hp, h1, h2, h3, h4, h⟩ =>
    rw [show w = [] from e2] at e1
    subst e1
    obtain ⟨u, rfl, ru⟩ := r.one
    have fin : EP X pins σ Q (.str p.shown s.toks) { s with toks := s.toks + 1 } := ⟨.str p.shown, H, I.tok _, ⟨_, rfl⟩, k _ A _ H h TExt.refl o rfl⟩
    have room := hr.r.units
    cases hp with
    | non =>
      rw [show v = V.non from r1] at ru
      cases ru
      exact PySem.P.repr_of_none (by simpa only [PyData.shown] using fin)
    | bl b =>
      rw [show v = V.bl b from r1] at ru
      cases ru
      refine PySem.P.repr_of_bool ?_
      simp only [PyData.shown] at fin
      cases b <;> exact fin
    | int i =>
      rw [show v = V.int i from r1] at ru
      obtain ⟨t, rfl⟩ := ru
      exact PySem.P.repr_of_int (by simpa [PyData.showable] using h1) (by simpa only [PyData.shown] using fin)
    | str z =>
      rw [show v = V.str z from r1] at ru
      obtain ⟨t, rfl⟩ := ru
      exact PySem.P.repr_of_str (by simpa only [PyData.shown] using fin) (by simpa only [PyData.shown] using h4)
    | tup hl =>
      rename_i ys ps
      obtain ⟨as, rd⟩ := Dp.reads I (.tuple ps) v u (PyR.dp o _ _ v (.tup hl) r1) ru
      obtain ⟨q, vs, ev, _⟩ := r1
      subst ev
      cases ru
      exact repr_of_reads' rd h1 (fun e => by rw [h2] at e; cases e) hr.g (by omega) (fun _ _ e => e) (fun h' u' tk hk => ⟨.str _, H, I.kept hk, ⟨_, rfl⟩, k _ A _ H h TExt.refl o rfl⟩) h4
    | lst ea hl =>
      rename_i a ys ps
      obtain ⟨as, rd⟩ := Dp.reads I (.list ps) v u (PyR.dp o _ _ v (.lst ea hl) r1) ru
      rw [show v = V.ref a from r1] at ru
      cases ru
      exact repr_of_reads' rd h1 (fun e => by rw [h2] at e; cases e) hr.g (by omega) (fun _ _ e => e) (fun h' u' tk hk => ⟨.str _, H, I.kept hk, ⟨_, rfl⟩, k _ A _ H h TExt.refl o rfl⟩) h4
    | rls ea hl =>
      rename_i a ys ps
      obtain ⟨as, rd⟩ := Dp.reads I (.list ps) v u (PyR.dp o _ _ v (.rls ea hl) r1) ru
      rw [show v = V.ref a from r1] at ru
      cases ru
      exact repr_of_reads' rd h1 (fun e => by rw [h2] at e; cases e) hr.g (by omega) (fun _ _ e => e) (fun h' u' tk hk => ⟨.str _, H, I.kept hk, ⟨_, rfl⟩, k _ A _ H h TExt.refl o rfl⟩) h4
  | [], _, h => exact False.elim h
  | _ :: _ :: _, _, h => exact False.elim h

/-! ### isinstance of built-in types -/
def tyN (A : AH) : D → Option String
  | .non => some "NoneType"
  | .bl _ => some "bool"
  | .int _ => some "int"
  | .str _ => some "str"
  | .kls _ => none
  | .tup _ => some "tuple"
  | .ref a => match A a with
    | some (.lst _) => some "list"
    | some (.rls _) => some "list"
    | some (.dic _) => some "dict"
    | some (.dit _) => some "dict"
    | _ => none
/-- what isinstance tells of two built-in types -/
def isiB (a b : String) : Bool := a == b || (a == "bool" && b == "int")
def cIsi (T : String) : D → AH → DK → Prop := fun x A Q => match tyN A x with
  | some n => Q (.bl (isiB n T)) A
  | none => False
theorem ty_of {K : PySem.W.Frag} {H : Hp} {A : AH} {d : D} {v : V} {n : String} (o : ARel K H A) (r : Rep K H d v) (h : tyN A d = some n) : TyX K H v (.type n) := by
  cases d with
  | kls _ => cases h
  | non => cases h; rw [show v = _ from r]; exact .base .non
  | bl b => cases h; rw [show v = _ from r]; exact .base (.bl b)
  | int b => cases h; rw [show v = _ from r]; exact .base (.int b)
  | str b => cases h; rw [show v = _ from r]; exact .base (.str b)
  | tup xs =>
    cases h
    obtain ⟨p, vs, e, s1, _⟩ := r
    rw [e]
    rcases s1 with (s1 | ⟨ob, s1⟩) | ⟨ob, its, m, k1, k2, _⟩
    · exact .base (.tup s1)
    · exact .fTuple s1
    · exact .kTuple k1 k2
  | ref a =>
    rw [show v = _ from r]
    simp only [tyN] at h
    cases ea : A a with
    | none => rw [ea] at h; cases h
    | some ob =>
      rw [ea] at h
      have q := o a ob ea
      cases ob with
      | lst xs => cases h; obtain ⟨vs, s1, _⟩ := q; exact .base (.lst s1)
      | rls xs => cases h; obtain ⟨oo, vs, s1, _⟩ := q; exact .base (.frz s1)
      | dic xs => cases h; obtain ⟨vs, s1, _⟩ := q; exact .base (.dK s1)
      | dit xs => cases h; obtain ⟨vs, s1, _⟩ := q; exact .base (.dT s1)
      | ins C fs => cases h
theorem kit_all : ∀ n ∈ ["NoneType", "bool", "int", "str", "tuple", "list", "dict"], ∀ T ∈ ["int", "str", "tuple", "bool", "list", "dict"], kitB n T = some (isiB n T) := by decide +kernel
theorem kit_of_isi {T n : String} (hn : n ∈ ["NoneType", "bool", "int", "str", "tuple", "list", "dict"]) (hT : T ∈ ["int", "str", "tuple", "bool", "list", "dict"]) : kitB n T = some (isiB n T) := kit_all n hn T hT
theorem tyN_mem {A : AH} {d : D} {n : String} (h : tyN A d = some n) : n ∈ ["NoneType", "bool", "int", "str", "tuple", "list", "dict"] := by
  cases d with
  | kls _ => cases h
  | ref a =>
    simp only [tyN] at h
    cases ea : A a with
    | none => rw [ea] at h; cases h
    | some ob => rw [ea] at h; cases ob <;> first | (cases h; done) | (cases h; decide)
  | _ => cases h; decide
def dIsi (T : String) (te : DTE) : DTE := fun ds A Q => te ds A fun x A1 => cIsi T x A1 Q
theorem q_isi {T : String} {x : Str} {e : Expr} {te : DTE} {p p2 pos : Pos} (he : QE X e te) (hg : Gl X "isinstance") (hm : X.mg "isinstance" = none) (hg2 : Gl X x) (hm2 : X.mg x = none) (hT : T ∈ ["int", "str", "tuple", "bool", "list", "dict"]) (hv : bootBuiltins x = some (.type T))
    (hn : x ≠ "__name__") (hdb : (x == ("__debug__" : Str)) = false) (hs1 : starEach [e, .Name x p2] X.env = (false, eval e X.env) :: starEach [.Name x p2] X.env := by rfl) (hs2 : starEach [.Name x p2] X.env = (false, eval (.Name x p2) X.env) :: starEach [] X.env := by rfl)
    (hpl : (backTo pos (starEach [.Name x p2] X.env)).any (·.1) = false := by rfl) :
    QE X (.Call (.Name "isinstance" p) [e, .Name x p2] [] pos) (dIsi T te) := by
  have hb : bootBuiltins "isinstance" = some (.builtin "isinstance") := by decide +kernel
  refine PE.imp (pe_callB call_isi hg hm hb (pa_cons he (pa_cons (pe_bltn (v := .ty T) hg2 hm2 hv rfl hn hdb) pa_nil hs2) hs1) (by decide) (by decide) hs1 hpl) fun σ H Q ⟨ds, A, Qd, S, h, k⟩ => ?_
  refine ⟨ds, A, _, S, h, fun y A1 v H1 h1 e1 o1 r1 => ?_⟩
  unfold cIsi at h1
  cases en : tyN A1 y with
  | none => rw [en] at h1; exact h1.elim
  | some n =>
    rw [en] at h1
    exact ⟨v, .ty T, .type n, .type T, _, rfl, .ty T, ty_of o1 r1 en, kit_ty (kit_of_isi (tyN_mem en) hT), k _ A1 _ H1 h1 e1 o1 rfl⟩

/-! ### methods of built-in types -/
def dM (T : String) (r : D → List D → AH → DK → Prop) (to : DTE) (tr : DTA) : DTE := fun ds A Q => to ds A fun x A1 => tyN A1 x = some T ∧ tr ds A1 fun xs A2 => r x xs A2 Q
def dM0 (T : String) (r : D → List D → AH → DK → Prop) (to : DTE) : DTE := fun ds A Q => to ds A fun x A1 => tyN A1 x = some T ∧ r x [] A1 Q
theorem tyV_of {K : PySem.W.Frag} {H : Hp} {A : AH} {d : D} {v : V} {n : String} (o : ARel K H A) (r : Rep K H d v) (h : tyN A d = some n) (hn : n = "str" ∨ n = "list" ∨ n = "dict" ∨ n = "int") : tyV K n v H := by
  cases d with
  | kls _ => cases h
  | non => cases h; exact absurd hn (by decide)
  | bl b => cases h; exact absurd hn (by decide)
  | int b => cases h; rw [show v = _ from r]; rfl
  | str b => cases h; rw [show v = _ from r]; rfl
  | tup xs => cases h; exact absurd hn (by decide)
  | ref a =>
    rw [show v = _ from r]
    simp only [tyN] at h
    cases ea : A a with
    | none => rw [ea] at h; cases h
    | some ob =>
      rw [ea] at h
      have q := o a ob ea
      cases ob with
      | lst xs => cases h; obtain ⟨vs, s1, _⟩ := q; exact .inl ⟨rfl, vs, SqL.of s1⟩
      | rls xs => cases h; obtain ⟨oo, vs, s1, _⟩ := q; exact .inl ⟨rfl, vs, .inl (.inr ⟨oo, s1⟩)⟩
      | dic xs => cases h; obtain ⟨vs, s1, _⟩ := q; exact .inr (.inr (.inl ⟨rfl, .inl ⟨vs, s1⟩⟩))
      | dit xs => cases h; obtain ⟨vs, s1, _⟩ := q; exact .inr (.inr (.inl ⟨rfl, .inr ⟨vs, s1⟩⟩))
      | ins C fs => cases h
section
variable {o e : Expr} {es : List Expr} {to te : DTE} {tr : DTA} {name : Str} {apos cpos : Pos} {T id : String} {r : D → List D → AH → DK → Prop}
theorem q_m0 (pa : PlainAttrs T) (slot : Slot T name id) (hty : typeOf (.builtin id) = pure (.type "method_descriptor")) (hm : MtQ X id r) (hT : T = "str" ∨ T = "list" ∨ T = "dict" ∨ T = "int") (ho : QE X o to)
    (hbase : attributeBase o name X.env (eval o X.env) = eval o X.env := by rfl) (hline : (apos.endLine == cpos.line) = true := by rfl) : QE X (.Call (.Attribute o name apos) [] [] cpos) (dM0 T r to) :=
  PE.imp (pe_bm0 pa slot hty hm ho hbase hline) fun σ H Q ⟨ds, A, Qd, S, h, k⟩ => ⟨ds, A, _, S, h, fun x A1 v H1 ⟨ht, h1⟩ e1 o1 r1 => ⟨tyV_of o1 r1 ht hT, x, [], A1, Qd, o1, r1, rfl, h1, fun d A' v' H' q e2 o2 r2 => k d A' v' H' q (e1.trans e2) o2 r2⟩⟩
theorem q_m (pa : PlainAttrs T) (slot : Slot T name id) (hty : typeOf (.builtin id) = pure (.type "method_descriptor")) (hm : MtQ X id r) (hT : T = "str" ∨ T = "list" ∨ T = "dict" ∨ T = "int") (ho : QE X o to) (ha : QA X (e :: es) tr)
    (hbase : attributeBase o name X.env (eval o X.env) = eval o X.env := by rfl)
    (hfew : ((backTo cpos (starEach (e :: es) X.env)).all (fun x => !x.1) && (backToKw cpos (keywordEach [] X.env)).all (fun x => x.1.isSome)
      && decide ((e :: es).length + ([] : List Keyword).length + (if ([] : List Keyword).isEmpty then 0 else 1) < 30)) = true := by rfl)
    (hline : (apos.endLine == cpos.line) = true := by rfl) (hs : starEach (e :: es) X.env = (false, eval e X.env) :: starEach es X.env := by rfl) (hplain : (backTo cpos (starEach es X.env)).any (·.1) = false := by rfl) :
    QE X (.Call (.Attribute o name apos) (e :: es) [] cpos) (dM T r to tr) :=
  PE.imp (pe_bm pa slot hty hm ho ha hbase hfew hline hs hplain) fun σ H Q ⟨ds, A, Qd, S, h, k⟩ => ⟨ds, A, _, S, h, fun x A1 v H1 ⟨ht, h1⟩ e1 o1 r1 => ⟨tyV_of o1 r1 ht hT, ds, A1, _, S.to e1 o1, h1, fun xs A2 vs H2 h2 e2 o2 r2 =>
    ⟨x, xs, A2, Qd, o2, Rep.mono e2 _ _ r1, r2, h2, fun d A' v' H' q e3 o3 r3 => k d A' v' H' q ((e1.trans e2).trans e3) o3 r3⟩⟩⟩
end
/-- a method of a list that changes it -/
def mL (f : Addr → List D → List D → AH → DK → Prop) : D → List D → AH → DK → Prop := fun x xs A Q => match x with
  | .ref a => (match A a with
    | some (.lst ys) => f a ys xs A Q
    | _ => False)
  | _ => False
theorem mL_of {K : PySem.W.Frag} {H : Hp} {f : Addr → List D → List D → AH → DK → Prop} {d : D} {v : V} {xs : List D} {A : AH} {Q : DK} (o : ARel K H A) (r : Rep K H d v) (h : mL f d xs A Q) :
    ∃ a ys vs, v = V.ref a ∧ A a = some (.lst ys) ∧ H a = some (.lst vs) ∧ RepL K H ys vs ∧ f a ys xs A Q := by
  cases d with
  | ref a =>
    have h : (match A a with
      | some (.lst ys) => f a ys xs A Q
      | _ => False) := h
    cases ea : A a with
    | none => rw [ea] at h; exact h.elim
    | some ob =>
      rw [ea] at h
      cases ob with
      | lst ys =>
        obtain ⟨vs, s1, q1⟩ := o a _ ea
        exact ⟨a, ys, vs, r, ea, s1, q1, h⟩
      | _ => exact False.elim h
  | _ => exact False.elim h
theorem text_lst {H : Hp} {a : Addr} {vs : List V} {o : HO} (h : H a = some (.lst vs)) : TExt H (L2.upd H a o) := TExt.mut h (fun _ z => nomatch z) (fun _ _ z => nomatch z)
/-- there is one, and it is so -/
def onS {α : Type} (o : Option α) (P : α → Prop) : Prop := match o with
  | some y => P y
  | none => False
theorem onS_some {α : Type} {y : α} {P : α → Prop} : onS (some y) P = P y := rfl
theorem onS_none {α : Type} {P : α → Prop} : onS none P = False := rfl
theorem some_of {α : Type} {o : Option α} {P : α → Prop} (h : onS o P) : ∃ y, o = some y ∧ P y := by
  cases o with
  | none => exact False.elim h
  | some y => exact ⟨y, rfl, h⟩
def mAppend : D → List D → AH → DK → Prop := mL fun a ys => rc1 fun x A Q => ys.length < sizeLine ∧ Q .non (A.upd a (.lst (ys ++ [x])))
theorem mq_append : MtQ X "list.append" mAppend := by
  rintro pins s σ H x xs v us Q I rx rs ⟨d, ds, A, Qd, o, r1, rl, h, k⟩
  obtain ⟨a, ys, vs, e, ea, s1, q1, h⟩ := mL_of o r1 h
  obtain ⟨y, w, e1, r2, hz, h⟩ := rc1_of rl h
  have te := text_lst (o := .lst (vs ++ [w])) s1
  exact mt_append pins s σ H x xs v us Q I rx rs ⟨a, vs, w, e, e1, s1, by rw [q1.length]; exact hz, k _ _ _ _ h te (o.mut te ⟨_, L2.upd_same, (RepL.mono te _ _ q1).snoc (Rep.mono te _ _ r2)⟩) rfl⟩
/-- an int argument -/
def asInt (f : Int → AH → DK → Prop) : D → AH → DK → Prop := fun x A Q => match x with
  | .int i => f i A Q
  | _ => False
theorem asInt_of {K : PySem.W.Frag} {H : Hp} {f : Int → AH → DK → Prop} {d : D} {v : V} {A : AH} {Q : DK} (r : Rep K H d v) (h : asInt f d A Q) : ∃ i, v = V.int i ∧ f i A Q := by
  cases d with
  | int i => exact ⟨i, r, h⟩
  | _ => exact False.elim h
def asStr (f : Str → AH → DK → Prop) : D → AH → DK → Prop := fun x A Q => match x with
  | .str i => f i A Q
  | _ => False
theorem asStr_of {K : PySem.W.Frag} {H : Hp} {f : Str → AH → DK → Prop} {d : D} {v : V} {A : AH} {Q : DK} (r : Rep K H d v) (h : asStr f d A Q) : ∃ i, v = V.str i ∧ f i A Q := by
  cases d with
  | str i => exact ⟨i, r, h⟩
  | _ => exact False.elim h
def mPopAt : D → List D → AH → DK → Prop := mL fun a ys => rc1 (asInt fun i A Q => (0 ≤ i ∧ i < ys.length) ∧ onS ys[i.toNat]? fun y => Q y (A.upd a (.lst (ys.eraseIdx i.toNat))))
theorem mq_popAt : MtQ X "list.pop" mPopAt := by
  rintro pins s σ H x xs v us Q I rx rs ⟨d, ds, A, Qd, o, r1, rl, h, k⟩
  obtain ⟨a, ys, vs, e, ea, s1, q1, h⟩ := mL_of o r1 h
  obtain ⟨y, w, e1, r2, h⟩ := rc1_of rl h
  obtain ⟨i, rfl, hi, h⟩ := asInt_of r2 h
  obtain ⟨y, ey, h⟩ := some_of h
  obtain ⟨z, h1, h2⟩ := q1.get ey
  have te := text_lst (o := .lst (vs.eraseIdx i.toNat)) s1
  have hs := q1.length
  have hn : i < 2 ^ 63 := by
    obtain ⟨hz, _⟩ := I.lstM s1
    have hl := line63
    have h63 : ((2 ^ 63 : Nat) : Int) = 2 ^ 63 := by decide
    omega
  refine mt_popAt pins s σ H x xs v us Q I rx rs ⟨a, vs, i, i.toNat, z, e, e1, s1, by omega, hn, ?_, h1, k _ _ _ _ h te (o.mut te ⟨_, L2.upd_same, (RepL.mono te _ _ q1).eraseIdx _⟩) (Rep.mono te _ _ h2)⟩
  exact (ixN_seq (show ixN vs.length i = some i.toNat by unfold ixN; rw [if_pos hi.1, if_pos (by rw [hs]; exact hi.2)])).1
def mPop : D → List D → AH → DK → Prop := mL fun a ys => rc0 fun A Q => onS ys.getLast? fun y => Q y (A.upd a (.lst ys.dropLast))
theorem RepL.dropLast {K : PySem.W.Frag} {H : Hp} {ds : List D} {vs : List V} (r : RepL K H ds vs) : RepL K H ds.dropLast vs.dropLast := by
  rw [List.dropLast_eq_take, List.dropLast_eq_take, r.length]
  exact r.take _
theorem mq_pop : MtQ X "list.pop" mPop := by
  rintro pins s σ H x xs v us Q I rx rs ⟨d, ds, A, Qd, o, r1, rl, h, k⟩
  obtain ⟨a, ys, vs, e, ea, s1, q1, h⟩ := mL_of o r1 h
  obtain ⟨e1, h⟩ := rc0_of rl h
  obtain ⟨y, ey, h⟩ := some_of h
  rw [List.getLast?_eq_getElem?] at ey
  obtain ⟨z, h1, h2⟩ := q1.get ey
  have te := text_lst (o := .lst vs.dropLast) s1
  exact mt_pop pins s σ H x xs v us Q I rx rs ⟨a, vs, z, e, e1, s1, by rw [q1.length]; exact h1, k _ _ _ _ h te (o.mut te ⟨_, L2.upd_same, q1.dropLast.mono te _ _⟩) (Rep.mono te _ _ h2)⟩
def mClear : D → List D → AH → DK → Prop := mL fun a ys => rc0 fun A Q => Q .non (A.upd a (.lst []))
theorem mq_clear : MtQ X "list.clear" mClear := by
  rintro pins s σ H x xs v us Q I rx rs ⟨d, ds, A, Qd, o, r1, rl, h, k⟩
  obtain ⟨a, ys, vs, e, ea, s1, q1, h⟩ := mL_of o r1 h
  obtain ⟨e1, h⟩ := rc0_of rl h
  have te := text_lst (o := .lst []) s1
  exact mt_clear pins s σ H x xs v us Q I rx rs ⟨a, vs, e, e1, s1, k _ _ _ _ h te (o.mut te ⟨_, L2.upd_same, rfl⟩) rfl⟩
def mInsert : D → List D → AH → DK → Prop := mL fun a ys => rc2 fun x y => asInt (fun i A Q => (ys.length < sizeLine ∧ 0 ≤ i ∧ i < 2 ^ 63) ∧ Q .non (A.upd a (.lst (ys.take i.toNat ++ [y] ++ ys.drop i.toNat)))) x
theorem mq_insert : MtQ X "list.insert" mInsert := by
  rintro pins s σ H x xs v us Q I rx rs ⟨d, ds, A, Qd, o, r1, rl, h, k⟩
  obtain ⟨a, ys, vs, e, ea, s1, q1, h⟩ := mL_of o r1 h
  obtain ⟨d1, w, y, w2, e1, r2, r3, h⟩ := rc2_of rl h
  obtain ⟨i, rfl, ⟨hz, h0, h1⟩, h⟩ := asInt_of r2 h
  have te := text_lst (o := .lst (vs.take i.toNat ++ [w2] ++ vs.drop i.toNat)) s1
  exact mt_insert pins s σ H x xs v us Q I rx rs ⟨a, vs, i, w2, e, e1, s1, by rw [q1.length]; exact hz, h0, h1, k _ _ _ _ h te (o.mut te ⟨_, L2.upd_same, (((RepL.mono te _ _ q1).take _).snoc (Rep.mono te _ _ r3)).append ((RepL.mono te _ _ q1).drop _)⟩) rfl⟩
/-- a list that stands by itself, as an argument -/
def asLst (f : List D → AH → DK → Prop) : D → AH → DK → Prop := fun x A Q => match x with
  | .ref b => (match A b with
    | some (.lst zs) => f zs A Q
    | _ => False)
  | _ => False
theorem asLst_of {K : PySem.W.Frag} {H : Hp} {f : List D → AH → DK → Prop} {d : D} {v : V} {A : AH} {Q : DK} (o : ARel K H A) (r : Rep K H d v) (h : asLst f d A Q) : ∃ b zs ws, v = V.ref b ∧ H b = some (.lst ws) ∧ RepL K H zs ws ∧ f zs A Q := by
  obtain ⟨a, ys, vs, e, _, s1, q1, h⟩ := mL_of (f := fun _ zs _ A Q => f zs A Q) (xs := []) o r h
  exact ⟨a, ys, vs, e, s1, q1, h⟩
def mExtend : D → List D → AH → DK → Prop := mL fun a ys => rc1 (asLst fun zs A Q => ys.length + zs.length ≤ sizeLine ∧ Q .non (A.upd a (.lst (ys ++ zs))))
theorem mq_extend : MtQ X "list.extend" mExtend := by
  rintro pins s σ H x xs v us Q I rx rs ⟨d, ds, A, Qd, o, r1, rl, h, k⟩
  obtain ⟨a, ys, vs, e, ea, s1, q1, h⟩ := mL_of o r1 h
  obtain ⟨d1, w, e1, r2, h⟩ := rc1_of rl h
  obtain ⟨b, zs, ws, rfl, s2, q2, hz, h⟩ := asLst_of o r2 h
  have te := text_lst (o := .lst (vs ++ ws)) s1
  exact mt_extend pins s σ H x xs v us Q I rx rs ⟨a, b, vs, ws, e, e1, s1, s2, by rw [q1.length, q2.length]; exact hz, k _ _ _ _ h te (o.mut te ⟨_, L2.upd_same, (RepL.mono te _ _ q1).append (RepL.mono te _ _ q2)⟩) rfl⟩
/-- texts -/
def mJoin : D → List D → AH → DK → Prop := fun x xs A Q => asStr (fun a A Q => rc1 (fun y A Q => onS (seqOf A y) fun ds => onS (strsOf ds) fun ys => (ys.map (·.length)).sum + ys.length * a.length ≤ 16777216 ∧ Q (.str (Txt.join a ys)) A) xs A Q) x A Q
theorem mq_join : MtQ X "str.join" mJoin := by
  rintro pins s σ H x xs v us Q I rx rs ⟨d, ds, A, Qd, o, r1, rl, h, k⟩
  obtain ⟨a, ex, h⟩ := asStr_of r1 h
  obtain ⟨y, w, e1, r2, h⟩ := rc1_of rl h
  obtain ⟨zs, e, h⟩ := some_of h
  obtain ⟨ys, e4, hz, h⟩ := some_of h
  obtain ⟨p, vs, h1, h2, h3⟩ := seq_of o r2 e
  rw [strsOf_eq e4] at h2
  have ev := RepL.strs h2
  subst ev
  exact mt_join pins s σ H x xs v us Q I rx rs ⟨a, p, ys, ex, by rw [e1, h1], h3, hz, k _ A _ H h TExt.refl o rfl⟩
def mSplit : D → List D → AH → DK → Prop := fun x xs A Q => asStr (fun a A Q => rc1 (asStr fun b A Q => ((b.length == 0) = false ∧ a.length + 2 ≤ sizeLine) ∧ ∀ p, A p = none → Q (.ref p) (A.upd p (.lst ((Txt.split a b).map D.str)))) xs A Q) x A Q
theorem mq_split : MtQ X "str.split" mSplit := by
  rintro pins s σ H x xs v us Q I rx rs ⟨d, ds, A, Qd, o, r1, rl, h, k⟩
  obtain ⟨a, ex, h⟩ := asStr_of r1 h
  obtain ⟨y, w, e1, r2, h⟩ := rc1_of rl h
  obtain ⟨b, ew, ⟨h1, h2⟩, h⟩ := asStr_of r2 h
  exact mt_split pins s σ H x xs v us Q I rx rs ⟨a, b, ex, by rw [e1, ew], h1, h2, fun p hp => k _ _ _ _ (h p (o.free hp)) (TExt.new hp) (o.new hp ⟨_, L2.upd_same, RepL.of_strs _⟩) rfl⟩
end
end PD

/-! PdLoop: what is walked, for, list comprehensions, by data -/
namespace PD
open PySem PySem.Spec PyProof.Rows L2

/-- what is walked: the items, and what must stay so while it is walked -/
abbrev DTI := DSt → AH → (List D → (AH → Prop) → AH → Prop) → Prop
structure ItOk (K : PySem.W.Frag) (H0 : Hp) (J : It) (items : List D) (ok : AH → Prop) : Prop where
  stop : ∀ i A H, TExt H0 H → ARel K H A → ok A → items.length ≤ i → J.stop i H
  go : ∀ i A H d, TExt H0 H → ARel K H A → ok A → items[i]? = some d → J.go i H
  yld : ∀ i A H d x H', TExt H0 H → ARel K H A → ok A → items[i]? = some d → J.yld i H x H' → TExt H H' ∧ ARel K H' A ∧ Rep K H' d x
def LI (K : PySem.W.Frag) (ti : DTI) : TI := fun σ H R => ∃ ds A Rd, SRel K σ H ds A ∧ ti ds A Rd ∧ ∀ items ok A' J H', Rd items ok A' → TExt H H' → ARel K H' A' → ItOk K H' J items ok → R J H'
theorem PI.imp {X : Cx} {tg e : Expr} {t u : TI} (h : PI X tg e t) (i : ∀ σ H R, u σ H R → t σ H R) : PI X tg e u := ⟨fun pins s σ H R I q => h.run pins s σ H R I (i σ H R q)⟩
abbrev QI (X : Cx) (tg e : Expr) (t : DTI) : Prop := PI X tg e (LI X.K t)

section
variable {K : PySem.W.Frag} {H0 : Hp} {a : Addr} {ds : List D} {vs : List V}
theorem itok_list : ItOk K H0 (Itl K a) ds (fun A => seqA (A a) = some ds) where
  stop := fun i A H _ o e hi => by
    obtain ⟨vs, s1, q1⟩ := seqA_of o e
    exact ⟨vs, s1, by rw [q1.length]; exact hi⟩
  go := fun i A H d _ o e hd => by
    obtain ⟨vs, s1, q1⟩ := seqA_of o e
    obtain ⟨v, h1, _⟩ := q1.get hd
    exact ⟨vs, v, s1, h1⟩
  yld := fun i A H d x H' _ o e hd y => by
    obtain ⟨vs, s1, q1⟩ := seqA_of o e
    obtain ⟨v, h1, h2⟩ := q1.get hd
    obtain ⟨y1, y2⟩ := y
    subst y1
    have y3 := y2 vs s1
    rw [h1] at y3
    cases y3
    exact ⟨TExt.refl, o, h2⟩
theorem itok_tup (h : SqT K H0 a vs) (r : RepL K H0 ds vs) : ItOk K H0 (Itt K a) ds (fun _ => True) where
  stop := fun i A H e o _ hi => ⟨vs, e.sqt h, by rw [r.length]; exact hi⟩
  go := fun i A H d e o _ hd => by
    obtain ⟨v, h1, _⟩ := r.get hd
    exact ⟨vs, v, e.sqt h, h1⟩
  yld := fun i A H d x H' e o _ hd y => by
    obtain ⟨v, h1, h2⟩ := r.get hd
    obtain ⟨y1, y2⟩ := y
    subst y1
    have y3 := y2 vs (e.sqt h)
    rw [h1] at y3
    cases y3
    exact ⟨TExt.refl, o, Rep.mono e _ _ h2⟩
def signsD (x : Str) : List D := x.cps.toList.map fun c => .str ⟨#[c]⟩
theorem itok_str {x : Str} : ItOk K H0 (Its x) (signsD x) (fun _ => True) where
  stop := fun i A H e o _ hi => by
    unfold signsD at hi
    rw [List.length_map, Array.length_toList] at hi
    exact hi
  go := fun i A H d e o _ hd => by
    have h := (List.getElem?_eq_some_iff.mp hd).1
    unfold signsD at h
    rw [List.length_map, Array.length_toList] at h
    exact h
  yld := fun i A H d v H' e o _ hd y => by
    obtain ⟨y1, c, y2, y3⟩ := y
    subst y1 y3
    unfold signsD at hd
    rw [List.getElem?_map, Array.getElem?_toList, y2] at hd
    cases hd
    exact ⟨TExt.refl, o, rfl⟩
def rangeD (lo : Int) (n : Nat) : List D := (List.range n).map fun i => .int (lo + (i : Nat))
theorem rangeD_length {lo : Int} {n : Nat} : (rangeD lo n).length = n := by
  unfold rangeD
  rw [List.length_map, List.length_range]
theorem rangeD_get {lo : Int} {n i : Nat} {d : D} (h : (rangeD lo n)[i]? = some d) : i < n ∧ d = .int (lo + (i : Nat)) := by
  unfold rangeD at h
  rw [List.getElem?_map] at h
  cases e : (List.range n)[i]? with
  | none => rw [e] at h; cases h
  | some j =>
    rw [e] at h
    obtain ⟨h1, h2⟩ := List.getElem?_eq_some_iff.mp e
    rw [List.getElem_range] at h2
    rw [List.length_range] at h1
    subst h2
    exact ⟨h1, (Option.some.inj h).symm⟩
theorem itok_range {lo : Int} {n : Nat} : ItOk K H0 (Itr lo n) (rangeD lo n) (fun _ => True) where
  stop := fun i A H e o _ hi => by rw [rangeD_length] at hi; exact hi
  go := fun i A H d e o _ hd => (rangeD_get hd).1
  yld := fun i A H d v H' e o _ hd y => by
    obtain ⟨y1, y2⟩ := y
    subst y1 y2
    rw [(rangeD_get hd).2]
    exact ⟨TExt.refl, o, rfl⟩
def enumD (ds : List D) : List D := ds.zipIdx.map fun p => .tup [.int (p.2 : Nat), p.1]
theorem enumD_get {ds : List D} {i : Nat} {d : D} (h : (enumD ds)[i]? = some d) : ∃ x, ds[i]? = some x ∧ d = .tup [.int (i : Nat), x] := by
  unfold enumD at h
  rw [List.getElem?_map, List.getElem?_zipIdx] at h
  cases e : ds[i]? with
  | none => rw [e] at h; cases h
  | some x =>
    rw [e] at h
    refine ⟨x, rfl, ?_⟩
    have h' := Option.some.inj h
    rw [← h']
    simp
theorem enumD_length {ds : List D} : (enumD ds).length = ds.length := by
  unfold enumD
  rw [List.length_map, List.length_zipIdx]
theorem itok_enum : ItOk K H0 (Ite K a) (enumD ds) (fun A => seqA (A a) = some ds) where
  stop := fun i A H _ o e hi => by
    obtain ⟨vs, s1, q1⟩ := seqA_of o e
    rw [enumD_length] at hi
    exact ⟨vs, s1, by rw [q1.length]; exact hi⟩
  go := fun i A H d _ o e hd => by
    obtain ⟨vs, s1, q1⟩ := seqA_of o e
    obtain ⟨x, hx, _⟩ := enumD_get hd
    obtain ⟨v, h1, _⟩ := q1.get hx
    exact ⟨vs, v, s1, h1⟩
  yld := fun i A H d v H' _ o e hd y => by
    obtain ⟨vs, s1, q1⟩ := seqA_of o e
    obtain ⟨x, hx, rfl⟩ := enumD_get hd
    obtain ⟨z, h1, h2⟩ := q1.get hx
    obtain ⟨T, w, y1, y2, y3, y4⟩ := y
    subst y1 y3
    have y5 := y4 vs s1
    rw [h1] at y5
    cases y5
    exact ⟨TExt.new y2, o.newT y2, T, _, rfl, SqT.of L2.upd_same, ⟨_, _, rfl, rfl, _, _, rfl, Rep.mono (TExt.new y2) _ _ h2, rfl⟩⟩
end

section
variable {X : Cx} {tg e l : Expr} {te : DTE} {pos : Pos}
def iSeq (te : DTE) : DTI := fun ds A R => te ds A fun x A1 => match x with
  | .tup xs => R xs (fun _ => True) A1
  | .str z => R (signsD z) (fun _ => True) A1
  | .ref a => onS (seqA (A1 a)) fun xs => R xs (fun A => seqA (A a) = some xs) A1
  | _ => False
theorem qi_seq (hl : QE X l te) : QI X tg l (iSeq te) := by
  constructor
  rintro pins s σ H R I ⟨ds, A, Rd, S, h, k⟩
  refine thn (hl.run pins s σ H (fun v H1 => ∃ x A1, Rep X.K H1 x v ∧ TExt H H1 ∧ ARel X.K H1 A1 ∧ (match x with
    | .tup xs => Rd xs (fun _ => True) A1
    | .str z => Rd (signsD z) (fun _ => True) A1
    | .ref a => onS (seqA (A1 a)) fun xs => Rd xs (fun A => seqA (A a) = some xs) A1
    | _ => False)) I ⟨ds, A, _, S, h, fun x A1 v H1 h1 e1 o1 r1 => ⟨x, A1, r1, e1, o1, h1⟩⟩) fun v s1 ⟨y, H1, I1, ry, x, A1, r1, e1, o1, h1⟩ => ?_
  cases x with
  | tup xs =>
    obtain ⟨p, vs, ev, s2, q2⟩ := r1
    subst ev
    cases ry
    obtain ⟨its, rv, pt, hz⟩ := I1.tuple s2
    refine wpAny_pyIter_tuple (show s1.heap.IsTuple p its.toArray from pt) ?_
    refine ⟨s1.heap.objs.size, [s1.heap.objs.size], _, _, H1, rfl, I1.kept (t' := s1.toks) fun b o e => Heap.get?_push_of_some _ e, turn_tuple p _, ⟨_, Heap.get?_push_size _ rfl, rfl, rfl⟩, fun b hb => ?_, k xs _ A1 _ H1 h1 e1 o1 (itok_tup s2 q2)⟩
    rw [List.mem_singleton.mp hb]
    exact I1.fpOk (Nat.le_refl _) (I1.hok.fresh (Nat.le_refl _))
  | str z =>
    rw [show y = V.str z from r1] at ry
    obtain ⟨t, rfl⟩ := ry
    have q := k (signsD z) _ A1 (Its z) H1 h1 e1 o1 itok_str
    cases ha : z.cps.all (· < 128)
    · exact wpAny_pyIter_wide ha (pi_one (tk := s1.toks) I1 _ (turn_str _ z t "str_iterator" (.inr rfl)) ⟨_, Heap.get?_push_size _ rfl, rfl, rfl⟩ q)
    · exact wpAny_pyIter_ascii ha (pi_one (tk := s1.toks) I1 _ (turn_str _ z t "str_ascii_iterator" (.inl rfl)) ⟨_, Heap.get?_push_size _ rfl, rfl, rfl⟩ q)
  | ref a =>
    rw [show y = V.ref a from r1] at ry
    cases ry
    obtain ⟨xs, ex, h1⟩ := some_of h1
    obtain ⟨vs, s2, q2⟩ := seqA_of o1 ex
    obtain ⟨its, rv, pl, hz⟩ := I1.list s2
    refine wpAny_pyIter_list pl.isList ?_
    refine ⟨s1.heap.objs.size, [s1.heap.objs.size], _, _, H1, rfl, I1.kept (t' := s1.toks) fun b o e => Heap.get?_push_of_some _ e, turn_list a _, ⟨_, Heap.get?_push_size _ rfl, rfl, rfl⟩, fun b hb => ?_, k xs _ A1 _ H1 h1 e1 o1 itok_list⟩
    rw [List.mem_singleton.mp hb]
    exact I1.fpOk (Nat.le_refl _) (I1.hok.fresh (Nat.le_refl _))
  | _ => exact False.elim h1
def iRange1 (tr : DTA) : DTI := fun ds A R => tr ds A fun xs A1 => match xs with
  | [.int j] => (-(2 ^ 62) ≤ j ∧ j < 2 ^ 62) ∧ R (rangeD 0 j.toNat) (fun _ => True) A1
  | _ => False
def iRange2 (tr : DTA) : DTI := fun ds A R => tr ds A fun xs A1 => match xs with
  | [.int i, .int j] => (-(2 ^ 62) ≤ i ∧ i < 2 ^ 62 ∧ -(2 ^ 62) ≤ j ∧ j < 2 ^ 62) ∧ R (rangeD i (j - i).toNat) (fun _ => True) A1
  | _ => False
theorem qi_range1 {a : Expr} {tr : DTA} {p : Pos} (hg : Gl X "range") (hm : X.mg "range" = none) (ha : QA X [a] tr) (hs : starEach [a] X.env = [(false, eval a X.env)] := by rfl) : QI X tg (.Call (.Name "range" p) [a] [] pos) (iRange1 tr) :=
  PI.imp (pi_range1 hg hm ha hs) fun σ H R ⟨ds, A, Rd, S, h, k⟩ => ⟨ds, A, _, S, h, fun xs A1 vs H1 h1 e1 o1 r1 => by
    split at h1
    · rename_i j
      obtain ⟨v, w, ev, r2, ew⟩ := r1
      exact ⟨j, by rw [ev, show v = _ from r2, show w = [] from ew], h1.1.1, h1.1.2, k _ _ A1 _ H1 h1.2 e1 o1 itok_range⟩
    · exact h1.elim⟩
theorem qi_range2 {a b : Expr} {tr : DTA} {p : Pos} (hg : Gl X "range") (hm : X.mg "range" = none) (ha : QA X [a, b] tr) (hs : starEach [a, b] X.env = [(false, eval a X.env), (false, eval b X.env)] := by rfl) (hs2 : starEach [b] X.env = [(false, eval b X.env)] := by rfl) : QI X tg (.Call (.Name "range" p) [a, b] [] pos) (iRange2 tr) :=
  PI.imp (pi_range2 hg hm ha hs hs2) fun σ H R ⟨ds, A, Rd, S, h, k⟩ => ⟨ds, A, _, S, h, fun xs A1 vs H1 h1 e1 o1 r1 => by
    split at h1
    · rename_i i j
      obtain ⟨v, w, ev, r2, v2, w2, ew, r3, ew2⟩ := r1
      exact ⟨i, j, by rw [ev, ew, show v = _ from r2, show v2 = _ from r3, show w2 = [] from ew2], h1.1, k _ _ A1 _ H1 h1.2 e1 o1 itok_range⟩
    · exact h1.elim⟩
def iEnumL (tr : DTA) : DTI := fun ds A R => tr ds A fun xs A1 => match xs with
  | [.ref a] => onS (seqA (A1 a)) fun xs => R (enumD xs) (fun A => seqA (A a) = some xs) A1
  | _ => False
theorem qi_enum {e : Expr} {tr : DTA} {p tpos : Pos} {elts : List Expr} {kk : Nat} (hg : Gl X "enumerate") (hm : X.mg "enumerate" = none) (ha : QA X [e] tr) (hs : starEach [e] X.env = [(false, eval e X.env)] := by rfl) :
    QI X (.Tuple elts kk tpos) (.Call (.Name "enumerate" p) [e] [] pos) (iEnumL tr) := PI.imp (pi_enum hg hm ha hs) fun σ H R ⟨ds, A, Rd, S, h, k⟩ => ⟨ds, A, _, S, h, fun xs A1 vs H1 h1 e1 o1 r1 => by
    split at h1
    · rename_i a
      obtain ⟨ys, ey, h1⟩ := some_of h1
      obtain ⟨us, s2, q2⟩ := seqA_of o1 ey
      obtain ⟨v, w, ev, r2, ew⟩ := r1
      exact ⟨a, us, by rw [ev, show v = _ from r2, show w = [] from ew], s2, k _ _ A1 _ H1 h1 e1 o1 itok_enum⟩
    · exact h1.elim⟩

/-! ### for -/
def forL (ok : AH → Prop) (g : DTG) (tb : DTS) (D : DEnds) : List PD.D → DSt → AH → Prop
  | [], ds, A => ok A ∧ D.nx ds A
  | x :: xs, ds, A => ok A ∧ g x ds A fun ds1 A1 => tb { D with nx := forL ok g tb D xs, ct := forL ok g tb D xs, bk := D.nx } ds1 A1
def dFor (ti : DTI) (g : DTG) (tb : DTS) : DTS := fun D ds A => ti ds A fun items ok A1 => forL ok g tb D items ds A1
theorem qs_for {iter : Expr} {body : List Stmt} {ti : DTI} {g : DTG} {tb : DTS} (hp : PassesOwn (model X.prog X.w) X.A X.env X.xe) (hc : X.calm = true) (hi : QI X tg iter ti) (hg : QG X tg g) (hb : QSs X body tb)
    (hs : ∀ x, foldedSetIterable iter X.env x = pure x := by intro _; rfl) : QS X (.For tg iter body [] pos) (dFor ti g tb) := PS.imp (ps_for hp hc hi hg hb hs) fun De σ H ⟨ds, A, Dd, S, h, k1, k2, k3, k4⟩ => by
  refine ⟨ds, A, _, S, h, fun items ok A1 J H1 h1 e1 o1 itok => ?_⟩
  have w0 : forL ok g tb Dd (items.drop 0) ds A1 := h1
  refine ⟨fun i m σ' H' => m = items.length - i ∧ i ≤ items.length ∧ TExt H1 H' ∧ ∃ ds' A', SRel X.K σ' H' ds' A' ∧ forL ok g tb Dd (items.drop i) ds' A', ⟨_, rfl, Nat.zero_le _, TExt.refl, ds, A1, S.to e1 o1, w0⟩, ?_⟩
  rintro i m σ2 H2 ⟨rfl, hi, e2, ds2, A2, S2, w2⟩
  by_cases hl : i < items.length
  · obtain ⟨x, ex⟩ : ∃ x, items[i]? = some x := ⟨_, List.getElem?_eq_getElem hl⟩
    have ed : items.drop i = x :: items.drop (i + 1) := by
      rw [List.drop_eq_getElem_cons hl]
      rw [List.getElem?_eq_getElem hl] at ex
      rw [Option.some.inj ex]
    rw [ed] at w2
    obtain ⟨hok, w2⟩ := w2
    refine .inr ⟨itok.go i A2 H2 x e2 S2.obj hok ex, fun σ' H' => TExt H1 H' ∧ ∃ ds' A', SRel X.K σ' H' ds' A' ∧ forL ok g tb Dd (items.drop (i + 1)) ds' A', fun σ' H' ⟨e', q⟩ => ⟨_, by omega, rfl, hl, e', q⟩, fun v H3 y => ?_⟩
    obtain ⟨e3, o3, r3⟩ := itok.yld i A2 H2 x v H3 e2 S2.obj hok ex y
    refine ⟨x, ds2, A2, _, S2.to e3 o3, r3, w2, fun ds4 A4 σ4 H4 h4 e4 S4 => ?_⟩
    have e14 := (e2.trans e3).trans e4
    refine ⟨ds4, A4, _, S4, h4, ?_, ?_, ?_, ?_⟩
    · exact fun ds5 A5 σ5 H5 h5 e5 S5 => ⟨e14.trans e5, ds5, A5, S5, h5⟩
    · exact fun a b c d x y z => k2 a b c d x (e1.trans (e14.trans y)) z
    · exact fun a b c d x y z => k1 a b c d x (e1.trans (e14.trans y)) z
    · exact fun ds5 A5 σ5 H5 h5 e5 S5 => ⟨e14.trans e5, ds5, A5, S5, h5⟩
  · have ei : i = items.length := by omega
    rw [ei, List.drop_length] at w2
    obtain ⟨hok, w2⟩ := w2
    exact .inl ⟨itok.stop i A2 H2 e2 S2.obj hok (by omega), k1 ds2 A2 σ2 H2 w2 (e1.trans e2) S2⟩

/-! ### list comprehensions -/
def wipeD (ds : DSt) : List Nat → DSt
  | [] => ds
  | v :: vs => (wipeD ds vs).set v none
theorem SRel.unset {K : PySem.W.Frag} {σ : L2.St} {H : Hp} {ds : DSt} {A : AH} (S : SRel K σ H ds A) (i : Nat) : SRel K (σ.set i none) H (ds.set i none) A := by
  refine ⟨by simp [S.len], fun j d' hd => ?_, S.obj⟩
  by_cases hj : i = j
  · subst hj
    rw [List.getElem?_set] at hd
    simp only [if_true] at hd
    split at hd <;> cases hd
  · rw [List.getElem?_set_ne hj] at hd ⊢
    exact S.var j d' hd
theorem SRel.wipe {K : PySem.W.Frag} {σ : L2.St} {H : Hp} {ds : DSt} {A : AH} (S : SRel K σ H ds A) : ∀ vs : List Nat, SRel K (L2.wipe σ vs) H (wipeD ds vs) A
  | [] => S
  | v :: vs => (SRel.wipe S vs).unset v
/-- a target that stores at the slots vs alone -/
def LGv (K : PySem.W.Frag) (vs : List Nat) (g : DTG) : TG := fun v σ H Q => ∃ d ds A Qd, SRel K σ H ds A ∧ Rep K H d v ∧ g d ds A Qd ∧ ∀ ds' A' σ' H', Qd ds' A' → TExt H H' → SRel K σ' H' ds' A' → L2.wipe σ' vs = L2.wipe σ vs → Q σ' H'
def LGsv (K : PySem.W.Frag) (vs : List Nat) (g : DTGs) : TGs := fun v σ H Q => ∃ d ds A Qd, SRel K σ H ds A ∧ RepL K H d v ∧ g d ds A Qd ∧ ∀ ds' A' σ' H', Qd ds' A' → TExt H H' → SRel K σ' H' ds' A' → L2.wipe σ' vs = L2.wipe σ vs → Q σ' H'
abbrev QGv (X : Cx) (vs : List Nat) (e : Expr) (t : DTG) : Prop := PG X e (LGv X.K vs t)
abbrev QGsv (X : Cx) (vs : List Nat) (e : List Expr) (t : DTGs) : Prop := PGs X e (LGsv X.K vs t)
theorem wipe_set {σ : L2.St} {i : Nat} {v : Option V} : ∀ {vs : List Nat}, i ∈ vs → L2.wipe (σ.set i v) vs = L2.wipe σ vs
  | [], h => (List.not_mem_nil h).elim
  | w :: vs, h => by
    unfold L2.wipe
    by_cases hm : i ∈ vs
    · rw [wipe_set hm]
    · have e : i = w := by
        rcases List.mem_cons.mp h with e | e
        · exact e
        · exact absurd e hm
      subst e
      have com : ∀ us : List Nat, i ∉ us → L2.wipe (σ.set i v) us = (L2.wipe σ us).set i v := by
        intro us
        induction us with
        | nil => intro _; rfl
        | cons u us ih =>
          intro hn
          unfold L2.wipe
          rw [ih fun z => hn (List.mem_cons_of_mem _ z), List.set_comm _ _ fun z => hn (by rw [z]; exact List.mem_cons_self)]
      rw [com vs hm, List.set_set]
theorem qgv_name (i : Nat) {vs : List Nat} {x : Str} (hN : X.N.Nodup) (hv : i ∈ vs := by decide) (hi : X.N[i]? = some x := by rfl) (hx : Loc X.env.scope x := by first | exact Or.inl rfl | exact Or.inr rfl) (hf : X.fn x = true ∨ X.env.scope.names.lookup x = some .local := by first | exact .inl rfl | exact .inr rfl | assumption) : QGv X vs (.Name x pos) (dgName i) :=
  PG.imp (pg_name hN hi hx hf) fun v σ H Q ⟨d, ds, A, Qd, S, r, h, k⟩ => k _ A _ H h TExt.refl (S.set i r) (wipe_set hv)
theorem qgsv_nil {vs : List Nat} : QGsv X vs [] dgNil := PGs.imp pgs_nil fun v σ H Q ⟨d, ds, A, Qd, S, r, h, k⟩ => by
  obtain ⟨e, h⟩ := h
  subst e
  exact ⟨r, k ds A σ H h TExt.refl S rfl⟩
theorem qgsv_cons {vs : List Nat} {es : List Expr} {g : DTG} {gs : DTGs} (h1 : QGv X vs e g) (h2 : QGsv X vs es gs) (hs : (assignEach (e :: es) X.env).map (·.2) = assign e X.env :: (assignEach es X.env).map (·.2) := by rfl) : QGsv X vs (e :: es) (dgCons g gs) :=
  PGs.imp (pgs_cons h1 h2 hs) fun v σ H Q ⟨d, ds, A, Qd, S, r, h, k⟩ => by
    cases d with
    | nil => exact h.elim
    | cons d dr =>
      obtain ⟨v1, vr, rfl, r1, r2⟩ := r
      exact ⟨v1, vr, rfl, d, ds, A, _, S, r1, h, fun ds' A' σ' H' h' e' S' w' => ⟨dr, ds', A', Qd, S', RepL.mono e' _ _ r2, h', fun a b c d x y z w => k a b c d x (e'.trans y) z (w.trans w')⟩⟩
theorem qgv_tup {vs : List Nat} {es : List Expr} {k : Nat} {g : DTGs} {n : Nat} (hc : X.calm = true) (h : QGsv X vs es g) (hn : (assignEach es X.env).length = n := by rfl) (hst : (assignEach es X.env).findIdx? (·.1) = none := by rfl) : QGv X vs (.Tuple es k pos) (dgTup n g) :=
  PG.imp (pg_tup hc h hn hst) fun v σ H Q ⟨d, ds, A, Qd, S, r, h, k⟩ => by
    cases d with
    | tup xs =>
      obtain ⟨p, vs, rfl, h1, h2⟩ := r
      exact ⟨p, vs, rfl, h1, by rw [h2.length]; exact h.1, xs, ds, A, Qd, S, h2, h.2, k⟩
    | _ => exact h.elim
def dYes : DTT := fun _ A Q => Q true A
abbrev QTs (X : Cx) (ifs : List Expr) (t : DTT) : Prop := PTs X ifs (LT X.K t)
theorem PTs.imp {ifs : List Expr} {t u : TT} (h : PTs X ifs t) (i : ∀ σ H Q, u σ H Q → t σ H Q) : PTs X ifs u := ⟨fun pins s σ H Q I q => h.run pins s σ H Q I (i σ H Q q)⟩
theorem qts_nil : QTs X [] dYes := PTs.imp pts_nil fun _ H _ ⟨_, A, _, S, h, k⟩ => k true A H h TExt.refl S.obj
theorem qts_one {c : Expr} {t : DTT} (h : QT X c t) : QTs X [c] t := pts_one h
/-- an item's turn: what is put behind, if anything -/
def stepL (g : DTG) (tt : DTT) (te : DTE) (ds : DSt) (x : D) (A : AH) (Q : Option D → AH → Prop) : Prop :=
  g x ds A fun ds1 A1 => tt ds1 A1 fun b A2 => if b = true then te ds1 A2 fun d A3 => Q (some d) A3 else Q none A2
def compL (ok : AH → Prop) (step : D → AH → (Option D → AH → Prop) → Prop) (p : Addr) (Q : DK) : List D → AH → Prop
  | [], A => ok A ∧ Q (.ref p) A
  | x :: xs, A => ok A ∧ step x A fun o A1 => match o with
    | some d => ∃ acc, A1 p = some (.lst acc) ∧ acc.length < sizeLine ∧ compL ok step p Q xs (A1.upd p (.lst (acc ++ [d])))
    | none => compL ok step p Q xs A1
def dLc (ti : DTI) (g : DTG) (tt : DTT) (te : DTE) (vs : List Nat) : DTE := fun ds A Q => ti ds A fun items ok A1 => ∀ p, A1 p = none → compL ok (stepL g tt te (wipeD ds vs)) p Q items (A1.upd p (.lst []))
theorem LE.lc {K : PySem.W.Frag} {σ : L2.St} {H : Hp} {Q : VK} {ti : DTI} {g : DTG} {tt : DTT} {te : DTE} {vs : List Nat} (h : LE K (dLc ti g tt te vs) σ H Q) : tLc (LI K ti) (LGv K vs g) (LT K tt) (LE K te) vs σ H Q := by
  obtain ⟨ds, A, Qd, S, h, k⟩ := h
  refine ⟨ds, A, _, S, h, fun items ok A1 J H1 h1 e1 o1 itok p hp => ?_⟩
  have tp := TExt.new (o := .lst []) hp
  have o2 : ARel K (L2.upd H1 p (.lst [])) (A1.upd p (.lst [])) := o1.new hp ⟨[], L2.upd_same, rfl⟩
  have w0 : compL ok (stepL g tt te (wipeD ds vs)) p Qd (items.drop 0) (A1.upd p (.lst [])) := h1 p (o1.free hp)
  refine ⟨fun i m H' => m = items.length - i ∧ i ≤ items.length ∧ TExt H1 H' ∧ ∃ A', ARel K H' A' ∧ compL ok (stepL g tt te (wipeD ds vs)) p Qd (items.drop i) A', ⟨_, rfl, Nat.zero_le _, tp, _, o2, w0⟩, ?_⟩
  rintro i m H2 ⟨rfl, hi, e2, A2, o2, w2⟩
  by_cases hl : i < items.length
  · obtain ⟨x, ex⟩ : ∃ x, items[i]? = some x := ⟨_, List.getElem?_eq_getElem hl⟩
    have ed : items.drop i = x :: items.drop (i + 1) := by
      rw [List.drop_eq_getElem_cons hl]
      rw [List.getElem?_eq_getElem hl] at ex
      rw [Option.some.inj ex]
    rw [ed] at w2
    obtain ⟨hok, w2⟩ := w2
    refine .inr ⟨itok.go i A2 H2 x e2 o2 hok ex, fun H' => TExt H1 H' ∧ ∃ A', ARel K H' A' ∧ compL ok (stepL g tt te (wipeD ds vs)) p Qd (items.drop (i + 1)) A', fun H' ⟨e', q⟩ => ⟨_, by omega, rfl, hl, e', q⟩, fun v H3 y => ?_⟩
    obtain ⟨e3, o3, r3⟩ := itok.yld i A2 H2 x v H3 e2 o2 hok ex y
    refine ⟨x, wipeD ds vs, A2, _, ((S.to (e1.trans (e2.trans e3)) o3).wipe vs), r3, w2, fun ds4 A4 σ4 H4 h4 e4 S4 w4 => ⟨by rw [w4]; exact wipe_wipe σ vs, ?_⟩⟩
    refine ⟨ds4, A4, _, S4, h4, fun b A5 H5 h5 e5 o5 => ?_⟩
    cases b with
    | false =>
      rw [if_neg Bool.false_ne_true]
      exact ⟨((e2.trans e3).trans e4).trans e5, A5, o5, h5⟩
    | true =>
      rw [if_pos rfl]
      refine ⟨ds4, A5, _, S4.to e5 o5, h5, fun d A6 u H6 ⟨acc, ea, hz, h6⟩ e6 o6 r6 => ?_⟩
      obtain ⟨us, s1, q1⟩ := o6 _ _ ea
      have te := text_lst (o := .lst (us ++ [u])) s1
      exact ⟨us, s1, by rw [q1.length]; exact hz, (((e2.trans e3).trans e4).trans e5).trans (e6.trans te), _, o6.mut (u := .lst (acc ++ [d])) te ⟨_, L2.upd_same, (RepL.mono te _ _ q1).snoc (Rep.mono te _ _ r6)⟩, h6⟩
  · have ei : i = items.length := by omega
    rw [ei, List.drop_length] at w2
    obtain ⟨hok, w2⟩ := w2
    exact .inl ⟨itok.stop i A2 H2 e2 o2 hok (by omega), k _ A2 _ H2 w2 (e1.trans e2) o2 rfl⟩
where
  wipe_wipe (σ : L2.St) : ∀ vs : List Nat, L2.wipe (L2.wipe σ vs) vs = L2.wipe σ vs := fun vs => by
    have gen : ∀ (us ws : List Nat), (∀ u ∈ us, u ∈ ws) → L2.wipe (L2.wipe σ us) ws = L2.wipe σ ws := by
      intro us
      induction us with
      | nil => intro ws _; rfl
      | cons u us ih =>
        intro ws hw
        rw [show L2.wipe σ (u :: us) = (L2.wipe σ us).set u none from rfl, wipe_set (hw u List.mem_cons_self)]
        exact ih ws fun z hz => hw z (List.mem_cons_of_mem _ hz)
    exact gen vs vs fun _ h => h
theorem q_lc {elt iter : Expr} {ifs : List Expr} {scope : Scope} {own : List (Str × Nat)} {ti : DTI} {g : DTG} {tt : DTT} {te : DTE} (hc : X.calm = true) (hN : X.N.Nodup) (ok : BlkOk X.N X.env.scope scope own) (hi : QI X tg iter ti)
    (hg : ∀ (s : Shared) (H : Hp) (C : Addr) (cl : List (Str × Addr)) (fp : List Addr), QGv (X.blk s H scope (compEnvC scope cl C X.env) fp) (own.map (·.2)) tg g) (ht : ∀ (s : Shared) (H : Hp) (C : Addr) (cl : List (Str × Addr)) (fp : List Addr), QTs (X.blk s H scope (compEnvC scope cl C X.env) fp) ifs tt)
    (he : ∀ (s : Shared) (H : Hp) (C : Addr) (cl : List (Str × Addr)) (fp : List Addr), QE (X.blk s H scope (compEnvC scope cl C X.env) fp) elt te) (hs : ∀ x, foldedSetIterable iter X.env x = pure x := by intro _; rfl) :
    QE X (.ListComp elt [⟨tg, iter, ifs, 0⟩] scope pos) (dLc ti g tt te (own.map (·.2))) := PE.imp (pe_lc hc hN hi ok hg ht he hs) fun _ _ _ => LE.lc
theorem qs_setLc (i : Nat) {y : Str} {py : Pos} {elt iter : Expr} {ifs : List Expr} {scope : Scope} {own : List (Str × Nat)} {spos : Pos} {ti : DTI} {g : DTG} {tt : DTT} {te : DTE} (hc : X.calm = true) (hN : X.N.Nodup) (ok : BlkOk X.N X.env.scope scope own)
    (hi : QI X tg iter ti) (hg : ∀ (s : Shared) (H : Hp) (C : Addr) (cl : List (Str × Addr)) (fp : List Addr), QGv (X.blk s H scope (compEnvC scope cl C X.env) fp) (own.map (·.2)) tg g) (ht : ∀ (s : Shared) (H : Hp) (C : Addr) (cl : List (Str × Addr)) (fp : List Addr), QTs (X.blk s H scope (compEnvC scope cl C X.env) fp) ifs tt)
    (he : ∀ (s : Shared) (H : Hp) (C : Addr) (cl : List (Str × Addr)) (fp : List Addr), QE (X.blk s H scope (compEnvC scope cl C X.env) fp) elt te) (hs : ∀ x, foldedSetIterable iter X.env x = pure x := by intro _; rfl)
    (hy : X.N[i]? = some y := by rfl) (hyl : X.env.scope.names.lookup y = some .local := by rfl) (hsw : swapsWith (.ListComp elt [⟨tg, iter, ifs, 0⟩] scope pos) (some (.Name y py)) spos.line X.env = pure true := by exact sw_true rfl rfl rfl (by decide +kernel)) :
    QS X (.Assign [.Name y py] (.ListComp elt [⟨tg, iter, ifs, 0⟩] scope pos) spos) (dAsg (dLc ti g tt te (own.map (·.2))) (dgName i)) := PS.imp (ps_setLc hc hN hy hyl hsw hi ok hg ht he hs) fun D σ H h => by
    obtain ⟨ds, A, Dd, S, h, k1, k2, k3, k4⟩ := h
    exact LE.lc ⟨ds, A, _, S, h, fun x A1 v H1 h1 e1 o1 r1 => k1 _ A1 _ H1 h1 e1 ((S.to e1 o1).set i r1)⟩
end
end PD

/-! PdMore: stores to items, constants of the module, written tables, by data -/
namespace PD
open PySem PySem.Spec PyProof.Rows L2

section
variable {X : Cx} {e o i : Expr} {te to ti : DTE} {pos p : Pos}
/-! ### o[i] = v -/
abbrev DSet := D → D → D → AH → (AH → Prop) → Prop
def LSet (K : PySem.W.Frag) (r : DSet) : TSet := fun o i v H Q => ∃ d1 d2 d3 A Qd, ARel K H A ∧ Rep K H d1 o ∧ Rep K H d2 i ∧ Rep K H d3 v ∧ r d1 d2 d3 A Qd ∧ ∀ A' H', Qd A' → TExt H H' → ARel K H' A' → Q H'
def dgSub (to ti : DTE) (r : DSet) : DTG := fun d ds A Q => to ds A fun x A1 => ti ds A1 fun y A2 => r x y d A2 fun A3 => Q ds A3
theorem qg_sub {r : DSet} (ho : QE X o to) (hi : QE X i ti) (hs : PSet X (LSet X.K r))
    (ha : ∀ v, assign (.Subscript o i pos) X.env v = (do
      let ov ← holding [v] (eval o X.env)
      let iv ← holding [v, ov] (eval i X.env)
      standAt pos
      holding [v, ov, iv] (setItem ov iv v)
      release [v, ov, iv] []) := by intro _; rfl) : QG X (.Subscript o i pos) (dgSub to ti r) := PG.imp (pg_sub ho hi hs ha) fun v σ H Q ⟨d, ds, A, Qd, S, rv, h, k⟩ =>
  ⟨ds, A, _, S, h, fun x A1 ov H1 h1 e1 o1 r1 => ⟨ds, A1, _, S.to e1 o1, h1, fun y A2 iv H2 h2 e2 o2 r2 =>
    ⟨x, y, d, A2, _, o2, Rep.mono e2 _ _ r1, r2, Rep.mono (e1.trans e2) _ _ rv, h2, fun A3 H3 h3 e3 o3 => k ds A3 σ H3 h3 ((e1.trans e2).trans e3) (S.to ((e1.trans e2).trans e3) o3)⟩⟩⟩
def setL : DSet := fun x y d A Q => match x, y with
  | .ref a, .int k => (match A a with
    | some (.lst xs) => onS (ixN xs.length k) fun j => Q (A.upd a (.lst (xs.set j d)))
    | _ => False)
  | _, _ => False
theorem sq_setL : PSet X (LSet X.K setL) := by
  rintro pins s σ H o i v ov iv u Q I ro ri rv ⟨d1, d2, d3, A, Qd, oo, r1, r2, r3, h, k⟩
  cases d1 with
  | ref a =>
    cases d2 with
    | int j =>
      obtain ⟨b, ys, vs, e, ea, s1, q1, h⟩ := mL_of (f := fun a ys _ A Q => onS (ixN ys.length j) fun m => Qd (A.upd a (.lst (ys.set m d3)))) (xs := []) (Q := fun _ _ => True) oo r1 h
      obtain ⟨m, em, h⟩ := some_of h
      have te := text_lst (o := .lst (vs.set m v)) s1
      exact set_list pins s σ H o i v ov iv u Q I ro ri rv ⟨b, vs, j, m, e, r2, s1, by rw [q1.length]; exact em, k _ _ h te (oo.mut te ⟨_, L2.upd_same, (RepL.mono te _ _ q1).set m (Rep.mono te _ _ r3)⟩)⟩
    | _ => exact False.elim h
  | _ => exact False.elim h

/-! ### constants of the module -/
theorem q_gstr {x z : Str} (h : ∃ t, X.mg x = some (.str z t)) (hg : Gl X x) (hd : (x == ("__debug__" : Str)) = false := by decide) : QE X (.Name x pos) (dC (.str z)) := by
  obtain ⟨t, h⟩ := h
  exact q_glob (v := .str z) hg h ⟨t, rfl⟩ (fun _ => rfl) hd
theorem q_gint {x : Str} {z : Int} (h : ∃ t, X.mg x = some (.int z t)) (hg : Gl X x) (hd : (x == ("__debug__" : Str)) = false := by decide) : QE X (.Name x pos) (dC (.int z)) := by
  obtain ⟨t, h⟩ := h
  exact q_glob (v := .int z) hg h ⟨t, rfl⟩ (fun _ => rfl) hd
/-- a tuple of texts that stands in the written part -/
def tupS (K : PySem.W.Frag) (a : Addr) (vs : List Str) : Bool := match K.lookup a with
  | some ⟨.type c, _, .seq its _, _⟩ => decide (c = "tuple") && (decide (its.size ≤ sizeLine) && He.relAll (vs.map V.str) its.toList)
  | _ => false
theorem tupS_ok {K : PySem.W.Frag} {a : Addr} {vs : List Str} (h : tupS K a vs = true) (H : Hp) : Rep K H (.tup (vs.map D.str)) (.ref a) := by
  unfold tupS at h
  cases q : K.lookup a with
  | none => rw [q] at h; cases h
  | some o =>
    obtain ⟨oc, od, dt, osl⟩ := o
    rw [q] at h
    cases oc with
    | type c =>
      cases dt with
      | seq its n =>
        obtain ⟨h1, h2⟩ := He.ba (show (decide (c = "tuple") && (decide (its.size ≤ sizeLine) && He.relAll (vs.map V.str) its.toList)) = true from h)
        obtain ⟨h3, h4⟩ := He.ba h2
        exact ⟨a, vs.map V.str, rfl, .inr ⟨_, its, n, q, congrArg Value.type (of_decide_eq_true h1), rfl, of_decide_eq_true h3, He.relAll_ok h4⟩, RepL.of_strs vs⟩
      | _ => cases h
    | _ => cases dt <;> cases h
theorem q_gtup {x : Str} {a : Addr} {vs : List Str} (hm : X.mg x = some (.ref a)) (h : tupS X.K a vs = true) (hg : Gl X x) (hd : (x == ("__debug__" : Str)) = false := by decide) : QE X (.Name x pos) (dC (.tup (vs.map D.str))) :=
  q_glob (v := .ref a) hg hm rfl (fun H => tupS_ok h H) hd
/-- a written dict of the module, from texts to tuples of texts -/
structure Tab (K : PySem.W.Frag) (w : World) (a : Addr) (tb : List (Str × List Str)) : Prop where
  dic : ∃ es n, KDict K w a es n
  has : ∀ z vs, tb.lookup z = some vs → ∃ q, PySem.W.nsIn K a z = some (some (.ref q)) ∧ tupS K q vs = true
def dTab (tb : List (Str × List Str)) (te : DTE) : DTE := fun ds A Q => te ds A fun x A1 => asStr (fun z A Q => onS (tb.lookup z) fun vs => Q (.tup (vs.map D.str)) A) x A1 Q
theorem q_tab {x : Str} {a : Addr} {tb : List (Str × List Str)} {p2 : Pos} (hm : X.mg x = some (.ref a)) (T : Tab X.K X.w a tb) (hg : Gl X x) (he : QE X e te) (hs : PlainIx e) (hd : (x == ("__debug__" : Str)) = false := by decide) : QE X (.Subscript (.Name x p2) e pos) (dTab tb te) := by
  obtain ⟨es, n, D⟩ := T.dic
  have ix : IxR X (fun x y H Q => ∃ (z : Str) (u0 : Value) (v0 : V), x = .ref a ∧ y = .str z ∧ PySem.W.nsIn X.K a z = some (some u0) ∧ RelV v0 u0 ∧ Q v0 H) := by
    intro va sl pins s σ H x y v u Q I rx ry h hsub
    obtain ⟨z, u0, v0, rfl, rfl, e1, r, q⟩ := h
    cases rx
    exact tail_any (kd_type D I) PySem.F.slot_dict_getitem.lookup (op_item_kd D pins s σ H (.ref a) (.str z) (.ref a) u Q I rfl ry ⟨z, u0, v0, rfl, rfl, e1, r, q⟩) hsub
  refine PE.imp (pe_ix ix (pe_glob (v := .ref a) hg hm rfl hd) he hs) fun σ H Q ⟨ds, A, Qd, S, h, k⟩ => ?_
  refine ⟨ds, A, _, S, h, fun y A1 v H1 h1 e1 o1 r1 => ?_⟩
  obtain ⟨z, ev, h1⟩ := asStr_of r1 h1
  obtain ⟨vs, et, h1⟩ := some_of h1
  obtain ⟨q, hq, ht⟩ := T.has z vs et
  exact ⟨z, _, .ref q, rfl, ev, hq, rfl, k _ A1 _ H1 h1 e1 o1 (tupS_ok ht H1)⟩
def tabB (K : PySem.W.Frag) (a : Addr) (tb : List (Str × List Str)) : Bool := tb.all fun p => match PySem.W.nsIn K a p.1 with
  | some (some (.ref q)) => tupS K q p.2
  | _ => false
theorem tab_of {K : PySem.W.Frag} {w : World} {a : Addr} {tb : List (Str × List Str)} (hd : ∃ es n, KDict K w a es n) (h : tabB K a tb = true) : Tab K w a tb := by
  refine ⟨hd, fun z vs e => ?_⟩
  have hm : (z, vs) ∈ tb := PySem.mem_of_lookup e
  have h1 := List.all_eq_true.mp h _ hm
  cases q : PySem.W.nsIn K a z with
  | none =>
    have h1 : (match PySem.W.nsIn K a z with
      | some (some (.ref q)) => tupS K q vs
      | _ => false) = true := h1
    rw [q] at h1
    cases h1
  | some r =>
    have h1 : (match PySem.W.nsIn K a z with
      | some (some (.ref q)) => tupS K q vs
      | _ => false) = true := h1
    rw [q] at h1
    cases r with
    | none => cases h1
    | some u =>
      cases u with
      | ref b => exact ⟨b, rfl, h1⟩
      | _ => cases h1
end
end PD

/-! PdSpec: words for the proofs of readings -/
namespace PD
open PySem PySem.Spec PyProof.Rows L2

theorem eqI {α : Sort _} (a : α) : a = a := Eq.refl a
abbrev opSub : DR2 := opI0 fun i j => .int (i - j)
abbrev opFdiv : DR2 := opI CDiv fun i j => .int (i / j)
abbrev opMod : DR2 := opI (fun _ j => 0 < j) fun i j => .int (i % j)
abbrev opPow : DR2 := opI CPow fun i j => .int (i ^ j.toNat)
abbrev opShl : DR2 := opI CPow fun i j => .int (i * 2 ^ j.toNat)
abbrev opOr : DR2 := opI0 fun i j => .int (Builtin.bitOr i j)
abbrev opLe : DR2 := opI0 fun i j => .bl (decide (i ≤ j))
abbrev opGt : DR2 := opI0 fun i j => .bl (decide (j < i))
abbrev opGe : DR2 := opI0 fun i j => .bl (decide (j ≤ i))

/-! ### in, among data of any depth that stand in a tuple -/
section
variable {X : Cx}
theorem RoomG.u65 {k : Nat} {A : Around} (h : RoomG k A) : A.units + 65 < cLine := by
  have := h.r.un
  omega
def opInTG (f : Bool → Bool) : DR2 := fun x y A Q => match y with
  | .tup ds => ∃ p ps, PyR A x p ∧ PyRL A ds ps ∧ SeqAt.shaped p = true ∧ SeqAt.shaped (.tuple ps) = true ∧ Q (.bl (f (ps.any fun z => PyData.eqv z p))) A
  | _ => False
abbrev opInT : DR2 := opInTG id
abbrev opNotInT : DR2 := opInTG not
theorem dpsT {K : PySem.W.Frag} {H : Hp} {A : AH} {ds : List D} {ps : List PyData} {y : V} (o : ARel K H A) (r : Rep K H (.tup ds) y) (h : PyRL A ds ps) : Dp K H y (.tuple ps) := PyR.dp o _ _ y (.tup h) r
theorem oq_inT (hu : X.A.units + 65 < cLine) : OpQ X (compareOp .In) opInT := by
  rintro pins s σ H x y v u Q I rx ry ⟨dx, dy, A, Qd, o, r1, r2, h, k⟩
  cases dy with
  | tup ds =>
    obtain ⟨p, ps, h1, h2, h3, h4, q⟩ := h
    obtain ⟨as, e1⟩ := Dp.reads I p x v (PyR.dp o p dx x h1 r1) rx
    obtain ⟨bs, e2⟩ := Dp.reads I (.tuple ps) y u (dpsT o r2 h2) ry
    have h5 : SeqAt.shaped (.list ps) = true := by
      unfold SeqAt.shaped at h4 ⊢
      simpa [PyData.canLay0, PyData.depth] using h4
    exact SeqAt.in_tuple_reads e2 e1 (SeqAt.canLay_of_shaped h5) (SeqAt.canLay_of_shaped h3) (room_in_shaped h3 hu) ⟨.bl _, H, I, rfl, k _ A _ H q TExt.refl o rfl⟩
  | _ => exact False.elim h
theorem oq_notInT (hu : X.A.units + 65 < cLine) : OpQ X (compareOp .NotIn) opNotInT := by
  rintro pins s σ H x y v u Q I rx ry ⟨dx, dy, A, Qd, o, r1, r2, h, k⟩
  cases dy with
  | tup ds =>
    obtain ⟨p, ps, h1, h2, h3, h4, q⟩ := h
    obtain ⟨as, e1⟩ := Dp.reads I p x v (PyR.dp o p dx x h1 r1) rx
    obtain ⟨bs, e2⟩ := Dp.reads I (.tuple ps) y u (dpsT o r2 h2) ry
    have h5 : SeqAt.shaped (.list ps) = true := by
      unfold SeqAt.shaped at h4 ⊢
      simpa [PyData.canLay0, PyData.depth] using h4
    exact SeqAt.notIn_tuple_reads e2 e1 (SeqAt.canLay_of_shaped h5) (SeqAt.canLay_of_shaped h3) (room_in_shaped h3 hu) ⟨.bl _, H, I, rfl, k _ A _ H q TExt.refl o rfl⟩
  | _ => exact False.elim h
end

/-! ### the readings unfold -/
section
variable (i j n : Nat) (d e : D) (ds : DSt) (A : AH) (Q : DK) (B : Bool → AH → Prop) (M : DEnds) (t u v : DTE) (c c' : DTT) (a a' : DTA) (s s' : DTS) (g : DTG) (gs : DTGs) (r : DR2) (xs : List D)
@[simp] theorem s_var : dVar i ds A Q = (match ds[i]? with | some (some d) => Q d A | _ => False) := eqI _
@[simp] theorem s_c : dC d ds A Q = Q d A := eqI _
@[simp] theorem s_op : dOp r t u ds A Q = t ds A fun x A1 => u ds A1 fun y A2 => r x y A2 Q := eqI _
@[simp] theorem s_un (r : DR1) : dUn r t ds A Q = t ds A fun x A1 => r x A1 Q := eqI _
/-- a truth value is one -/
def onB (x : D) (P : Bool → Prop) : Prop := match x with
  | .bl b => P b
  | _ => False
@[simp] theorem onB_bl (b : Bool) (P : Bool → Prop) : onB (.bl b) P = P b := rfl
@[simp] theorem s_and : dAnd c c' ds A B = c ds A fun k A1 => if k = true then c' ds A1 B else B false A1 := eqI _
@[simp] theorem s_or : dOr c c' ds A B = c ds A fun k A1 => if k = true then B true A1 else c' ds A1 B := eqI _
@[simp] theorem s_not : dNot c ds A B = c ds A fun k A1 => B (!k) A1 := eqI _
@[simp] theorem s_if : dIf c t u ds A Q = c ds A fun k A1 => if k = true then t ds A1 Q else u ds A1 Q := eqI _
@[simp] theorem s_nil (Q : List D → AH → Prop) : dNil ds A Q = Q [] A := eqI _
@[simp] theorem s_cons (Q : List D → AH → Prop) : dCons t a ds A Q = t ds A fun x A1 => a ds A1 fun xs A2 => Q (x :: xs) A2 := eqI _
@[simp] theorem s_tup : dTup a ds A Q = a ds A fun xs A1 => xs.length ≤ sizeLine ∧ Q (.tup xs) A1 := eqI _
@[simp] theorem s_lst : dLst a ds A Q = a ds A fun xs A1 => xs.length ≤ sizeLine ∧ ∀ p, A1 p = none → Q (.ref p) (A1.upd p (.lst xs)) := eqI _
@[simp] theorem s_cb (r : DRC) : dCB r a ds A Q = a ds A fun xs A1 => r xs A1 Q := eqI _
@[simp] theorem s_call (sp : DSp) : dCall sp a ds A Q = a ds A fun xs A1 => sp xs A1 Q fun _ _ _ => False := eqI _
@[simp] theorem s_next : dNext M ds A = M.nx ds A := eqI _
@[simp] theorem s_seq : dSeq s s' M ds A = s { M with nx := s' M } ds A := eqI _
@[simp] theorem s_break : dBreak M ds A = M.bk ds A := eqI _
@[simp] theorem s_drop : dDrop t M ds A = t ds A fun _ A1 => M.nx ds A1 := eqI _
@[simp] theorem s_ret : dRet t M ds A = t ds A M.rt := eqI _
@[simp] theorem s_retN : dRetN M ds A = M.rt .non A := eqI _
@[simp] theorem s_ifS : dIfS c s s' M ds A = c ds A fun b A1 => if b = true then s M ds A1 else s' M ds A1 := eqI _
@[simp] theorem s_gName (Q : DSt → AH → Prop) : dgName i d ds A Q = Q (ds.set i (some d)) A := eqI _
@[simp] theorem s_gNil (Q : DSt → AH → Prop) : dgNil [] ds A Q = Q ds A := by
  unfold dgNil
  simp
@[simp] theorem s_gCons (Q : DSt → AH → Prop) : dgCons g gs (d :: xs) ds A Q = g d ds A fun ds1 A1 => gs xs ds1 A1 Q := eqI _
@[simp] theorem s_gTup (Q : DSt → AH → Prop) : dgTup n gs (.tup xs) ds A Q = (xs.length = n ∧ gs xs ds A Q) := eqI _
@[simp] theorem s_asg : dAsg t g M ds A = t ds A fun x A1 => g x ds A1 M.nx := eqI _
@[simp] theorem s_m (T : String) (r : D → List D → AH → DK → Prop) : dM T r t a ds A Q = t ds A fun x A1 => tyN A1 x = some T ∧ a ds A1 fun xs A2 => r x xs A2 Q := eqI _
@[simp] theorem s_m0 (T : String) (r : D → List D → AH → DK → Prop) : dM0 T r t ds A Q = t ds A fun x A1 => tyN A1 x = some T ∧ r x [] A1 Q := eqI _
@[simp] theorem s_isi (T : String) : dIsi T t ds A Q = t ds A fun x A1 => cIsi T x A1 Q := eqI _
@[simp] theorem s_yes : dYes ds A B = B true A := eqI _
@[simp] theorem s_noPart (Q : Option Int → AH → Prop) : dNoPart ds A Q = Q none A := eqI _
@[simp] theorem s_sl (p p' : DTO) : dSl t p p' ds A Q = t ds A fun x A1 => p ds A1 fun l A2 => p' ds A2 fun u A3 => opSl x l u A3 Q := eqI _
@[simp] theorem s_gSub (r : DSet) (Q : DSt → AH → Prop) : dgSub t u r d ds A Q = t ds A fun x A1 => u ds A1 fun y A2 => r x y d A2 fun A3 => Q ds A3 := eqI _
@[simp] theorem s_rc1 (f : D → AH → DK → Prop) : rc1 f [d] A Q = f d A Q := eqI _
@[simp] theorem s_rc2 (f : D → D → AH → DK → Prop) : rc2 f [d, e] A Q = f d e A Q := eqI _
@[simp] theorem s_rc0 (f : AH → DK → Prop) : rc0 f [] A Q = f A Q := eqI _
@[simp] theorem s_asStr (f : Str → AH → DK → Prop) (z : Str) : asStr f (.str z) A Q = f z A Q := eqI _
@[simp] theorem s_asInt (f : Int → AH → DK → Prop) (z : Int) : asInt f (.int z) A Q = f z A Q := eqI _
@[simp] theorem s_onS {α : Type} (y : α) (P : α → Prop) : onS (some y) P = P y := eqI _
end
section
variable (ds : DSt) (A : AH) (Q : DK) (t u v : DTE) (f : Bool → Bool) (a : DTA) (xs ys : List D) (x y : D) (z w : Str) (i j : Int) (p q : Addr) (b : Bool)
@[simp] theorem s_test (B : Bool → AH → Prop) : dTest t ds A B = t ds A fun x A1 => onB x fun b => B b A1 := eqI _
@[simp] theorem s_andV : dAndV t u ds A Q = t ds A fun x A1 => onB x fun b => if b = true then u ds A1 Q else Q (.bl false) A1 := by
  unfold dAndV
  congr 1
  funext x A1
  cases x with
  | bl b => cases b <;> simp
  | _ => rfl
@[simp] theorem s_orV : dOrV t u ds A Q = t ds A fun x A1 => onB x fun b => if b = true then Q (.bl true) A1 else u ds A1 Q := by
  unfold dOrV
  congr 1
  funext x A1
  cases x with
  | bl b => cases b <;> simp
  | _ => rfl
@[simp] theorem s_notV : dNotV t ds A Q = t ds A fun x A1 => onB x fun b => Q (.bl (!b)) A1 := eqI _
@[simp] theorem s_chain (r r' : DR2) : dChain r r' t u v ds A Q = t ds A fun x A1 => u ds A1 fun y A2 => r x y A2 fun z A3 => onB z fun b => if b = true then v ds A3 fun w A4 => r' y w A4 Q else Q (.bl false) A3 := by
  unfold dChain
  congr 1
  funext x A1
  congr 1
  funext y A2
  congr 1
  funext z A3
  cases z with
  | bl b => cases b <;> simp
  | _ => rfl
@[simp] theorem s_par2 (m n : Nat) (M : DEnds) : dPar m n (dCons t (dCons u dNil)) M ds A = t ds A fun x A1 => u ds A1 fun y A2 => M.nx ((ds.set m (some x)).set n (some y)) A2 := eqI _
/-- an int is one -/
def onI (x : D) (P : Int → Prop) : Prop := match x with
  | .int b => P b
  | _ => False
@[simp] theorem onI_int (P : Int → Prop) : onI (.int i) P = P i := rfl
@[simp] theorem s_part (Q : Option Int → AH → Prop) : dPart t ds A Q = t ds A fun x A1 => onI x fun i => Q (some i) A1 := eqI _
/-! operators -/
@[simp] theorem s_addI : opAdd (.int i) (.int j) A Q = Q (.int (i + j)) A := eqI _
@[simp] theorem s_addS : opAdd (.str z) (.str w) A Q = (z.length + w.length ≤ sizeLine ∧ Q (.str (z ++ w)) A) := eqI _
@[simp] theorem s_addT : opAdd (.tup xs) (.tup ys) A Q = (xs.length + ys.length ≤ sizeLine ∧ Q (.tup (xs ++ ys)) A) := eqI _
theorem s_addL (h : A p = some (.lst xs)) (h' : A q = some (.lst ys)) : opAdd (.ref p) (.ref q) A Q = (xs.length + ys.length ≤ sizeLine ∧ ∀ p, A p = none → Q (.ref p) (A.upd p (.lst (xs ++ ys)))) := by
  unfold opAdd
  simp only [h, h']
@[simp] theorem s_opI (C : Int → Int → Prop) (g : Int → Int → D) : opI C g (.int i) (.int j) A Q = (C i j ∧ Q (g i j) A) := eqI _
@[simp] theorem s_opI0 (g : Int → Int → D) : opI0 g (.int i) (.int j) A Q = Q (g i j) A := eqI _
@[simp] theorem s_mulI : opMul (.int i) (.int j) A Q = (CMul i j ∧ Q (.int (i * j)) A) := eqI _
@[simp] theorem s_mulS : opMul (.str z) (.int j) A Q = ((2 ≤ j ∧ j ≤ 1000 ∧ 1 ≤ z.length ∧ z.length ≤ 1000) ∧ Q (.str (repS z j)) A) := eqI _
@[simp] theorem s_neg : unNeg (.int i) A Q = Q (.int (-i)) A := eqI _
@[simp] theorem s_ltI : opLt (.int i) (.int j) A Q = Q (.bl (decide (i < j))) A := eqI _
@[simp] theorem s_ltS : opLt (.str z) (.str w) A Q = Q (.bl (decide (z.cps.toList < w.cps.toList))) A := eqI _
theorem s_eqSc (h : scalD x y = true) : opEqG f x y A Q = Q (.bl (f (sameD x y))) A := by
  unfold opEqG
  rw [if_pos h]
@[simp] theorem s_eqI : opEqG f (.int i) (.int j) A Q = Q (.bl (f (decide (i = j)))) A := s_eqSc _ _ _ _ _ rfl
@[simp] theorem s_eqS : opEqG f (.str z) (.str w) A Q = Q (.bl (f (decide (z = w)))) A := s_eqSc _ _ _ _ _ rfl
@[simp] theorem s_eqNI : opEqG f .non (.int j) A Q = Q (.bl (f false)) A := s_eqSc _ _ _ _ _ rfl
theorem s_eqD {P P' : PyData} (h : scalD x y = false) (h1 : PyR A x P) (h2 : PyR A y P') (h3 : SeqAt.shaped P = true) (h4 : SeqAt.shaped P' = true) (k : Q (.bl (f (PyData.eqv P P'))) A) : opEqG f x y A Q := by
  unfold opEqG
  rw [if_neg (by rw [h]; exact Bool.false_ne_true)]
  exact ⟨P, P', h1, h2, h3, h4, k⟩
@[simp] theorem s_isN : opIsN f x .non A Q = Q (.bl (f (isNon x))) A := eqI _
@[simp] theorem s_isnN : isNon .non = true := eqI _
@[simp] theorem s_isnI : isNon (.int i) = false := eqI _
@[simp] theorem s_isnS : isNon (.str z) = false := eqI _
@[simp] theorem s_isnT : isNon (.tup xs) = false := eqI _
@[simp] theorem s_isnR : isNon (.ref p) = false := eqI _
@[simp] theorem s_seqL : seqA (some (.lst xs)) = some xs := eqI _
@[simp] theorem s_seqR : seqA (some (.rls xs)) = some xs := eqI _
@[simp] theorem s_seqT : seqOf A (.tup xs) = some xs := eqI _
@[simp] theorem s_seqF : seqOf A (.ref p) = seqA (A p) := eqI _
@[simp] theorem s_ixT : opIx (.tup xs) (.int i) A Q = onS (atI xs i) fun d => Q d A := by
  show (match atI xs i with | some d => Q d A | none => False) = _
  cases atI xs i <;> rfl
@[simp] theorem s_ixR : opIx (.ref p) (.int i) A Q = onS (seqA (A p)) fun xs => onS (atI xs i) fun d => Q d A := by
  show (match seqA (A p) with | some ds => (match atI ds i with | some d => Q d A | none => False) | none => False) = _
  cases seqA (A p) with
  | none => rfl
  | some ds =>
    show (match atI ds i with | some d => Q d A | none => False) = onS (atI ds i) fun d => Q d A
    cases atI ds i <;> rfl
@[simp] theorem s_ixS : opIx (.str z) (.int i) A Q = (z.length ≤ sizeLine ∧ onS (atI z.cps.toList i) fun c => Q (.str ⟨#[c]⟩) A) := by
  show (_ ∧ (match atI z.cps.toList i with | some c => Q (.str ⟨#[c]⟩) A | none => False)) = _
  cases atI z.cps.toList i <;> rfl
@[simp] theorem s_slS (lo hi : Option Int) : opSl (.str z) lo hi A Q = (z.length ≤ sizeLine ∧ Q (.str (cutS z lo hi)) A) := eqI _
@[simp] theorem s_slT (lo hi : Option Int) : opSl (.tup xs) lo hi A Q = Q (.tup (cutD xs lo hi)) A := eqI _
@[simp] theorem s_slR (lo hi : Option Int) : opSl (.ref p) lo hi A Q = onS (seqA (A p)) fun xs => ∀ p, A p = none → Q (.ref p) (A.upd p (.lst (cutD xs lo hi))) := by
  show (match seqA (A p) with | some xs => ∀ p, A p = none → Q (.ref p) (A.upd p (.lst (cutD xs lo hi))) | none => False) = _
  cases seqA (A p) <;> rfl
@[simp] theorem s_slK (lo hi : Option Int) : opSl (.kls xs) lo hi A Q = ∀ p, A p = none → Q (.ref p) (A.upd p (.lst (cutD xs lo hi))) := eqI _
@[simp] theorem s_lenT : cLen [.tup xs] A Q = Q (.int xs.length) A := eqI _
@[simp] theorem s_lenS (h : z.length ≤ sizeLine) : cLen [.str z] A Q = Q (.int z.length) A := by
  show (match lenA A (.str z) with | some n => Q (.int n) A | none => False) = _
  simp only [lenA, if_pos h]
@[simp] theorem s_lenL (h : A p = some (.lst xs)) : cLen [.ref p] A Q = Q (.int xs.length) A := by
  show (match lenA A (.ref p) with | some n => Q (.int n) A | none => False) = _
  simp only [lenA, h]
@[simp] theorem s_lenR (h : A p = some (.rls xs)) : cLen [.ref p] A Q = Q (.int xs.length) A := by
  show (match lenA A (.ref p) with | some n => Q (.int n) A | none => False) = _
  simp only [lenA, h]
@[simp] theorem s_tuple : cTuple [x] A Q = onS (seqOf A x) fun ds => Q (.tup ds) A := by
  show (match seqOf A x with | some ds => Q (.tup ds) A | none => False) = _
  cases seqOf A x <;> rfl
@[simp] theorem s_all : cAll [.ref p] A Q = onS (seqA (A p)) fun ds => onS (blsOf ds) fun bs => Q (.bl (bs.all id)) A := by
  unfold cAll cL
  rw [s_rc1]
  cases e : seqA (A p) with
  | none => simp only [e]; rfl
  | some ds =>
    simp only [e, s_onS]
    cases e2 : blsOf ds <;> rfl
@[simp] theorem s_any : cAny [.ref p] A Q = onS (seqA (A p)) fun ds => onS (blsOf ds) fun bs => Q (.bl (bs.any id)) A := by
  unfold cAny cL
  rw [s_rc1]
  cases e : seqA (A p) with
  | none => simp only [e]; rfl
  | some ds =>
    simp only [e, s_onS]
    cases e2 : blsOf ds <;> rfl
@[simp] theorem s_sum : cSum [.ref p] A Q = onS (seqA (A p)) fun ds => onS (intsOf ds) fun bs => Q (.int bs.sum) A := by
  unfold cSum cL
  rw [s_rc1]
  cases e : seqA (A p) with
  | none => simp only [e]; rfl
  | some ds =>
    simp only [e, s_onS]
    cases e2 : intsOf ds <;> rfl
@[simp] theorem s_intS : cInt [.str z] A Q = (z.length ≤ 640 ∧ onS (intText? z) fun n => Q (.int n) A) := by
  show (_ ∧ (match intText? z with | some n => Q (.int n) A | none => False)) = _
  cases intText? z <;> rfl
@[simp] theorem s_intB : cInt [.bl b] A Q = Q (.int (if b then 1 else 0)) A := eqI _
@[simp] theorem s_intI : cInt [.int i] A Q = Q (.int i) A := eqI _
theorem s_strI : cStr [.int i] A Q = (i.natAbs.log2 < 1920 ∧ Q (.str (Str.ofString (toString i))) A) := rfl
@[simp] theorem s_strS : cStr [.str z] A Q = Q (.str z) A := eqI _
@[simp] theorem s_isiS (T : String) : cIsi T (.str z) A Q = Q (.bl (isiB "str" T)) A := eqI _
@[simp] theorem s_isiI (T : String) : cIsi T (.int i) A Q = Q (.bl (isiB "int" T)) A := eqI _
@[simp] theorem s_isiT (T : String) : cIsi T (.tup xs) A Q = Q (.bl (isiB "tuple" T)) A := eqI _
@[simp] theorem s_isiN (T : String) : cIsi T .non A Q = Q (.bl (isiB "NoneType" T)) A := eqI _
@[simp] theorem s_isiL (T : String) (h : A p = some (.lst xs)) : cIsi T (.ref p) A Q = Q (.bl (isiB "list" T)) A := by
  unfold cIsi
  simp only [tyN, h]
@[simp] theorem s_tyS : tyN A (.str z) = some "str" := eqI _
theorem s_tyL (h : A p = some (.lst xs)) : tyN A (.ref p) = some "list" := by simp only [tyN, h]
theorem s_append (h : A p = some (.lst ys)) : mAppend (.ref p) [x] A Q = (ys.length < sizeLine ∧ Q .non (A.upd p (.lst (ys ++ [x])))) := by
  unfold mAppend mL
  simp only [h, s_rc1]
@[simp] theorem s_join : mJoin (.str z) [y] A Q = onS (seqOf A y) fun ds => onS (strsOf ds) fun ys => (ys.map (·.length)).sum + ys.length * z.length ≤ 16777216 ∧ Q (.str (Txt.join z ys)) A := eqI _
@[simp] theorem s_split : mSplit (.str z) [.str w] A Q = (((w.length == 0) = false ∧ z.length + 2 ≤ sizeLine) ∧ ∀ p, A p = none → Q (.ref p) (A.upd p (.lst ((Txt.split z w).map D.str)))) := eqI _
theorem s_setL (h : A p = some (.lst xs)) (Q : AH → Prop) : setL (.ref p) (.int i) x A Q = onS (ixN xs.length i) fun j => Q (A.upd p (.lst (xs.set j x))) := by
  unfold setL
  simp only [h]
@[simp] theorem s_tab (tb : List (Str × List Str)) : dTab tb t ds A Q = t ds A fun x A1 => asStr (fun z A Q => onS (tb.lookup z) fun vs => Q (.tup (vs.map D.str)) A) x A1 Q := eqI _
@[simp] theorem at0 {α : Type} (a : α) (l : List α) : atI (a :: l) 0 = some a := atI_nat (j := 0) rfl
@[simp] theorem at1 {α : Type} (a b : α) (l : List α) : atI (a :: b :: l) 1 = some b := atI_nat (j := 1) rfl
@[simp] theorem at2 {α : Type} (a b c : α) (l : List α) : atI (a :: b :: c :: l) 2 = some c := atI_nat (j := 2) rfl
@[simp] theorem at3 {α : Type} (a b c d : α) (l : List α) : atI (a :: b :: c :: d :: l) 3 = some d := atI_nat (j := 3) rfl
@[simp] theorem atS {α : Type} (l : List α) (a : α) : atI (l ++ [a]) (-1) = some a := atI_last l a
/-! walks -/
@[simp] theorem s_iSeq (R : List D → (AH → Prop) → AH → Prop) : iSeq t ds A R = t ds A fun x A1 => match x with
  | .tup xs => R xs (fun _ => True) A1
  | .str z => R (signsD z) (fun _ => True) A1
  | .ref a => onS (seqA (A1 a)) fun xs => R xs (fun A => seqA (A a) = some xs) A1
  | _ => False := eqI _
@[simp] theorem s_range1 (R : List D → (AH → Prop) → AH → Prop) : iRange1 (dCons t dNil) ds A R = t ds A fun x A1 => onI x fun j => (-(2 ^ 62) ≤ j ∧ j < 2 ^ 62) ∧ R (rangeD 0 j.toNat) (fun _ => True) A1 := by
  show (t ds A fun x A1 => _) = _
  congr 1
  funext x A1
  cases x <;> rfl
@[simp] theorem s_range2 (R : List D → (AH → Prop) → AH → Prop) : iRange2 (dCons t (dCons u dNil)) ds A R = t ds A fun x A1 => u ds A1 fun y A2 => onI x fun i => onI y fun j => (-(2 ^ 62) ≤ i ∧ i < 2 ^ 62 ∧ -(2 ^ 62) ≤ j ∧ j < 2 ^ 62) ∧ R (rangeD i (j - i).toNat) (fun _ => True) A2 := by
  show (t ds A fun x A1 => u ds A1 fun y A2 => _) = _
  congr 1
  funext x A1
  congr 1
  funext y A2
  cases x <;> cases y <;> rfl
@[simp] theorem s_enum (R : List D → (AH → Prop) → AH → Prop) (c : DTE) : iEnumL (dCons c dNil) ds A R = c ds A fun x A1 => match x with
  | .ref a => onS (seqA (A1 a)) fun xs => R (enumD xs) (fun A => seqA (A a) = some xs) A1
  | _ => False := by
  show (c ds A fun x A1 => _) = _
  congr 1
  funext x A1
  cases x <;> rfl
@[simp] theorem s_for (ti : DTI) (g : DTG) (tb : DTS) (M : DEnds) : dFor ti g tb M ds A = ti ds A fun items ok A1 => forL ok g tb M items ds A1 := eqI _
@[simp] theorem s_lc (ti : DTI) (g : DTG) (tt : DTT) (vs : List Nat) : dLc ti g tt t vs ds A Q = ti ds A fun items ok A1 => ∀ p, A1 p = none → compL ok (stepL g tt t (wipeD ds vs)) p Q items (A1.upd p (.lst [])) := eqI _
@[simp] theorem s_wipe0 : wipeD ds [] = ds := eqI _
@[simp] theorem s_wipe1 (v : Nat) (vs : List Nat) : wipeD ds (v :: vs) = (wipeD ds vs).set v none := eqI _
@[simp] theorem s_step (g : DTG) (tt : DTT) (Q : Option D → AH → Prop) : stepL g tt t ds x A Q = g x ds A fun ds1 A1 => tt ds1 A1 fun b A2 => if b = true then t ds1 A2 fun d A3 => Q (some d) A3 else Q none A2 := eqI _
end

/-! ### the heap grows; but for some -/
def AExt (A A' : AH) : Prop := ∀ a o, A a = some o → A' a = some o
/-- all but what S says stays -/
def AExtB (S : Addr → Prop) (A A' : AH) : Prop := ∀ a o, ¬ S a → A a = some o → A' a = some o
theorem AExt.refl (A : AH) : AExt A A := fun _ _ h => h
theorem AExt.trans {A B C : AH} (h : AExt A B) (h' : AExt B C) : AExt A C := fun a o e => h' a o (h a o e)
theorem AExt.new {A : AH} {p : Addr} {o : AO} (h : A p = none) : AExt A (A.upd p o) := fun a u e => by
  rw [AH.upd_ne (AH.ne e h)]
  exact e
theorem AExt.b {S : Addr → Prop} {A B : AH} (h : AExt A B) : AExtB S A B := fun a o _ e => h a o e
theorem AExtB.refl {S : Addr → Prop} (A : AH) : AExtB S A A := fun _ _ _ h => h
theorem AExtB.trans {S : Addr → Prop} {A B C : AH} (h : AExtB S A B) (h' : AExtB S B C) : AExtB S A C := fun a o n e => h' a o n (h a o n e)
theorem AExtB.upd {S : Addr → Prop} {A : AH} {p : Addr} {o : AO} (h : S p) : AExtB S A (A.upd p o) := fun a u n e => by
  rw [AH.upd_ne fun z => n (by rw [z]; exact h)]
  exact e
theorem AExt.some {A B : AH} (h : AExt A B) {a : Addr} {o : AO} (e : A a = some o) : B a = some o := h a o e
theorem AExtB.one {A B : AH} {f : Addr} (h : AExtB (· = f) A B) {a : Addr} {o : AO} (n : a ≠ f) (e : A a = some o) : B a = some o := h a o n e

/-! ### promises by their arguments -/
def sp1 (F : D → AH → DK → Prop) : DSp := fun ds A Q _ => match ds with
  | [x] => F x A Q
  | _ => False
def sp2 (F : D → D → AH → DK → Prop) : DSp := fun ds A Q _ => match ds with
  | [x, y] => F x y A Q
  | _ => False
def sp3 (F : D → D → D → AH → DK → Prop) : DSp := fun ds A Q _ => match ds with
  | [x, y, z] => F x y z A Q
  | _ => False
def sp4 (F : D → D → D → D → AH → DK → Prop) : DSp := fun ds A Q _ => match ds with
  | [x, y, z, u] => F x y z u A Q
  | _ => False
section
variable {ds : List D} {A : AH} {Q : DK} {E : DX}
theorem sp1_len {F : D → AH → DK → Prop} (h : sp1 F ds A Q E) : ds.length = 1 := by
  match ds, h with
  | [x], _ => rfl
theorem sp2_len {F : D → D → AH → DK → Prop} (h : sp2 F ds A Q E) : ds.length = 2 := by
  match ds, h with
  | [x, y], _ => rfl
theorem sp3_len {F : D → D → D → AH → DK → Prop} (h : sp3 F ds A Q E) : ds.length = 3 := by
  match ds, h with
  | [x, y, z], _ => rfl
theorem sp4_len {F : D → D → D → D → AH → DK → Prop} (h : sp4 F ds A Q E) : ds.length = 4 := by
  match ds, h with
  | [x, y, z, u], _ => rfl
variable {t : DTS} {n : Nat}
theorem sp1_read {F : D → AH → DK → Prop} {m : Nat} (r : ∀ x A Q, F x A Q → t { nx := fun _ A' => Q .non A', rt := Q } (some x :: List.replicate m none) A) (hn : n - 1 = m) :
    ∀ ds A Q E, sp1 F ds A Q E → t { nx := fun _ A' => Q .non A', rt := Q } (ds.map some ++ List.replicate (n - ds.length) none) A := fun ds A Q E h => by
  subst hn
  match ds, h with
  | [x], h => exact r x A Q h
theorem sp2_read {F : D → D → AH → DK → Prop} {m : Nat} (r : ∀ x y A Q, F x y A Q → t { nx := fun _ A' => Q .non A', rt := Q } (some x :: some y :: List.replicate m none) A) (hn : n - 2 = m) :
    ∀ ds A Q E, sp2 F ds A Q E → t { nx := fun _ A' => Q .non A', rt := Q } (ds.map some ++ List.replicate (n - ds.length) none) A := fun ds A Q E h => by
  subst hn
  match ds, h with
  | [x, y], h => exact r x y A Q h
theorem sp3_read {F : D → D → D → AH → DK → Prop} {m : Nat} (r : ∀ x y z A Q, F x y z A Q → t { nx := fun _ A' => Q .non A', rt := Q } (some x :: some y :: some z :: List.replicate m none) A) (hn : n - 3 = m) :
    ∀ ds A Q E, sp3 F ds A Q E → t { nx := fun _ A' => Q .non A', rt := Q } (ds.map some ++ List.replicate (n - ds.length) none) A := fun ds A Q E h => by
  subst hn
  match ds, h with
  | [x, y, z], h => exact r x y z A Q h
theorem sp4_read {F : D → D → D → D → AH → DK → Prop} {m : Nat} (r : ∀ x y z u A Q, F x y z u A Q → t { nx := fun _ A' => Q .non A', rt := Q } (some x :: some y :: some z :: some u :: List.replicate m none) A) (hn : n - 4 = m) :
    ∀ ds A Q E, sp4 F ds A Q E → t { nx := fun _ A' => Q .non A', rt := Q } (ds.map some ++ List.replicate (n - ds.length) none) A := fun ds A Q E h => by
  subst hn
  match ds, h with
  | [x, y, z, u], h => exact r x y z u A Q h
end

@[simp] theorem upd_s {A : AH} {a : Addr} {o : AO} : A.upd a o a = some o := if_pos rfl
/-! ### comprehensions, loops -/
section
variable {ok : AH → Prop} {step : D → AH → (Option D → AH → Prop) → Prop} {p : Addr} {Q : DK}
theorem comp_ok {P : List D → List D → AH → Prop} (hok : ∀ xs acc A, P xs acc A → ok A)
    (hstep : ∀ x xs acc A Z, P (x :: xs) acc A → A p = some (.lst acc) → (∀ d A', A' p = some (.lst acc) → P xs (acc ++ [d]) (A'.upd p (.lst (acc ++ [d]))) → Z (some d) A') → (∀ A', A' p = some (.lst acc) → P xs acc A' → Z none A') → step x A Z)
    (hend : ∀ acc A, P [] acc A → A p = some (.lst acc) → Q (.ref p) A) : ∀ (items acc : List D) (A : AH), P items acc A → A p = some (.lst acc) → acc.length + items.length ≤ sizeLine → compL ok step p Q items A
  | [], acc, A, h, e, _ => ⟨hok _ _ _ h, hend _ _ h e⟩
  | x :: xs, acc, A, h, e, z => by
    refine ⟨hok _ _ _ h, hstep x xs acc A _ h e (fun d A' e' h' => ⟨acc, e', ?_, ?_⟩) fun A' e' h' => ?_⟩
    · rw [List.length_cons] at z
      omega
    · refine comp_ok hok hstep hend xs _ _ h' AH.upd_same ?_
      rw [List.length_append, List.length_singleton]
      rw [List.length_cons] at z
      omega
    · refine comp_ok hok hstep hend xs _ _ h' e' ?_
      rw [List.length_cons] at z
      omega
/-- each item gives g of it; nothing else changes -/
theorem comp_map (g : D → D) (items : List D) (A0 : AH) (h0 : A0 p = none) (hz : items.length ≤ sizeLine) (hok : ∀ A, AExt A0 A → ok A)
    (hstep : ∀ x A Z, x ∈ items → AExt A0 A → (∀ A', AExt A A' → Z (some (g x)) A') → step x A Z)
    (hend : ∀ A, AExt A0 A → A p = some (.lst (items.map g)) → Q (.ref p) A) : compL ok step p Q items (A0.upd p (.lst [])) := by
  have key : ∀ (xs acc : List D) (A : AH), (∀ x ∈ xs, x ∈ items) → AExt A0 A → A p = some (.lst acc) → acc ++ xs.map g = items.map g → acc.length + xs.length ≤ sizeLine → compL ok step p Q xs A := by
    intro xs
    induction xs with
    | nil =>
      intro acc A _ h e q _
      rw [List.map_nil, List.append_nil] at q
      rw [q] at e
      exact ⟨hok A h, hend A h e⟩
    | cons x xs ih =>
      intro acc A hm h e q z
      rw [List.length_cons] at z
      refine ⟨hok A h, hstep x A _ (hm x List.mem_cons_self) h fun A' h' => ⟨acc, h' _ _ e, by omega, ?_⟩⟩
      refine ih (acc ++ [g x]) _ (fun y hy => hm y (List.mem_cons_of_mem _ hy)) (fun a o ea => ?_) AH.upd_same (by rw [← q]; simp) (by rw [List.length_append, List.length_singleton]; omega)
      rw [AH.upd_ne (AH.ne ea h0)]
      exact h' _ _ (h _ _ ea)
  exact key items [] _ (fun _ h => h) (AExt.new h0) AH.upd_same rfl (by simpa using hz)
/-- the same, where the items are told by something else -/
theorem comp_mapA {α : Type} (h g : α → D) (xs : List α) (A0 : AH) (h0 : A0 p = none) (hz : xs.length ≤ sizeLine) (hok : ∀ A, AExt A0 A → ok A)
    (hstep : ∀ x A Z, x ∈ xs → AExt A0 A → (∀ A', AExt A A' → Z (some (g x)) A') → step (h x) A Z)
    (hend : ∀ A, AExt A0 A → A p = some (.lst (xs.map g)) → Q (.ref p) A) : compL ok step p Q (xs.map h) (A0.upd p (.lst [])) := by
  have key : ∀ (ys : List α) (acc : List D) (A : AH), (∀ x ∈ ys, x ∈ xs) → AExt A0 A → A p = some (.lst acc) → acc ++ ys.map g = xs.map g → acc.length + ys.length ≤ sizeLine → compL ok step p Q (ys.map h) A := by
    intro ys
    induction ys with
    | nil =>
      intro acc A _ e0 e q _
      rw [List.map_nil, List.append_nil] at q
      rw [q] at e
      exact ⟨hok A e0, hend A e0 e⟩
    | cons x ys ih =>
      intro acc A hm e0 e q z
      rw [List.length_cons] at z
      refine ⟨hok A e0, hstep x A _ (hm x List.mem_cons_self) e0 fun A' h' => ⟨acc, h' _ _ e, by omega, ?_⟩⟩
      refine ih (acc ++ [g x]) _ (fun y hy => hm y (List.mem_cons_of_mem _ hy)) (fun a o ea => ?_) AH.upd_same (by rw [← q]; simp) (by rw [List.length_append, List.length_singleton]; omega)
      rw [AH.upd_ne (AH.ne ea h0)]
      exact h' _ _ (e0 _ _ ea)
  exact key xs [] _ (fun _ h => h) (AExt.new h0) AH.upd_same rfl (by simpa using hz)
/-- each item gives g of it, if anything; nothing else changes -/
theorem comp_filt (g : D → Option D) (items : List D) (A0 : AH) (h0 : A0 p = none) (hz : items.length ≤ sizeLine) (hok : ∀ A, AExt A0 A → ok A)
    (hstep : ∀ x A Z, x ∈ items → AExt A0 A → (∀ A', AExt A A' → Z (g x) A') → step x A Z)
    (hend : ∀ A, AExt A0 A → A p = some (.lst (items.filterMap g)) → Q (.ref p) A) : compL ok step p Q items (A0.upd p (.lst [])) := by
  have key : ∀ (xs acc : List D) (A : AH), (∀ x ∈ xs, x ∈ items) → AExt A0 A → A p = some (.lst acc) → acc ++ xs.filterMap g = items.filterMap g → acc.length + xs.length ≤ sizeLine → compL ok step p Q xs A := by
    intro xs
    induction xs with
    | nil =>
      intro acc A _ h e q _
      rw [List.filterMap_nil, List.append_nil] at q
      rw [q] at e
      exact ⟨hok A h, hend A h e⟩
    | cons x xs ih =>
      intro acc A hm h e q z
      rw [List.length_cons] at z
      refine ⟨hok A h, hstep x A _ (hm x List.mem_cons_self) h fun A' h' => ?_⟩
      cases c : g x with
      | some d =>
        rw [List.filterMap_cons, c] at q
        refine ⟨acc, h' _ _ e, by omega, ?_⟩
        refine ih (acc ++ [d]) _ (fun y hy => hm y (List.mem_cons_of_mem _ hy)) (fun a o ea => ?_) AH.upd_same (by rw [← q]; simp) (by rw [List.length_append, List.length_singleton]; omega)
        rw [AH.upd_ne (AH.ne ea h0)]
        exact h' _ _ (h _ _ ea)
      | none =>
        rw [List.filterMap_cons, c] at q
        exact ih acc A' (fun y hy => hm y (List.mem_cons_of_mem _ hy)) (h.trans h') (h' _ _ e) q (by omega)
  exact key items [] _ (fun _ h => h) (AExt.new h0) AH.upd_same rfl (by simpa using hz)
theorem comp_filtA {α : Type} (h : α → D) (g : α → Option D) (items : List α) (A0 : AH) (h0 : A0 p = none) (hz : items.length ≤ sizeLine) (hok : ∀ A, AExt A0 A → ok A)
    (hstep : ∀ x A Z, x ∈ items → AExt A0 A → (∀ A', AExt A A' → Z (g x) A') → step (h x) A Z)
    (hend : ∀ A, AExt A0 A → A p = some (.lst (items.filterMap g)) → Q (.ref p) A) : compL ok step p Q (items.map h) (A0.upd p (.lst [])) := by
  have key : ∀ (xs : List α) (acc : List D) (A : AH), (∀ x ∈ xs, x ∈ items) → AExt A0 A → A p = some (.lst acc) → acc ++ xs.filterMap g = items.filterMap g → acc.length + xs.length ≤ sizeLine → compL ok step p Q (xs.map h) A := by
    intro xs
    induction xs with
    | nil =>
      intro acc A _ h e q _
      rw [List.filterMap_nil, List.append_nil] at q
      rw [q] at e
      exact ⟨hok A h, hend A h e⟩
    | cons x xs ih =>
      intro acc A hm h e q z
      rw [List.length_cons] at z
      refine ⟨hok A h, hstep x A _ (hm x List.mem_cons_self) h fun A' h' => ?_⟩
      cases c : g x with
      | some d =>
        rw [List.filterMap_cons, c] at q
        refine ⟨acc, h' _ _ e, by omega, ?_⟩
        refine ih (acc ++ [d]) _ (fun y hy => hm y (List.mem_cons_of_mem _ hy)) (fun a o ea => ?_) AH.upd_same (by rw [← q]; simp) (by rw [List.length_append, List.length_singleton]; omega)
        rw [AH.upd_ne (AH.ne ea h0)]
        exact h' _ _ (h _ _ ea)
      | none =>
        rw [List.filterMap_cons, c] at q
        exact ih acc A' (fun y hy => hm y (List.mem_cons_of_mem _ hy)) (h.trans h') (h' _ _ e) q (by omega)
  exact key items [] _ (fun _ h => h) (AExt.new h0) AH.upd_same rfl (by simpa using hz)
/-- each item gives some G; what S names may change, under I -/
theorem comp_gen {S : Addr → Prop} {I : Nat → AH → Prop} {G : D → Prop} (items : List D) (A0 : AH) (k0 : Nat) (h0 : A0 p = none) (hS : ¬ S p) (hI0 : I k0 A0) (hIu : ∀ k A o, I k A → I k (A.upd p o)) (hz : items.length ≤ sizeLine) (hok : ∀ A, AExtB S A0 A → ok A)
    (hstep : ∀ k x A Z, x ∈ items → k < items.length → AExtB S A0 A → I (k0 + k) A → (∀ d A', AExtB S A A' → I (k0 + (k + 1)) A' → G d → Z (some d) A') → step x A Z)
    (hend : ∀ ds A, AExtB S A0 A → I (k0 + items.length) A → ds.length = items.length → (∀ d ∈ ds, G d) → A p = some (.lst ds) → Q (.ref p) A) : compL ok step p Q items (A0.upd p (.lst [])) := by
  have key : ∀ (xs acc : List D) (A : AH), (∀ x ∈ xs, x ∈ items) → AExtB S A0 A → I (k0 + acc.length) A → A p = some (.lst acc) → (∀ d ∈ acc, G d) → acc.length + xs.length = items.length → compL ok step p Q xs A := by
    intro xs
    induction xs with
    | nil =>
      intro acc A _ h i e g z
      rw [List.length_nil, Nat.add_zero] at z
      exact ⟨hok A h, hend acc A h (by rw [← z]; exact i) z g e⟩
    | cons x xs ih =>
      intro acc A hm h i e g z
      rw [List.length_cons] at z
      refine ⟨hok A h, hstep acc.length x A _ (hm x List.mem_cons_self) (by omega) h i fun d A' h' i' gd => ⟨acc, h' _ _ hS e, by omega, ?_⟩⟩
      refine ih (acc ++ [d]) _ (fun y hy => hm y (List.mem_cons_of_mem _ hy)) (fun a o na ea => ?_) (hIu _ _ _ (by rw [List.length_append, List.length_singleton]; exact i')) AH.upd_same (fun d' hd => ?_) (by rw [List.length_append, List.length_singleton]; omega)
      · rw [AH.upd_ne (AH.ne ea h0)]
        exact h' _ _ na (h _ _ na ea)
      · rcases List.mem_append.mp hd with hd | hd
        · exact g d' hd
        · rw [List.mem_singleton.mp hd]
          exact gd
  exact key items [] _ (fun _ h => h) (AExt.new h0).b (hIu _ _ _ hI0) AH.upd_same (fun _ h => nomatch h) (by simp)
end
theorem for_ok {ok : AH → Prop} {g : DTG} {tb : DTS} {M : DEnds} (P : List D → DSt → AH → Prop) (hok : ∀ xs ds A, P xs ds A → ok A)
    (hstep : ∀ x xs ds A (N : DSt → AH → Prop), P (x :: xs) ds A → (∀ ds' A', P xs ds' A' → N ds' A') → g x ds A fun ds1 A1 => tb { M with nx := N, ct := N, bk := M.nx } ds1 A1)
    (hend : ∀ ds A, P [] ds A → M.nx ds A) : ∀ (items : List D) (ds : DSt) (A : AH), P items ds A → forL ok g tb M items ds A
  | [], ds, A, h => ⟨hok _ _ _ h, hend _ _ h⟩
  | x :: xs, ds, A, h => ⟨hok _ _ _ h, hstep x xs ds A _ h fun ds' A' h' => for_ok P hok hstep hend xs ds' A' h'⟩
end PD

/-! PdFit: data that is small enough for repr and == -/
namespace PD
open PySem PySem.Spec PyProof.Rows L2

structure Fit (d : D) (dep wt : Nat) : Prop where
  pure : d.pure = true
  lay : d.py.canLay0 = true
  dep : d.py.depth ≤ dep
  wt : d.py.weight ≤ wt
  nums : d.py.intsShort 13 = true
  shw : d.py.showable = true
theorem Fit.mono {d : D} {a b a' b' : Nat} (h : Fit d a b) (h1 : a ≤ a') (h2 : b ≤ b') : Fit d a' b' := ⟨h.pure, h.lay, Nat.le_trans h.dep h1, Nat.le_trans h.wt h2, h.nums, h.shw⟩
theorem Fit.non : Fit .non 0 0 := ⟨rfl, rfl, Nat.le_refl _, Nat.le_refl _, rfl, rfl⟩
theorem Fit.bl {b : Bool} : Fit (.bl b) 0 0 := ⟨rfl, rfl, Nat.le_refl _, Nat.le_refl _, rfl, rfl⟩
theorem Fit.int {i : Int} (h : i.natAbs < 10 ^ 12) : Fit (.int i) 0 40 := by
  have hl : i.natAbs.log2 < 40 := by
    by_cases h0 : i.natAbs = 0
    · rw [h0]
      decide
    · exact (Nat.log2_lt h0).mpr (Nat.lt_of_lt_of_le h (by decide))
  refine ⟨rfl, rfl, Nat.le_refl _, ?_, ?_, ?_⟩
  · show (if i == 0 then 0 else i.natAbs.log2 + 1) ≤ 40
    split <;> omega
  · show decide _ = true
    exact decide_eq_true (PyData.shown_int_le h)
  · show decide _ = true
    exact decide_eq_true (by omega)
theorem Fit.str {z : Str} {k : Nat} (h : PyData.strOk z = true) (hk : z.length ≤ k) : Fit (.str z) 0 k := ⟨rfl, h, Nat.le_refl _, hk, rfl, rfl⟩
theorem Fit.txt {l : List Nat} {k : Nat} (h : ∀ c ∈ l, c < 0x110000) (hk : l.length ≤ k) : Fit (.str (SX.S l)) 0 k := Fit.str (by
  show (l.toArray.all (· < 0x110000)) = true
  rw [← Array.all_toList]
  rw [List.all_eq_true]
  exact fun c hc => decide_eq_true (h c hc)) (by rw [SX.S_len]; exact hk)
/-- a row of data -/
structure FitL (ds : List D) (dep wt : Nat) : Prop where
  pure : D.pures ds = true
  lay : PyData.canLayAll0 (D.pys ds) = true
  dep : PyData.depthAll (D.pys ds) ≤ dep
  wt : PyData.weightAll (D.pys ds) ≤ wt
  nums : PyData.intsShortAll 13 (D.pys ds) = true
  shw : PyData.showableAll (D.pys ds) = true
theorem FitL.nil {a b : Nat} : FitL [] a b := ⟨rfl, rfl, Nat.zero_le _, Nat.zero_le _, rfl, rfl⟩
theorem FitL.cons {d : D} {ds : List D} {a b b' : Nat} (h : Fit d a b) (h' : FitL ds a b') : FitL (d :: ds) a (b + 1 + b') := by
  refine ⟨?_, ?_, ?_, ?_, ?_, ?_⟩
  · simp only [D.pures, h.pure, h'.pure, Bool.and_self]
  · simp only [D.pys, PyData.canLayAll0, h.lay, h'.lay, Bool.and_self]
  · simp only [D.pys, PyData.depthAll]
    exact Nat.max_le.mpr ⟨h.dep, h'.dep⟩
  · simp only [D.pys, PyData.weightAll]
    have := h.wt
    have := h'.wt
    omega
  · simp only [D.pys, PyData.intsShortAll, h.nums, h'.nums, Bool.and_self]
  · simp only [D.pys, PyData.showableAll, h.shw, h'.shw, Bool.and_self]
theorem FitL.mono {d : List D} {a b a' b' : Nat} (h : FitL d a b) (h1 : a ≤ a') (h2 : b ≤ b') : FitL d a' b' := ⟨h.pure, h.lay, Nat.le_trans h.dep h1, Nat.le_trans h.wt h2, h.nums, h.shw⟩
theorem FitL.all {a b : Nat} : ∀ {ds : List D}, (∀ d ∈ ds, Fit d a b) → FitL ds a (ds.length * (b + 1))
  | [], _ => .nil
  | d :: ds, h => by
    have := FitL.cons (h d List.mem_cons_self) (FitL.all (ds := ds) fun x hx => h x (List.mem_cons_of_mem _ hx))
    refine this.mono (Nat.le_refl _) ?_
    rw [List.length_cons, Nat.add_mul]
    omega
theorem Fit.tup {ds : List D} {a b : Nat} (h : FitL ds a b) : Fit (.tup ds) (a + 1) b := by
  refine ⟨?_, ?_, ?_, ?_, ?_, ?_⟩
  · simp only [D.pure, h.pure]
  · simp only [D.py, PyData.canLay0, h.lay]
  · simp only [D.py, PyData.depth]
    have := h.dep
    omega
  · simp only [D.py, PyData.weight]
    exact h.wt
  · simp only [D.py, PyData.intsShort, h.nums]
  · simp only [D.py, PyData.showable, h.shw]
theorem Fit.tups {ds : List D} {a b n : Nat} (h : ∀ d ∈ ds, Fit d a b) (hn : ds.length ≤ n) : Fit (.tup ds) (a + 1) (n * (b + 1)) :=
  (Fit.tup (FitL.all h)).mono (Nat.le_refl _) (Nat.mul_le_mul_right _ hn)
theorem Fit.shaped {d : D} {a b : Nat} (h : Fit d a b) (ha : a ≤ 64) : SeqAt.shaped d.py = true := by
  unfold SeqAt.shaped
  rw [h.lay, decide_eq_true (Nat.le_trans h.dep ha)]
  rfl
theorem FitL.shapedL {d : List D} {a b : Nat} (h : FitL d a b) (ha : a ≤ 63) : SeqAt.shaped (.list (D.pys d)) = true := by
  unfold SeqAt.shaped
  simp only [PyData.canLay0, PyData.depth, h.lay, Bool.true_and]
  have := h.dep
  exact decide_eq_true (by omega)
theorem FitL.shapedT {d : List D} {a b : Nat} (h : FitL d a b) (ha : a ≤ 63) : SeqAt.shaped (.tuple (D.pys d)) = true := by
  unfold SeqAt.shaped
  simp only [PyData.canLay0, PyData.depth, h.lay, Bool.true_and]
  have := h.dep
  exact decide_eq_true (by omega)
theorem repr_fit {d : D} {a b : Nat} {A : AH} {Q : DK} (h : Fit d a b) (ha : a ≤ 60) (hb : b ≤ 1048576) (k : Q (.str d.py.shown) A) : cRepr [d] A Q := by
  refine ⟨d.py, .of_pure A d h.pure, h.shw, PyData.hasDict_of_canLay _ h.lay, Nat.le_trans h.dep ha, ?_, k⟩
  refine PyData.shown_fits (B := 13) (by decide) (by decide) (PyData.leavesShort_of_canLay0 13 _ h.lay h.nums) (Nat.le_trans h.wt (Nat.le_trans hb (by decide)))
theorem repr_lst {p : Addr} {ds : List D} {a b : Nat} {A : AH} {Q : DK} (e : A p = some (.lst ds)) (h : FitL ds a b) (ha : a ≤ 59) (hb : b ≤ 1048576) (k : Q (.str (PyData.list (D.pys ds)).shown) A) : cRepr [.ref p] A Q := by
  have lay : (PyData.list (D.pys ds)).canLay0 = true := by simp only [PyData.canLay0, h.lay]
  refine ⟨.list (D.pys ds), .lst e (.of_pure A ds h.pure), ?_, PyData.hasDict_of_canLay _ lay, ?_, ?_, k⟩
  · simp only [PyData.showable, h.shw]
  · simp only [PyData.depth]
    have := h.dep
    omega
  · refine PyData.shown_fits (B := 13) (by decide) (by decide) (PyData.leavesShort_of_canLay0 13 _ lay ?_) ?_
    · simp only [PyData.intsShort, h.nums]
    · simp only [PyData.weight]
      exact Nat.le_trans h.wt (Nat.le_trans hb (by decide))
theorem eq_fit {x y : D} {a b a' b' : Nat} {f : Bool → Bool} {A : AH} {Q : DK} (h : Fit x a b) (h' : Fit y a' b') (hs : scalD x y = false) (ha : a ≤ 64) (ha' : a' ≤ 64) (k : Q (.bl (f (PyData.eqv x.py y.py))) A) : opEqG f x y A Q :=
  s_eqD _ _ _ _ _ hs (.of_pure A x h.pure) (.of_pure A y h'.pure) (h.shaped ha) (h'.shaped ha') k
/-- a list against an empty list -/
theorem eq_nil {p q : Addr} {ds : List D} {a b : Nat} {f : Bool → Bool} {A : AH} {Q : DK} (e : A p = some (.lst ds)) (e' : A q = some (.lst [])) (h : FitL ds a b) (ha : a ≤ 63) (k : Q (.bl (f ds.isEmpty)) A) : opEqG f (.ref p) (.ref q) A Q := by
  refine s_eqD _ _ _ _ _ rfl (.lst e (.of_pure A ds h.pure)) (.lst e' .nil) (h.shapedL ha) (by decide +kernel) ?_
  have e2 : PyData.eqv (.list (D.pys ds)) (.list []) = ds.isEmpty := by
    cases ds <;> simp [D.pys, PyData.eqv, PyData.eqvAll]
  rw [e2]
  exact k
theorem eq_nilR {p q : Addr} {ds : List D} {a b : Nat} {f : Bool → Bool} {A : AH} {Q : DK} (e : A p = some (.rls ds)) (e' : A q = some (.lst [])) (h : FitL ds a b) (ha : a ≤ 63) (k : Q (.bl (f ds.isEmpty)) A) : opEqG f (.ref p) (.ref q) A Q := by
  refine s_eqD _ _ _ _ _ rfl (.rls e (.of_pure A ds h.pure)) (.lst e' .nil) (h.shapedL ha) (by decide +kernel) ?_
  have e2 : PyData.eqv (.list (D.pys ds)) (.list []) = ds.isEmpty := by
    cases ds <;> simp [D.pys, PyData.eqv, PyData.eqvAll]
  rw [e2]
  exact k
theorem eq_tup0 {ds : List D} {a b : Nat} {f : Bool → Bool} {A : AH} {Q : DK} (h : FitL ds a b) (ha : a ≤ 63) (k : Q (.bl (f ds.isEmpty)) A) : opEqG f (.tup ds) (.tup []) A Q := by
  refine s_eqD _ _ _ _ _ rfl (.tup (.of_pure A ds h.pure)) (.tup .nil) (h.shapedT ha) (by decide +kernel) ?_
  have e2 : PyData.eqv (.tuple (D.pys ds)) (.tuple []) = ds.isEmpty := by
    cases ds <;> simp [D.pys, PyData.eqv, PyData.eqvAll]
  rw [e2]
  exact k
/-- None among things that are none of them None -/
theorem inT_none {ds : List D} {a b : Nat} {f : Bool → Bool} {A : AH} {Q : DK} (h : FitL ds a b) (ha : a ≤ 63) (hn : ∀ d ∈ ds, isNon d = false) (k : Q (.bl (f false)) A) : opInTG f .non (.tup ds) A Q := by
  refine ⟨.none, D.pys ds, .non, .of_pure A ds h.pure, by decide +kernel, h.shapedT ha, ?_⟩
  have e : ∀ xs : List D, D.pures xs = true → (∀ d ∈ xs, isNon d = false) → ((D.pys xs).any fun z => PyData.eqv z .none) = false := by
    intro xs
    induction xs with
    | nil => intro _ _; rfl
    | cons x xs ih =>
      intro hp hx
      have hx1 := hx x List.mem_cons_self
      simp only [D.pures, Bool.and_eq_true] at hp
      have hr := ih hp.2 fun d hd => hx d (List.mem_cons_of_mem _ hd)
      simp only [D.pys, List.any_cons, hr, Bool.or_false]
      cases x with
      | non => cases hx1
      | ref a => simp [D.pure] at hp
      | kls a => simp [D.pure] at hp
      | _ => simp [D.py, PyData.eqv]
  rw [e ds h.pure hn]
  exact k
/-! slices -/
theorem cut_lo (xs : List D) (k : Nat) : cutD xs (some (k : Int)) none = xs.drop k := by
  unfold cutD
  rw [HT.sIx_nat, HT.sIx_none]
  by_cases h : k ≤ xs.length
  · rw [Nat.min_eq_left h]
    exact List.take_of_length_le (by rw [List.length_drop]; omega)
  · rw [Nat.min_eq_right (by omega), List.drop_length, List.drop_of_length_le (by omega)]
    simp
theorem cut_hi (xs : List D) (k : Nat) : cutD xs none (some (k : Int)) = xs.take k := by
  unfold cutD
  rw [HT.sIx_nat, HT.sIx_none, List.drop_zero, Nat.sub_zero]
  by_cases h : k ≤ xs.length
  · rw [Nat.min_eq_left h]
  · rw [Nat.min_eq_right (by omega), List.take_length, List.take_of_length_le (by omega)]
theorem cut_mid (xs : List D) (j k : Nat) : cutD xs (some (j : Int)) (some (k : Int)) = (xs.drop j).take (k - j) := by
  unfold cutD
  rw [HT.sIx_nat, HT.sIx_nat]
  by_cases h : j ≤ xs.length
  · rw [Nat.min_eq_left h]
    by_cases h2 : k ≤ xs.length
    · rw [Nat.min_eq_left h2]
    · rw [Nat.min_eq_right (by omega), List.take_of_length_le (by rw [List.length_drop]; omega), List.take_of_length_le (by rw [List.length_drop]; omega)]
  · rw [Nat.min_eq_right (a := j) (by omega), List.drop_length, List.drop_of_length_le (by omega)]
    simp
@[simp] theorem cut1 (xs : List D) : cutD xs (some 1) none = xs.drop 1 := cut_lo xs 1
@[simp] theorem cut3 (xs : List D) : cutD xs (some 3) none = xs.drop 3 := cut_lo xs 3
@[simp] theorem cutT1 (xs : List D) : cutD xs none (some 1) = xs.take 1 := cut_hi xs 1
@[simp] theorem cutT2 (xs : List D) : cutD xs none (some 2) = xs.take 2 := cut_hi xs 2
@[simp] theorem cutT63 (xs : List D) : cutD xs none (some 63) = xs.take 63 := cut_hi xs 63
end PD

/-! PdDraw: what a law draws -/
namespace PD
open PySem PySem.Spec PyProof.Rows L2

structure Feed (f s : Addr) (l : List Int) (c : Nat) (A : AH) : Prop where
  st : ∃ i r n : Int, A f = some (.lst [.ref s, .int i, .int r, .int n]) ∧ 0 ≤ i ∧ i ≤ n ∧ n ≤ c
  sq : A s = some (.lst (l.map D.int))
  ne : s ≠ f
  few : l.length ≤ 63
theorem Feed.mono {f s : Addr} {l : List Int} {c c' : Nat} {A : AH} (h : Feed f s l c A) (hc : c ≤ c') : Feed f s l c' A := by
  obtain ⟨⟨i, r, n, e, h1, h2, h3⟩, h4, h5, h6⟩ := h
  exact ⟨⟨i, r, n, e, h1, h2, by omega⟩, h4, h5, h6⟩
theorem Feed.ext {f s : Addr} {l : List Int} {c : Nat} {A A' : AH} (h : Feed f s l c A) (e : AExt A A') : Feed f s l c A' := by
  obtain ⟨⟨i, r, n, e1, h1, h2, h3⟩, h4, h5, h6⟩ := h
  exact ⟨⟨i, r, n, e _ _ e1, h1, h2, h3⟩, e _ _ h4, h5, h6⟩
theorem Feed.upd {f s : Addr} {l : List Int} {c : Nat} {A : AH} {p : Addr} {o : AO} (h : Feed f s l c A) (n1 : p ≠ f) (n2 : p ≠ s) : Feed f s l c (A.upd p o) := by
  obtain ⟨⟨i, r, n, e1, h1, h2, h3⟩, h4, h5, h6⟩ := h
  exact ⟨⟨i, r, n, by rw [AH.upd_ne n1.symm]; exact e1, h1, h2, h3⟩, by rw [AH.upd_ne n2.symm]; exact h4, h5, h6⟩
theorem Feed.ne1 {f s : Addr} {l : List Int} {c : Nat} {A : AH} {p : Addr} (h : Feed f s l c A) (hp : A p = none) : p ≠ f := fun z => by
  obtain ⟨⟨i, r, n, e1, _⟩, _⟩ := h
  rw [z, e1] at hp
  cases hp
theorem Feed.ne2 {f s : Addr} {l : List Int} {c : Nat} {A : AH} {p : Addr} (h : Feed f s l c A) (hp : A p = none) : p ≠ s := fun z => by
  rw [z, h.sq] at hp
  cases hp
def F__law_draw (x y : D) (A : AH) (Q : DK) : Prop := ∃ f s l c m, x = .ref f ∧ y = .int m ∧ 0 < m ∧ m < 1073741824 ∧ c ≤ 1000000 ∧ Feed f s l c A ∧ ∀ A' i, 0 ≤ i → i < m → AExtB (· = f) A A' → Feed f s l (c + 1) A' → Q (.int i) A'
abbrev sp__law_draw : DSp := sp2 F__law_draw
def t__law_draw : DTS := dSeq (dAsg (dOp opAdd (dOp opIx (dVar 0) (dC (.int 3))) (dC (.int 1))) (dgSub (dVar 0) (dC (.int 3)) setL)) (dSeq (dIfS (dTest (dOp (opGt) (dOp opIx (dVar 0) (dC (.int 2))) (dC (.int 0)))) (dSeq (dAsg (dOp opMod (dOp opIx (dVar 0) (dC (.int 2))) (dVar 1)) (dgName 5)) (dSeq (dAsg (dOp opFdiv (dOp opIx (dVar 0) (dC (.int 2))) (dVar 1)) (dgSub (dVar 0) (dC (.int 2)) setL)) (dRet (dVar 5)))) (dNext)) (dSeq (dAsg (dOp opIx (dVar 0) (dC (.int 1))) (dgName 2)) (dSeq (dAsg (dOp opAdd (dVar 2) (dC (.int 1))) (dgSub (dVar 0) (dC (.int 1)) setL)) (dSeq (dAsg (dIf (dTest (dOp (opNe) (dOp opIx (dVar 0) (dC (.int 0))) (dLst (dNil)))) (dOp opIx (dOp opIx (dVar 0) (dC (.int 0))) (dOp opMod (dVar 2) (dCB cLen (dCons (dOp opIx (dVar 0) (dC (.int 0))) (dNil))))) (dC (.int 5))) (dgName 3)) (dSeq (dIfS (dAnd (dTest (dOp (opGe) (dVar 3) (dOp opPow (dC (.int 10)) (dC (.int 18))))) (dTest (dOp (opLt) (dVar 2) (dCB cLen (dCons (dOp opIx (dVar 0) (dC (.int 0))) (dNil)))))) (dSeq (dAsg (dOp opFdiv (dVar 3) (dVar 1)) (dgSub (dVar 0) (dC (.int 2)) setL)) (dRet (dOp opMod (dVar 3) (dVar 1)))) (dNext)) (dSeq (dAsg (dOp opMod (dOp opPow (dOp opAdd (dOp opAdd (dOp opMod (dVar 3) (dC (.int 2147483629))) (dOp opMul (dC (.int 50021)) (dOp opIx (dVar 0) (dC (.int 3))))) (dC (.int 11))) (dC (.int 5))) (dC (.int 2147483647))) (dgName 4)) (dSeq (dAsg (dOp opMod (dOp opPow (dOp opAdd (dOp opAdd (dVar 4) (dOp opMul (dOp opMul (dC (.int 30011)) (dOp opIx (dVar 0) (dC (.int 3)))) (dOp opIx (dVar 0) (dC (.int 3))))) (dVar 2)) (dC (.int 5))) (dC (.int 2147483587))) (dgName 4)) (dRet (dOp opMod (dOp opFdiv (dVar 4) (dC (.int 64))) (dVar 1))))))))))
theorem draw_use {f s : Addr} {l : List Int} {c : Nat} {m : Int} {A : AH} {Q : DK} {E : DX} (h : Feed f s l c A) (h0 : 0 < m) (h1 : m < 1073741824) (hc : c ≤ 1000000) (k : ∀ A' (i : Int), 0 ≤ i → i < m → AExtB (· = f) A A' → Feed f s l (c + 1) A' → Q (.int i) A') : sp__law_draw [.ref f, .int m] A Q E :=
  ⟨f, s, l, c, m, rfl, rfl, h0, h1, hc, h, k⟩
theorem pure_ints : ∀ l : List Int, D.pures (l.map D.int) = true ∧ PyData.canLayAll0 (D.pys (l.map D.int)) = true ∧ PyData.depthAll (D.pys (l.map D.int)) = 0
  | [] => ⟨rfl, rfl, rfl⟩
  | x :: l => by
    obtain ⟨h1, h2, h3⟩ := pure_ints l
    refine ⟨?_, ?_, ?_⟩
    · simp [D.pures, D.pure, h1]
    · simp [D.pys, D.py, PyData.canLayAll0, PyData.canLay0, h2]
    · simp [D.pys, D.py, PyData.depthAll, PyData.depth, h3]
theorem ne_nil {p q : Addr} {l : List Int} {A : AH} {Q : DK} (e : A p = some (.lst (l.map D.int))) (e' : A q = some (.lst [])) (k : Q (.bl (!l.isEmpty)) A) : opNe (.ref p) (.ref q) A Q := by
  obtain ⟨h1, h2, h3⟩ := pure_ints l
  refine s_eqD _ _ _ _ _ rfl (.lst e (.of_pure A _ h1)) (.lst e' .nil) ?_ (by decide +kernel) ?_
  · unfold SeqAt.shaped
    simp only [PyData.canLay0, PyData.depth, h2, h3]
    decide
  · have e2 : PyData.eqv (.list (D.pys (l.map D.int))) (.list []) = l.isEmpty := by
      cases l <;> simp [D.pys, PyData.eqv, PyData.eqvAll]
    rw [e2]
    exact k
theorem pow5_lt {x : Int} (h0 : 0 ≤ x) (h : x < 18446744073709551616) : CPow x 5 := by
  refine ⟨by omega, by omega, ?_⟩
  have : (2 : Nat) ^ 64 = 18446744073709551616 := by decide
  omega
theorem r__law_draw : ∀ x y A Q, F__law_draw x y A Q → t__law_draw { nx := fun _ A' => Q .non A', rt := Q } (some x :: some y :: List.replicate 4 none) A := by
  rintro _ _ A Q ⟨f, s, l, c, m, rfl, rfl, m0, m1, hc, F, k⟩
  obtain ⟨⟨i, r, n, e, hi, hn, hnc⟩, hs, hsf, hl⟩ := F
  simp only [t__law_draw, s_seq, s_asg, s_op, s_sl, s_var, s_c, s_noPart, s_part, List.replicate]
  have ix3 : ixN 4 3 = some 3 := by decide
  have ix2 : ixN 4 2 = some 2 := by decide
  have ix1 : ixN 4 1 = some 1 := by decide
  have hcd : CDiv r m := ⟨m0, m1⟩
  simp [e, s_setL _ _ _ _ _ e, ix3]
  have B1 : ∀ o, AExtB (· = f) A (A.upd f o) := fun o => .upd rfl
  by_cases hr : 0 < r
  · simp [hr, m0, s_setL, ix2, hcd]
    have hb := k ((A.upd f (.lst [.ref s, .int i, .int r, .int (n + 1)])).upd f (.lst [.ref s, .int i, .int (r / m), .int (n + 1)])) (r % m) (Int.emod_nonneg _ (by omega)) (Int.emod_lt_of_pos _ m0) ((B1 _).trans (.upd rfl))
      ⟨⟨i, r / m, n + 1, AH.upd_same, hi, by omega, by omega⟩, by rw [AH.upd_ne hsf, AH.upd_ne hsf]; exact hs, hsf, hl⟩
    exact hb
  · simp [hr, s_setL, ix1]
    refine fun p hp => ?_
    generalize hB0 : (A.upd f (.lst [.ref s, .int i, .int r, .int (n + 1)])).upd f (.lst [.ref s, .int (i + 1), .int r, .int (n + 1)]) = B0 at hp ⊢
    have eB0 : B0 f = some (.lst [.ref s, .int (i + 1), .int r, .int (n + 1)]) := by rw [← hB0]; exact AH.upd_same
    have sB0 : B0 s = some (.lst (l.map D.int)) := by rw [← hB0, AH.upd_ne hsf, AH.upd_ne hsf]; exact hs
    have xB0 : AExtB (· = f) A B0 := by rw [← hB0]; exact (B1 _).trans (.upd rfl)
    have eB := (AExt.new (o := .lst []) hp) _ _ eB0
    have sB := (AExt.new (o := .lst []) hp) _ _ sB0
    have xB := xB0.trans (AExt.new (o := .lst []) hp).b
    have pB : (B0.upd p (.lst [])) p = some (.lst []) := AH.upd_same
    generalize B0.upd p (.lst []) = B at eB sB xB pB ⊢
    have kB : ∀ i', 0 ≤ i' → i' < m → Q (.int i') B := fun i' h1 h2 => k B i' h1 h2 xB ⟨⟨i + 1, r, n + 1, eB, by omega, by omega, by omega⟩, sB, hsf, hl⟩
    have p1018 : CPow 10 18 := ⟨by omega, by omega, by decide⟩
    have hsq : (n + 1) * (n + 1) ≤ 1000001 * 1000001 := Int.mul_le_mul (by omega) (by omega) (by omega) (by omega)
    have hsq0 : 0 ≤ (n + 1) * (n + 1) := Int.mul_nonneg (by omega) (by omega)
    have fin : ∀ v : Int, CPow (v % 2147483629 + 50021 * (n + 1) + 11) 5 ∧ CMul 50021 (n + 1) ∧ CMul 30011 (n + 1) ∧ CMul (30011 * (n + 1)) (n + 1) ∧
        CPow ((v % 2147483629 + 50021 * (n + 1) + 11) ^ 5 % 2147483647 + 30011 * (n + 1) * (n + 1) + i) 5 := fun v => by
      have a1 := Int.emod_nonneg v (show (2147483629 : Int) ≠ 0 by omega)
      have a2 := Int.emod_lt_of_pos v (show (0 : Int) < 2147483629 by omega)
      have a3 := Int.emod_nonneg ((v % 2147483629 + 50021 * (n + 1) + 11) ^ 5) (show (2147483647 : Int) ≠ 0 by omega)
      have a4 := Int.emod_lt_of_pos ((v % 2147483629 + 50021 * (n + 1) + 11) ^ 5) (show (0 : Int) < 2147483647 by omega)
      have a5 : 30011 * (n + 1) * (n + 1) = 30011 * ((n + 1) * (n + 1)) := Int.mul_assoc _ _ _
      refine ⟨pow5_lt (by omega) (by omega), .inl (by omega), .inl (by omega), .inr (by omega), pow5_lt ?_ ?_⟩
      · rw [a5]
        generalize (n + 1) * (n + 1) = N2 at hsq hsq0
        generalize (v % 2147483629 + 50021 * (n + 1) + 11) ^ 5 % 2147483647 = M at a3 a4
        omega
      · rw [a5]
        generalize (n + 1) * (n + 1) = N2 at hsq hsq0
        generalize (v % 2147483629 + 50021 * (n + 1) + 11) ^ 5 % 2147483647 = M at a3 a4
        omega
    have c64 : ∀ v : Int, CDiv v 64 := fun v => ⟨by omega, by omega⟩
    have last : ∀ w : Int, Q (.int (w % m)) B := fun w => kB _ (Int.emod_nonneg _ (by omega)) (Int.emod_lt_of_pos _ m0)
    refine ne_nil sB pB ?_
    cases l with
    | nil =>
      have f5 := fin 5
      simp [eB, p1018]
      simp at f5
      simp [f5, c64, m0]
      exact last _
    | cons v0 l0 =>
      have hlen : 0 < ((l0.length : Int) + 1) := by omega
      obtain ⟨v, hv⟩ : ∃ v, atI ((v0 :: l0).map D.int) (i % ((l0.length : Int) + 1)) = some (.int v) := by
        have h1 := Int.emod_nonneg i (show ((l0.length : Int) + 1) ≠ 0 by omega)
        have h2 := Int.emod_lt_of_pos i hlen
        obtain ⟨j, hj⟩ : ∃ j : Nat, i % ((l0.length : Int) + 1) = j := ⟨(i % ((l0.length : Int) + 1)).toNat, by omega⟩
        have hjl : j < (v0 :: l0).length := by simp; omega
        refine ⟨(v0 :: l0)[j], ?_⟩
        rw [hj]
        exact atI_nat (by rw [List.getElem?_map, List.getElem?_eq_getElem hjl]; rfl)
      have fv := fin v
      rw [List.map_cons] at sB hv
      simp [eB, p1018, s_lenL _ _ _ _ sB, hlen, sB, hv]
      have hdv : CDiv v m := ⟨m0, m1⟩
      have tail : CPow (v % 2147483629 + 50021 * (n + 1) + 11) 5 := fv.1
      split
      · split
        · simp [hdv, s_setL _ _ _ _ _ eB, ix2, m0]
          have hb := k (B.upd f (.lst [.ref s, .int (i + 1), .int (v / m), .int (n + 1)])) (v % m) (Int.emod_nonneg _ (by omega)) (Int.emod_lt_of_pos _ m0) (xB.trans (.upd rfl))
            ⟨⟨i + 1, v / m, n + 1, AH.upd_same, by omega, by omega, by omega⟩, by rw [AH.upd_ne hsf]; exact sB, hsf, hl⟩
          exact hb
        · simp [eB, fv, c64, m0]
          exact last _
      · simp [eB, fv, c64, m0]
        exact last _

/-- the script -/
def ScriptIs (x : D) (l : List Int) (A : AH) : Prop := (∃ a, x = .ref a ∧ seqA (A a) = some (l.map D.int)) ∨ x = .kls (l.map D.int)
def F__law_feed (x : D) (A : AH) (Q : DK) : Prop := ∃ l, ScriptIs x l A ∧ ∀ A' f s, AExt A A' → A f = none → Feed f s (l.take 63) 0 A' → Q (.ref f) A'
abbrev sp__law_feed : DSp := sp1 F__law_feed
def t__law_feed : DTS := dRet (dLst (dCons (dSl (dVar 0) (dNoPart) (dPart (dC (.int 63)))) (dCons (dC (.int 0)) (dCons (dC (.int 0)) (dCons (dC (.int 0)) (dNil))))))
theorem r__law_feed : ∀ x A Q, F__law_feed x A Q → t__law_feed { nx := fun _ A' => Q .non A', rt := Q } (some x :: List.replicate 0 none) A := by
  rintro x A Q ⟨l, hx, k⟩
  have key : ∀ p, A p = none → ∀ q, (A.upd p (.lst ((l.map D.int).take 63))) q = none → Q (.ref q) ((A.upd p (.lst ((l.map D.int).take 63))).upd q (.lst [.ref p, .int 0, .int 0, .int 0])) := fun p hp q hq => by
    have hpq : p ≠ q := AH.ne AH.upd_same hq
    have e0 : AExt A (A.upd p (.lst ((l.map D.int).take 63))) := .new hp
    refine k _ q p (e0.trans (.new hq)) ?_ ⟨⟨0, 0, 0, AH.upd_same, by omega, by omega, by omega⟩, ?_, hpq, by rw [List.length_take]; omega⟩
    · cases h : A q with
      | none => rfl
      | some o =>
        rw [e0 _ _ h] at hq
        cases hq
    · rw [AH.upd_ne hpq, AH.upd_same, List.map_take]
  have h4 : 4 ≤ sizeLine := by decide
  rcases hx with ⟨a, rfl, ha⟩ | rfl
  · simp only [t__law_feed, List.replicate]
    simp [ha, h4]
    exact key
  · simp only [t__law_feed, List.replicate]
    simp [h4]
    exact key
theorem repInts {K : PySem.W.Frag} {H : Hp} : ∀ ns : List Int, RepL K H (ns.map D.int) (ns.map V.int)
  | [] => rfl
  | n :: ns => ⟨V.int n, ns.map V.int, rfl, rfl, repInts ns⟩
theorem lawSp {K : PySem.W.Frag} {H : Hp} {a : Addr} {ns : List Int} {F : D → AH → DK → Prop} (h : SqL K H a (ns.map V.int)) (hF : ∀ x A, ScriptIs x ns A → F x A fun d _ => d = .bl true) :
    LSp K (sp1 F) [.ref a] H (fun v _ => v = .bl true) fun _ _ _ => False := by
  have fin : ∀ (x : D) (A : AH), ARel K H A → Rep K H x (.ref a) → ScriptIs x ns A → LSp K (sp1 F) [.ref a] H (fun v _ => v = .bl true) fun _ _ _ => False := fun x A o r sc =>
    ⟨[x], A, fun d _ => d = .bl true, fun _ _ _ => False, o, ⟨_, [], rfl, r, rfl⟩, hF x A sc, fun d A' v H' q _ _ r => by
      subst q
      exact r, fun _ _ _ _ _ _ z => z.elim⟩
  rcases h with (h | ⟨u, h⟩) | h
  · refine fin (.ref a) (AH.upd (fun _ => none) a (.lst (ns.map D.int))) (fun b o e => ?_) rfl (.inl ⟨a, rfl, by rw [AH.upd_same]; rfl⟩)
    by_cases hb : b = a
    · subst hb
      rw [AH.upd_same] at e
      cases e
      exact ⟨_, h, repInts ns⟩
    · rw [AH.upd_ne hb] at e
      cases e
  · refine fin (.ref a) (AH.upd (fun _ => none) a (.rls (ns.map D.int))) (fun b o e => ?_) rfl (.inl ⟨a, rfl, by rw [AH.upd_same]; rfl⟩)
    by_cases hb : b = a
    · subst hb
      rw [AH.upd_same] at e
      cases e
      exact ⟨u, _, h, repInts ns⟩
    · rw [AH.upd_ne hb] at e
      cases e
  · exact fin (.kls (ns.map D.int)) (fun _ => none) (fun _ _ e => nomatch e) ⟨a, _, rfl, .inr h, repInts ns⟩ (.inr rfl)
end PD

/-! texts: words, numbers, literals -/
namespace K82
open PySem PySem.Spec PyProof.Rows L2 PD SX

theorem big {n : Nat} (h : n ≤ 1000000 := by omega) : n ≤ sizeLine := Nat.le_trans h (by decide)
@[simp] theorem s_inS (f : Bool → Bool) (c : Nat) (z : Str) (A : AH) (Q : DK) : opInG f (.str ⟨#[c]⟩) (.str z) A Q = Q (.bl (f (decide (c ∈ z.cps.toList)))) A := rfl
theorem cut_to (l : List Nat) (k : Nat) : cutS (S l) none (some (k : Int)) = S (l.take k) := by
  rw [C8.cutS_slice, slice_to (Int.natCast_nonneg k), Int.toNat_natCast]
theorem cut_from (l : List Nat) (k : Nat) : cutS (S l) (some (k : Int)) none = S (l.drop k) := by
  rw [C8.cutS_slice, slice_from (Int.natCast_nonneg k), Int.toNat_natCast]
theorem numL_head : ∀ n : Nat, n ≠ 0 → ∃ c r, TL.numL n = c :: r ∧ c ≠ 48 ∧ c ≠ 45
  | n, h => by
    by_cases hn : n < 10
    · exact ⟨48 + n, [], TL.numL_lt hn, by omega, by omega⟩
    · obtain ⟨c, r, e, h1, h2⟩ := numL_head (n / 10) (by omega)
      exact ⟨c, r ++ [48 + n % 10], by rw [TL.numL_step (by omega), e]; rfl, h1, h2⟩
@[simp] theorem S_len2 (l : List Nat) : (S l).length = l.length := S_len l
@[simp] theorem signs_len (l : List Nat) : (signsD (S l)).length = l.length := by
  unfold signsD
  rw [List.length_map]
theorem dig_all (n : Nat) : (TL.numL n).all (fun c => decide (48 ≤ c) && decide (c ≤ 57)) = true := by
  rw [List.all_eq_true]
  intro c hc
  have h : ¬ (c < 48 ∨ 57 < c) := fun h => TL.numL_free h hc
  simp
  omega
theorem numL_sign {n c : Nat} (h : c ∈ TL.numL n) : c ∈ (Str.ofString "0123456789").cps.toList := by
  have h : ¬ (c < 48 ∨ 57 < c) := fun q => TL.numL_free q h
  rw [show (Str.ofString "0123456789").cps.toList = [48, 49, 50, 51, 52, 53, 54, 55, 56, 57] by decide +kernel]
  simp
  omega
@[simp] theorem blsT {α : Type} (xs : List α) : blsOf (xs.map fun _ => D.bl true) = some (xs.map fun _ => true) := by
  rw [show (xs.map fun _ => D.bl true) = (xs.map fun _ => true).map D.bl by simp]
  exact blsOf_map _
@[simp] theorem allT {α : Type} (xs : List α) : (xs.all fun _ => true) = true := by
  rw [List.all_eq_true]
  exact fun _ _ => rfl

abbrev SpecS1 := D → AH → DK → Prop
/-- a word written as a number -/
def F_number_in (x y z : D) (A : AH) (Q : DK) : Prop := ∃ (n : Nat) (lo hi : Int), x = .str (S (TL.numL n)) ∧ y = .int lo ∧ z = .int hi ∧ lo ≤ n ∧ (n : Int) ≤ hi ∧ n < 10 ^ 12 ∧ ∀ A', AExt A A' → Q (.int n) A'
abbrev sp_number_in : DSp := sp3 F_number_in
def t_number_in : DTS := dSeq (dAsg (dOp (opEq) (dSl (dVar 0) (dNoPart) (dPart (dC (.int 1)))) (dC (.str "-"))) (dgName 3)) (dSeq (dAsg (dIf (dTest (dVar 3)) (dSl (dVar 0) (dPart (dC (.int 1))) (dNoPart)) (dVar 0)) (dgName 4)) (dSeq (dIfS (dOr (dNot (dTest (dChain (opLe) (opLe) (dC (.int 1)) (dCB cLen (dCons (dVar 4) (dNil))) (dC (.int 12))))) (dNot (dTest (dCB cAll (dCons (dLc (iSeq (dVar 4)) (dgName 5) (dYes) (dOp (opIn) (dVar 5) (dC (.str "0123456789"))) [5]) (dNil)))))) (dRet (dC .non)) (dNext)) (dSeq (dIfS (dOr (dAnd (dTest (dOp (opEq) (dOp opIx (dVar 4) (dC (.int 0))) (dC (.str "0")))) (dTest (dOp (opNe) (dVar 0) (dC (.str "0"))))) (dNot (dTest (dChain (opLe) (opLe) (dVar 1) (dCB cInt (dCons (dVar 0) (dNil))) (dVar 2))))) (dRet (dC .non)) (dNext)) (dRet (dCB cInt (dCons (dVar 0) (dNil)))))))
theorem r_number_in : ∀ x y z A Q, F_number_in x y z A Q → t_number_in { nx := fun _ A' => Q .non A', rt := Q } (some x :: some y :: some z :: List.replicate 3 none) A := by
  rintro _ _ _ A Q ⟨n, lo, hi, rfl, rfl, rfl, h1, h2, h3, k⟩
  have hl : (TL.numL n).length ≤ 12 := TL.numL_len (by decide) h3
  have hs : (S (TL.numL n)).length ≤ sizeLine := by rw [S_len]; exact big
  have dig := TL.numL_digits n
  have hne := TL.numL_ne n
  have hit : intText? (S (TL.numL n)) = some ((n : Nat) : Int) := by
    rw [int_S (dig_all n) hne (by omega), TL.numL_val]
  have hc : (cutS (S (TL.numL n)) none (some 1) = Str.ofString "-") = False := by
    refine eq_false fun e => ?_
    have e2 : S ((TL.numL n).take 1) = S [45] := (cut_to (TL.numL n) 1).symm.trans e
    have e3 := S_inj e2
    obtain ⟨c, r, e4⟩ := List.exists_cons_of_ne_nil hne
    rw [e4] at e3
    have e5 : c = 45 := by simpa using e3
    exact TL.numL_free (n := n) (s := 45) (by omega) (by rw [e4, e5]; exact List.mem_cons_self)
  have hl1 : 1 ≤ (TL.numL n).length := List.length_pos_iff.mpr hne
  have hz : ∀ c r, TL.numL n = c :: r → (c = 48 → S (TL.numL n) = Str.ofString "0") := fun c r e hc => by
    by_cases h0 : n = 0
    · subst h0
      rfl
    · obtain ⟨c', r', e', h48, _⟩ := numL_head n h0
      rw [e'] at e
      cases e
      exact absurd hc h48
  simp only [t_number_in, s_seq, s_asg, s_op, s_sl, s_var, s_c, s_noPart, s_part, List.replicate]
  have hs2 : (TL.numL n).length ≤ sizeLine := big
  have hl3 : (1 : Int) ≤ ((TL.numL n).length : Int) := by omega
  have hl4 : ((TL.numL n).length : Int) ≤ 12 := by omega
  simp [hc, hs2, hl3, hl4]
  refine fun p hp => ?_
  refine comp_map (fun _ => .bl true) _ A hp ?_ (fun _ _ => trivial) ?_ ?_
  · rw [signs_len]
    exact hs2
  · intro x A1 Z hx e1 kz
    unfold signsD at hx
    obtain ⟨c, hcm, rfl⟩ := List.mem_map.mp hx
    have hd := numL_sign hcm
    simp [hd]
    exact kz _ (.refl _)
  · intro A1 e1 ea
    have hb := blsT (signsD (S (TL.numL n)))
    simp [ea, hb, hs2, hit, h1, h2]
    obtain ⟨c, r, e4⟩ := List.exists_cons_of_ne_nil hne
    have hz2 := hz c r e4
    have e8 : atI (TL.numL n) 0 = some c := by rw [e4]; exact at0 c r
    rw [e8, s_onS]
    have h640 : (TL.numL n).length ≤ 640 := by omega
    simp only [h640, true_and]
    split
    · rename_i e5
      have e6 : c = 48 := by
        have e7 : S [c] = S [48] := e5
        simpa using S_inj e7
      rw [if_pos (hz2 e6)]
      exact k _ e1
    · exact k _ e1

/-! ### literals -/
def isC (c : Nat) : Bool := decide (97 ≤ c) && decide (c ≤ 122)
def isW (w : List Nat) : Bool := (decide (1 ≤ w.length) && decide (w.length ≤ 8)) && w.all isC
def riseB : List (List Nat) → Bool
  | a :: b :: r => decide (a < b) && riseB (b :: r)
  | _ => true
abbrev tl (x : Str) : List Nat := x.cps.toList
inductive Lit where
  | plc (out : Bool) (ws : List (List Nat))
  | age (lo : Nat) (hi : Option Nat)
  | tie (far : Bool) (n : Nat)
def kP (b : Bool) : Str := if b then "out" else "town"
def kT (b : Bool) : Str := if b then "far" else "kin"
def hiD : Option Nat → D
  | none => .non
  | some n => .int (n : Nat)
def hiW : Option Nat → List Nat
  | none => [45]
  | some n => TL.numL n
def Lit.d : Lit → D
  | .plc o ws => .tup [.str (kP o), .tup ((ws.map S).map D.str)]
  | .age lo hi => .tup [.str "age", .int (lo : Nat), hiD hi]
  | .tie f n => .tup [.str (kT f), .int (n : Nat)]
def Lit.parts : Lit → List (List Nat)
  | .plc o ws => [tl (kP o), TL.joinL [44] ws]
  | .age lo hi => [tl "age", TL.numL lo, hiW hi]
  | .tie f n => [tl (kT f), TL.numL n]
def Lit.w (l : Lit) : List Nat := TL.joinL [58] l.parts
def okws (ws : List (List Nat)) : Bool := (decide (1 ≤ ws.length) && decide (ws.length ≤ 4)) && (ws.all isW && riseB ws)
def Lit.ok : Lit → Bool
  | .plc _ ws => okws ws
  | .age lo none => decide (lo < 10 ^ 12)
  | .age lo (some h) => decide (lo < h) && decide (h < 10 ^ 12)
  | .tie _ n => decide (n < 10 ^ 12)
theorem num_small {n : Nat} (h : n < 10 ^ 12) : ((n : Nat) : Int).natAbs.log2 < 1920 := by
  rw [Int.natAbs_natCast]
  by_cases h0 : n = 0
  · subst h0
    decide
  · refine (Nat.log2_lt h0).mpr (Nat.lt_of_lt_of_le h ?_)
    decide +kernel
theorem isW_len {w : List Nat} (h : isW w = true) : 1 ≤ w.length ∧ w.length ≤ 8 := by
  unfold isW at h
  simp at h
  omega
theorem isW_c {w : List Nat} (h : isW w = true) {c : Nat} (hc : c ∈ w) : 97 ≤ c ∧ c ≤ 122 := by
  unfold isW at h
  simp [isC] at h
  exact h.2 c hc

/-! is_word, rises, are_words -/
def F_is_word (x : D) (A : AH) (Q : DK) : Prop := ∃ w, x = .str (S w) ∧ isW w = true ∧ ∀ A', AExt A A' → Q (.bl true) A'
abbrev sp_is_word : DSp := sp1 F_is_word
def t_is_word : DTS := dSeq (dIfS (dOr (dNot (dTest (dIsi "str" (dVar 0)))) (dNot (dTest (dChain (opLe) (opLe) (dC (.int 1)) (dCB cLen (dCons (dVar 0) (dNil))) (dC (.int 8)))))) (dRet (dC (.bl false))) (dNext)) (dRet (dCB cAll (dCons (dLc (iSeq (dVar 0)) (dgName 1) (dYes) (dOp (opIn) (dVar 1) (dC (.str "abcdefghijklmnopqrstuvwxyz"))) [1]) (dNil))))
theorem letter_in {c : Nat} (h : 97 ≤ c ∧ c ≤ 122) : c ∈ (Str.ofString "abcdefghijklmnopqrstuvwxyz").cps.toList := by
  rw [show (Str.ofString "abcdefghijklmnopqrstuvwxyz").cps.toList = [97, 98, 99, 100, 101, 102, 103, 104, 105, 106, 107, 108, 109, 110, 111, 112, 113, 114, 115, 116, 117, 118, 119, 120, 121, 122] by decide +kernel]
  simp
  omega
theorem r_is_word : ∀ x A Q, F_is_word x A Q → t_is_word { nx := fun _ A' => Q .non A', rt := Q } (some x :: List.replicate 1 none) A := by
  rintro _ A Q ⟨w, rfl, hw, k⟩
  obtain ⟨h1, h2⟩ := isW_len hw
  have hs : w.length ≤ sizeLine := big
  have h3 : (1 : Int) ≤ (w.length : Int) := by omega
  have h4 : (w.length : Int) ≤ 8 := by omega
  simp only [t_is_word, s_seq, s_asg, s_op, s_sl, s_var, s_c, s_noPart, s_part, List.replicate]
  simp [hs, h3, h4, isiB]
  refine fun p hp => comp_map (fun _ => .bl true) _ A hp (by rw [signs_len]; exact hs) (fun _ _ => trivial) ?_ ?_
  · intro x A1 Z hx e1 kz
    unfold signsD at hx
    obtain ⟨c, hcm, rfl⟩ := List.mem_map.mp hx
    simp [letter_in (isW_c hw hcm)]
    exact kz _ (.refl _)
  · intro A1 e1 ea
    have hb := blsT (signsD (S w))
    simp [ea, hb]
    exact k _ e1
def F_rises (x : D) (A : AH) (Q : DK) : Prop := ∃ ws, x = .tup ((ws.map S).map D.str) ∧ ws.length ≤ 50 ∧ riseB ws = true ∧ ∀ A', AExt A A' → Q (.bl true) A'
abbrev sp_rises : DSp := sp1 F_rises
def t_rises : DTS := dRet (dCB cAll (dCons (dLc (iRange2 (dCons (dC (.int 1)) (dCons (dCB cLen (dCons (dVar 0) (dNil))) (dNil)))) (dgName 1) (dYes) (dOp (opLt) (dOp opIx (dVar 0) (dOp opSub (dVar 1) (dC (.int 1)))) (dOp opIx (dVar 0) (dVar 1))) [1]) (dNil)))
theorem rise_get : ∀ {ws : List (List Nat)} {i : Nat} {a b : List Nat}, riseB ws = true → ws[i]? = some a → ws[i + 1]? = some b → a < b
  | a :: b :: r, 0, _, _, h, e1, e2 => by
    simp [riseB] at h e1 e2
    subst e1
    subst e2
    exact h.1
  | a :: b :: r, i + 1, _, _, h, e1, e2 => by
    simp [riseB] at h
    exact rise_get h.2 (by simpa using e1) (by simpa using e2)
theorem r_rises : ∀ x A Q, F_rises x A Q → t_rises { nx := fun _ A' => Q .non A', rt := Q } (some x :: List.replicate 1 none) A := by
  rintro _ A Q ⟨ws, rfl, hl, hr, k⟩
  simp only [t_rises, s_seq, s_asg, s_op, s_sl, s_var, s_c, s_noPart, s_part, List.replicate]
  simp
  refine ⟨by omega, fun p hp => comp_map (fun _ => .bl true) _ A hp (by rw [rangeD_length]; exact big) (fun _ _ => trivial) ?_ ?_⟩
  · intro x A1 Z hx e1 kz
    obtain ⟨i, hi, rfl⟩ := List.mem_map.mp hx
    have hi2 := List.mem_range.mp hi
    have e1 : ws[i]? = some ws[i] := List.getElem?_eq_getElem (by omega)
    have e2 : ws[i + 1]? = some ws[i + 1] := List.getElem?_eq_getElem (by omega)
    have a1 : atI ((ws.map S).map D.str) (1 + (i : Int) - 1) = some (.str (S ws[i])) := by
      rw [show 1 + (i : Int) - 1 = (i : Nat) by omega]
      exact atI_nat (by rw [List.getElem?_map, List.getElem?_map, e1]; rfl)
    have a2 : atI ((ws.map S).map D.str) (1 + (i : Int)) = some (.str (S ws[i + 1])) := by
      rw [show 1 + (i : Int) = ((i + 1 : Nat) : Int) by omega]
      exact atI_nat (by rw [List.getElem?_map, List.getElem?_map, e2]; rfl)
    rw [List.map_map] at a1 a2
    simp [a1, a2, rise_get hr e1 e2]
    exact kz _ (.refl _)
  · intro A1 e1 ea
    have hb := blsT (rangeD 1 (((ws.length : Nat) : Int) - 1).toNat)
    simp [ea, hb]
    exact k _ e1
end K82

/-! literals -/
namespace K82
open PySem PySem.Spec PyProof.Rows L2 PD SX

def F_are_words (x : D) (A : AH) (Q : DK) : Prop := ∃ ws, x = .tup ((ws.map S).map D.str) ∧ okws ws = true ∧ ∀ A', AExt A A' → Q (.bl true) A'
abbrev sp_are_words : DSp := sp1 F_are_words
def t_are_words : DTS := dSeq (dIfS (dOr (dNot (dTest (dIsi "tuple" (dVar 0)))) (dOr (dTest (dOp (opEq) (dCB cLen (dCons (dVar 0) (dNil))) (dC (.int 0)))) (dNot (dTest (dCB cAll (dCons (dLc (iSeq (dVar 0)) (dgName 1) (dYes) (dCall sp_is_word (dCons (dVar 1) (dNil))) [1]) (dNil))))))) (dRet (dC (.bl false))) (dNext)) (dRet (dCall sp_rises (dCons (dVar 0) (dNil))))
theorem okws_of {ws : List (List Nat)} (h : okws ws = true) : (1 ≤ ws.length ∧ ws.length ≤ 4) ∧ (∀ w ∈ ws, isW w = true) ∧ riseB ws = true := by
  unfold okws at h
  simp at h
  exact ⟨⟨h.1.1, h.1.2⟩, h.2.1, h.2.2⟩
theorem r_are_words : ∀ x A Q, F_are_words x A Q → t_are_words { nx := fun _ A' => Q .non A', rt := Q } (some x :: List.replicate 1 none) A := by
  rintro _ A Q ⟨ws, rfl, hw, k⟩
  obtain ⟨⟨h1, h2⟩, h3, h4⟩ := okws_of hw
  have hne : ws ≠ [] := by
    intro e
    subst e
    simp at h1
  simp only [t_are_words, s_seq, s_asg, s_op, s_sl, s_var, s_c, s_noPart, s_part, List.replicate]
  simp [isiB, hne]
  refine fun p hp => comp_map (fun _ => .bl true) _ A hp (by simpa using big (n := ws.length)) (fun _ _ => trivial) ?_ ?_
  · intro x A1 Z hx e1 kz
    obtain ⟨w, hm, rfl⟩ := List.mem_map.mp hx
    simp
    exact ⟨w, rfl, h3 w hm, kz⟩
  · intro A1 e1 ea
    simp [ea, Function.comp_def]
    exact ⟨ws, by rw [List.map_map]; rfl, by omega, h4, fun A' e2 => k A' (e1.trans e2)⟩

def F_stretch_in (x y : D) (A : AH) (Q : DK) : Prop := ∃ lo hi, x = .str (S (TL.numL lo)) ∧ y = .str (S (hiW hi)) ∧ (Lit.age lo hi).ok = true ∧ ∀ A', AExt A A' → Q (Lit.age lo hi).d A'
abbrev sp_stretch_in : DSp := sp2 F_stretch_in
def t_stretch_in : DTS := dSeq (dAsg (dCall sp_number_in (dCons (dVar 0) (dCons (dC (.int 0)) (dCons (dC (.int 999999999999)) (dNil))))) (dgName 2)) (dSeq (dIfS (dTest (dOp (opIsN id) (dVar 2) (dC .non))) (dRet (dC .non)) (dNext)) (dSeq (dIfS (dTest (dOp (opEq) (dVar 1) (dC (.str "-")))) (dRet (dTup (dCons (dC (.str "age")) (dCons (dVar 2) (dCons (dC .non) (dNil)))))) (dNext)) (dSeq (dAsg (dCall sp_number_in (dCons (dVar 1) (dCons (dOp opAdd (dVar 2) (dC (.int 1))) (dCons (dC (.int 999999999999)) (dNil))))) (dgName 3)) (dRet (dIf (dTest (dOp (opIsN id) (dVar 3) (dC .non))) (dC .non) (dTup (dCons (dC (.str "age")) (dCons (dVar 2) (dCons (dVar 3) (dNil))))))))))
theorem num_ne {n : Nat} {z : Str} (c : Nat) (hz : z = S [c]) (hc : c < 48 ∨ 57 < c) : (S (TL.numL n) = z) = False := eq_false fun e => by
  rw [hz] at e
  have e2 := S_inj e
  exact TL.numL_free (n := n) hc (by rw [e2]; exact List.mem_singleton.mpr rfl)
theorem r_stretch_in : ∀ x y A Q, F_stretch_in x y A Q → t_stretch_in { nx := fun _ A' => Q .non A', rt := Q } (some x :: some y :: List.replicate 2 none) A := by
  rintro _ _ A Q ⟨lo, hi, rfl, rfl, ok, k⟩
  have hlo : lo < 10 ^ 12 := by
    cases hi <;> simp [Lit.ok] at ok <;> omega
  have h3 : (3 : Nat) ≤ sizeLine := big
  simp only [t_stretch_in, s_seq, s_asg, s_op, s_sl, s_var, s_c, s_noPart, s_part, List.replicate]
  simp
  refine ⟨lo, 0, 999999999999, rfl, rfl, rfl, by omega, by omega, hlo, fun A1 e1 => ?_⟩
  cases hi with
  | none =>
    have e9 : S (hiW none) = Str.ofString "-" := rfl
    simp [e9, h3]
    exact k A1 e1
  | some h =>
    have e9 : (S (hiW (some h)) = Str.ofString "-") = False := num_ne 45 rfl (by omega)
    simp [Lit.ok] at ok
    simp [e9]
    refine ⟨h, (lo : Int) + 1, 999999999999, rfl, rfl, rfl, by omega, by omega, by omega, fun A2 e2 => ?_⟩
    simp [h3]
    exact k A2 (e1.trans e2)

/-! split -/
theorem split_parts (c : Nat) (hc : c < 256) (parts : List (List Nat)) (hne : parts ≠ []) (h : ∀ p ∈ parts, c ∉ p) : Txt.split (S (TL.joinL [c] parts)) (S [c]) = parts.map S := by
  rw [split_S (by simp) (by simp; exact hc), spl_join hne h]
theorem join_len {c b : Nat} : ∀ {ps : List (List Nat)}, (∀ p ∈ ps, p.length ≤ b) → (TL.joinL [c] ps).length ≤ ps.length * (b + 1)
  | [], _ => Nat.zero_le _
  | [p], h => by
    have := h p (by simp)
    show p.length ≤ _
    simp
    omega
  | p :: q :: r, h => by
    have h1 := h p (by simp)
    have h2 := join_len (c := c) (ps := q :: r) fun z hz => h z (List.mem_cons_of_mem _ hz)
    show (p ++ ([c] ++ TL.joinL [c] (q :: r))).length ≤ _
    rw [List.length_append, List.length_append, List.length_singleton]
    rw [List.length_cons] at h2 ⊢
    rw [List.length_cons]
    have e : (r.length + 1 + 1) * (b + 1) = (r.length + 1) * (b + 1) + (b + 1) := by rw [Nat.add_mul]; simp
    rw [e]
    omega
theorem sum_len {b : Nat} : ∀ {ps : List (List Nat)}, (∀ p ∈ ps, p.length ≤ b) → (ps.map (·.length)).sum ≤ ps.length * b
  | [], _ => Nat.zero_le _
  | p :: r, h => by
    have h1 := h p (by simp)
    have h2 := sum_len (ps := r) fun z hz => h z (List.mem_cons_of_mem _ hz)
    rw [List.map_cons, List.sum_cons, List.length_cons, Nat.add_mul]
    omega
theorem tlP (b : Bool) : tl (kP b) = [116, 111, 119, 110] ∨ tl (kP b) = [111, 117, 116] := by
  cases b
  · exact .inl (by decide +kernel)
  · exact .inr (by decide +kernel)
theorem tlK (b : Bool) : tl (kT b) = [107, 105, 110] ∨ tl (kT b) = [102, 97, 114] := by
  cases b
  · exact .inl (by decide +kernel)
  · exact .inr (by decide +kernel)
theorem tlA : tl "age" = [97, 103, 101] := by decide +kernel
/-- a sign of a literal's word, inside a part -/
def okc (c : Nat) : Prop := (97 ≤ c ∧ c ≤ 122) ∨ (48 ≤ c ∧ c ≤ 57) ∨ c = 44 ∨ c = 45
theorem okc_low {l : List Nat} (h : l.all isC = true) {c : Nat} (hc : c ∈ l) : okc c := by
  rw [List.all_eq_true] at h
  have := h c hc
  simp [isC] at this
  exact .inl this
theorem okc_num {n c : Nat} (hc : c ∈ TL.numL n) : okc c := by
  have h : ¬ (c < 48 ∨ 57 < c) := fun q => TL.numL_free q hc
  exact .inr (.inl (by omega))
theorem join_mem {s c : Nat} : ∀ {ps : List (List Nat)}, c ∈ TL.joinL [s] ps → c = s ∨ ∃ p ∈ ps, c ∈ p
  | [], h => nomatch h
  | [p], h => .inr ⟨p, by simp, h⟩
  | p :: q :: r, h => by
    have h : c ∈ p ++ ([s] ++ TL.joinL [s] (q :: r)) := h
    rcases List.mem_append.mp h with h | h
    · exact .inr ⟨p, by simp, h⟩
    · rcases List.mem_append.mp h with h | h
      · exact .inl (List.mem_singleton.mp h)
      · rcases join_mem h with h | ⟨z, hz, h⟩
        · exact .inl h
        · exact .inr ⟨z, List.mem_cons_of_mem _ hz, h⟩
theorem parts_c {l : Lit} (h : l.ok = true) : ∀ p ∈ l.parts, ∀ c ∈ p, okc c := by
  intro p hp c hc
  cases l with
  | plc o ws =>
    obtain ⟨_, h3, _⟩ := okws_of h
    simp [Lit.parts] at hp
    rcases hp with rfl | rfl
    · refine okc_low ?_ hc
      rcases tlP o with e | e <;> (rw [e]; decide)
    · rcases join_mem hc with rfl | ⟨z, hz, h⟩
      · exact .inr (.inr (.inl rfl))
      · exact .inl (isW_c (h3 z hz) h)
  | age lo hi =>
    simp [Lit.parts] at hp
    rcases hp with rfl | rfl | rfl
    · refine okc_low ?_ hc
      rw [tlA]
      decide
    · exact okc_num hc
    · cases hi with
      | none => exact .inr (.inr (.inr (List.mem_singleton.mp hc)))
      | some n => exact okc_num hc
  | tie f n =>
    simp [Lit.parts] at hp
    rcases hp with rfl | rfl
    · refine okc_low ?_ hc
      rcases tlK f with e | e <;> (rw [e]; decide)
    · exact okc_num hc
theorem parts_free {l : Lit} (h : l.ok = true) : ∀ p ∈ l.parts, 58 ∉ p := fun p hp hm => by
  have := parts_c h p hp 58 hm
  unfold okc at this
  omega
theorem num_len {n : Nat} (h : n < 10 ^ 12) : (TL.numL n).length ≤ 12 := TL.numL_len (by decide) h
theorem parts_len {l : Lit} (h : l.ok = true) : l.parts.length ≤ 3 ∧ ∀ p ∈ l.parts, p.length ≤ 500 := by
  cases l with
  | plc o ws =>
    obtain ⟨⟨h1, h2⟩, h3, _⟩ := okws_of h
    refine ⟨by simp [Lit.parts], fun p hp => ?_⟩
    simp only [Lit.parts, List.mem_cons, List.not_mem_nil, or_false] at hp
    rcases hp with rfl | rfl
    · rcases tlP o with e | e <;> (rw [e]; simp)
    · have := join_len (c := 44) (b := 8) (ps := ws) fun p hp => (isW_len (h3 p hp)).2
      omega
  | age lo hi =>
    refine ⟨by simp [Lit.parts], fun p hp => ?_⟩
    simp only [Lit.parts, List.mem_cons, List.not_mem_nil, or_false] at hp
    have hlo : lo < 10 ^ 12 := by
      cases hi <;> simp [Lit.ok] at h <;> omega
    rcases hp with rfl | rfl | rfl
    · rw [tlA]; simp
    · have := num_len hlo
      omega
    · cases hi with
      | none => simp [hiW]
      | some n =>
        simp [Lit.ok] at h
        have := num_len (n := n) (by omega)
        simp only [hiW]
        omega
  | tie f n =>
    refine ⟨by simp [Lit.parts], fun p hp => ?_⟩
    simp only [Lit.parts, List.mem_cons, List.not_mem_nil, or_false] at hp
    simp [Lit.ok] at h
    rcases hp with rfl | rfl
    · rcases tlK f with e | e <;> (rw [e]; simp)
    · have := num_len (n := n) (by omega)
      omega
theorem litw_len {l : Lit} (h : l.ok = true) : l.w.length ≤ 2000 := by
  obtain ⟨h1, h2⟩ := parts_len h
  have := join_len (c := 58) h2
  have h3 : l.parts.length * (500 + 1) ≤ 3 * 501 := Nat.mul_le_mul_right _ h1
  unfold Lit.w
  omega
end K82

/-! literals in, literals out -/
namespace K82
open PySem PySem.Spec PyProof.Rows L2 PD SX

def F_literal_in (x : D) (A : AH) (Q : DK) : Prop := ∃ l : Lit, x = .str (S l.w) ∧ l.ok = true ∧ ∀ A', AExt A A' → Q l.d A'
abbrev sp_literal_in : DSp := sp1 F_literal_in
def t_literal_in : DTS := dSeq (dAsg (dM "str" mSplit (dVar 0) (dCons (dC (.str ":")) (dNil))) (dgName 1)) (dSeq (dIfS (dAnd (dTest (dOp (opEq) (dCB cLen (dCons (dVar 1) (dNil))) (dC (.int 3)))) (dTest (dOp (opEq) (dOp opIx (dVar 1) (dC (.int 0))) (dC (.str "age"))))) (dRet (dCall sp_stretch_in (dCons (dOp opIx (dVar 1) (dC (.int 1))) (dCons (dOp opIx (dVar 1) (dC (.int 2))) (dNil))))) (dNext)) (dSeq (dIfS (dTest (dOp (opNe) (dCB cLen (dCons (dVar 1) (dNil))) (dC (.int 2)))) (dRet (dC .non)) (dNext)) (dSeq (dIfS (dTest (dOp (opIn) (dOp opIx (dVar 1) (dC (.int 0))) (dTup (dCons (dC (.str "town")) (dCons (dC (.str "out")) (dNil)))))) (dSeq (dAsg (dCB cTuple (dCons (dM "str" mSplit (dOp opIx (dVar 1) (dC (.int 1))) (dCons (dC (.str ",")) (dNil))) (dNil))) (dgName 3)) (dRet (dIf (dTest (dCall sp_are_words (dCons (dVar 3) (dNil)))) (dTup (dCons (dOp opIx (dVar 1) (dC (.int 0))) (dCons (dVar 3) (dNil)))) (dC .non)))) (dNext)) (dSeq (dAsg (dCall sp_number_in (dCons (dOp opIx (dVar 1) (dC (.int 1))) (dCons (dC (.int 0)) (dCons (dC (.int 999999999999)) (dNil))))) (dgName 2)) (dRet (dIf (dAnd (dTest (dOp (opIn) (dOp opIx (dVar 1) (dC (.int 0))) (dTup (dCons (dC (.str "kin")) (dCons (dC (.str "far")) (dNil)))))) (dTest (dOp (opIsN not) (dVar 2) (dC .non)))) (dTup (dCons (dOp opIx (dVar 1) (dC (.int 0))) (dCons (dVar 2) (dNil)))) (dC .non)))))))
theorem colon : Str.ofString ":" = S [58] := by decide +kernel
theorem comma : Str.ofString "," = S [44] := by decide +kernel
theorem in_flat {f : Bool → Bool} {x : D} {ds : List D} {A : AH} {Q : DK} (b : Bool) (h1 : flatD x = true) (h2 : ds.all flatD = true) (h3 : (ds.any fun d => eqF d x) = b) : opInG f x (.tup ds) A Q = Q (.bl (f b)) A := by
  unfold opInG
  have e : signIn x (.tup ds) = none := by cases x <;> rfl
  rw [e, s_seqT]
  show ((flatD x = true ∧ ds.all flatD = true) ∧ Q (.bl (f (ds.any fun d => eqF d x))) A) = _
  rw [h1, h2, h3]
  simp
@[simp] theorem in_P (A : AH) (Q : DK) (b : Bool) : opIn (.str (kP b)) (.tup [.str (Str.ofString "town"), .str (Str.ofString "out")]) A Q = Q (.bl true) A := by
  cases b <;> exact in_flat true rfl rfl (by decide +kernel)
@[simp] theorem in_PT (A : AH) (Q : DK) (b : Bool) : opIn (.str (kT b)) (.tup [.str (Str.ofString "town"), .str (Str.ofString "out")]) A Q = Q (.bl false) A := by
  cases b <;> exact in_flat false rfl rfl (by decide +kernel)
@[simp] theorem in_PA (A : AH) (Q : DK) : opIn (.str (Str.ofString "age")) (.tup [.str (Str.ofString "town"), .str (Str.ofString "out")]) A Q = Q (.bl false) A := in_flat false rfl rfl (by decide +kernel)
@[simp] theorem in_T (A : AH) (Q : DK) (b : Bool) : opIn (.str (kT b)) (.tup [.str (Str.ofString "kin"), .str (Str.ofString "far")]) A Q = Q (.bl true) A := by
  cases b <;> exact in_flat true rfl rfl (by decide +kernel)
@[simp] theorem sz0 : (0 ≤ sizeLine) = True := eq_true (Nat.zero_le _)
@[simp] theorem sz1 : (1 ≤ sizeLine) = True := eq_true big
@[simp] theorem sz2 : (2 ≤ sizeLine) = True := eq_true big
@[simp] theorem sz3 : (3 ≤ sizeLine) = True := eq_true big
@[simp] theorem sz4 : (4 ≤ sizeLine) = True := eq_true big
@[simp] theorem sz5 : (5 ≤ sizeLine) = True := eq_true big
@[simp] theorem sz7 : (7 ≤ sizeLine) = True := eq_true big
@[simp] theorem sz15 : (15 ≤ sizeLine) = True := eq_true big
theorem tick (x : Str) : S (tl x) = x := S_tl x
theorem strs_of (ws : List (List Nat)) : strsOf ((ws.map S).map D.str) = some (ws.map S) := strsOf_map _
theorem free_w {c : Nat} (hc : c < 97 ∨ 122 < c) {ws : List (List Nat)} (h : ∀ w ∈ ws, isW w = true) : ∀ p ∈ ws, c ∉ p := fun p hp hm => by
  have := isW_c (h p hp) hm
  omega
theorem r_literal_in : ∀ x A Q, F_literal_in x A Q → t_literal_in { nx := fun _ A' => Q .non A', rt := Q } (some x :: List.replicate 3 none) A := by
  rintro _ A Q ⟨l, rfl, ok, k⟩
  have hsp := split_parts 58 (by decide) l.parts (by cases l <;> simp [Lit.parts]) (parts_free ok)
  have hlen := litw_len ok
  have hz : l.w.length + 2 ≤ sizeLine := big
  have h2 : (2 : Nat) ≤ sizeLine := big
  simp only [t_literal_in, s_seq, s_asg, s_op, s_sl, s_var, s_c, s_noPart, s_part, List.replicate]
  simp [colon, hz]
  refine fun p hp => ?_
  rw [show Txt.split (S l.w) (S [58]) = l.parts.map S from hsp]
  have e0 : AExt A (A.upd p (.lst ((l.parts.map S).map D.str))) := .new hp
  cases l with
  | plc o ws =>
    obtain ⟨⟨h1, h50⟩, h3, _⟩ := okws_of ok
    have hne : ws ≠ [] := by
      intro e
      subst e
      simp at h1
    have hj := join_len (c := 44) (b := 8) (ps := ws) fun p hp => (isW_len (h3 p hp)).2
    have hj2 : (TL.joinL [44] ws).length + 2 ≤ sizeLine := big
    have e1 : S (tl (kP o)) = kP o := tick _
    simp only [Lit.parts, List.map_cons, List.map_nil]
    simp [AH.upd_same, e1, comma, hj2]
    refine fun q hq => ?_
    rw [split_parts 44 (by decide) ws hne (free_w (by omega) h3)]
    refine ⟨ws, rfl, ok, fun A3 e3 => ?_⟩
    have e4 := e3 p _ (by rw [AH.upd_ne (AH.ne AH.upd_same hq)]; exact AH.upd_same)
    simp [e4, e1, h2]
    have e5 := k A3 (e0.trans ((AExt.new hq).trans e3))
    simpa [Lit.d] using e5
  | age lo hi =>
    simp only [Lit.parts, List.map_cons, List.map_nil]
    have e1 : S (tl "age") = Str.ofString "age" := tick _
    simp [AH.upd_same, e1]
    refine ⟨lo, hi, rfl, rfl, ok, fun A3 e3 => k A3 (e0.trans e3)⟩
  | tie f n =>
    have e1 : S (tl (kT f)) = kT f := tick _
    simp only [Lit.parts, List.map_cons, List.map_nil]
    simp [AH.upd_same, e1]
    simp [Lit.ok] at ok
    refine ⟨n, 0, 999999999999, rfl, rfl, rfl, by omega, by omega, by omega, fun A3 e3 => ?_⟩
    have e4 := e3 p _ AH.upd_same
    simp [e4, e1, h2]
    exact k A3 (e0.trans e3)

/-! out -/
def F_literal_word (x : D) (A : AH) (Q : DK) : Prop := ∃ l : Lit, x = l.d ∧ l.ok = true ∧ ∀ A', AExt A A' → Q (.str (S l.w)) A'
abbrev sp_literal_word : DSp := sp1 F_literal_word
def t_literal_word : DTS := dSeq (dIfS (dTest (dOp (opIn) (dOp opIx (dVar 0) (dC (.int 0))) (dTup (dCons (dC (.str "town")) (dCons (dC (.str "out")) (dNil)))))) (dRet (dOp opAdd (dOp opAdd (dOp opIx (dVar 0) (dC (.int 0))) (dC (.str ":"))) (dM "str" mJoin (dC (.str ",")) (dCons (dOp opIx (dVar 0) (dC (.int 1))) (dNil))))) (dNext)) (dRet (dM "str" mJoin (dC (.str ":")) (dCons (dLc (iSeq (dVar 0)) (dgName 1) (dYes) (dIf (dTest (dOp (opIsN id) (dVar 1) (dC .non))) (dC (.str "-")) (dCB cStr (dCons (dVar 1) (dNil)))) [1]) (dNil))))
theorem join_fit {b : Nat} {ps : List (List Nat)} (h : ∀ p ∈ ps, p.length ≤ b) (hz : ps.length * (b + 1) ≤ 16777216) (k : Nat) (hk : k ≤ 1) : ((ps.map S).map (·.length)).sum + (ps.map S).length * k ≤ 16777216 := by
  have := sum_len h
  rw [lens, List.length_map]
  have e : ps.length * (b + 1) = ps.length * b + ps.length := by rw [Nat.mul_add, Nat.mul_one]
  have e2 : ps.length * k ≤ ps.length * 1 := Nat.mul_le_mul_left _ hk
  omega
theorem s_strN {n : Nat} (h : n < 10 ^ 12) (A : AH) (Q : DK) : cStr [.int (n : Nat)] A Q = Q (.str (S (TL.numL n))) A := by
  rw [s_strI, num_S]
  simp only [num_small h, true_and]
/-- what stands for a thing -/
def wdD : D → D
  | .int i => .str (S (TL.numL i.toNat))
  | .str z => .str z
  | _ => .str (S [45])
theorem r_literal_word : ∀ x A Q, F_literal_word x A Q → t_literal_word { nx := fun _ A' => Q .non A', rt := Q } (some x :: List.replicate 1 none) A := by
  rintro _ A Q ⟨l, rfl, ok, k⟩
  have hlen := litw_len ok
  obtain ⟨hp3, hp5⟩ := parts_len ok
  simp only [t_literal_word, s_seq, s_asg, s_op, s_sl, s_var, s_c, s_noPart, s_part, List.replicate]
  have h2 : (2 : Nat) ≤ sizeLine := big
  have hdash : Str.ofString "-" = S [45] := by decide +kernel
  cases l with
  | plc o ws =>
    obtain ⟨⟨h1, h50⟩, h3, _⟩ := okws_of ok
    have hj := join_len (c := 44) (b := 8) (ps := ws) fun p hp => (isW_len (h3 p hp)).2
    have hf := join_fit (b := 8) (ps := ws) (fun p hp => (isW_len (h3 p hp)).2) (by omega) 1 (Nat.le_refl _)
    have e1 : kP o = S (tl (kP o)) := (tick _).symm
    have e2 : (kP o).length ≤ 4 := by cases o <;> decide +kernel
    have e3 : (kP o).length + 1 ≤ sizeLine := big
    have e5 : (tl (kP o) ++ [58]).length + (TL.joinL [44] ws).length ≤ sizeLine := by
      rw [List.length_append, ← S_len (tl (kP o)), tick]
      exact big (by simp; omega)
    have sj : strsOf (ws.map (D.str ∘ S)) = some (ws.map S) := by
      rw [← List.map_map]
      exact strs_of ws
    simp [Lit.d, h2, colon, comma, e3, strs_of, sj]
    rw [join_S, e1, S_cat]
    simp at hf
    refine ⟨by simpa [Function.comp_def] using hf, ?_⟩
    rw [S_cat]
    refine ⟨by simpa using e5, ?_⟩
    have e6 := k A (.refl _)
    simpa [Lit.w, Lit.parts, TL.joinL] using e6
  | age lo hi =>
    have hlo : lo < 10 ^ 12 := by
      cases hi <;> simp [Lit.ok] at ok <;> omega
    have hf := join_fit (b := 500) (ps := (Lit.age lo hi).parts) hp5 (by omega) 1 (Nat.le_refl _)
    have e1 : S (tl "age") = Str.ofString "age" := tick _
    have h3 : ∀ p, A p = none → compL (fun _ => True) (stepL (dgName 1) dYes (dIf (dTest (dOp (opIsN id) (dVar 1) (dC .non))) (dC (.str (Str.ofString "-"))) (dCB cStr (dCons (dVar 1) dNil))) [some (Lit.age lo hi).d, none]) p
        (fun x A1 => tyN A1 (.str (S [58])) = some "str" ∧ mJoin (.str (S [58])) [x] A1 Q) [.str (Str.ofString "age"), .int (lo : Nat), hiD hi] (A.upd p (.lst [])) := fun p hp => by
      refine comp_map wdD _ A hp (by simp) (fun _ _ => trivial) ?_ ?_
      · intro x A1 Z hx e4 kz
        simp only [List.mem_cons, List.not_mem_nil, or_false] at hx
        rcases hx with rfl | rfl | rfl
        · simp
          exact kz _ (.refl _)
        · simp [s_strN hlo]
          exact kz _ (.refl _)
        · cases hi with
          | none =>
            simp [hiD, hdash]
            exact kz _ (.refl _)
          | some n =>
            simp [Lit.ok] at ok
            simp [hiD, s_strN (show n < 10 ^ 12 by omega)]
            exact kz _ (.refl _)
      · intro A1 e4 ea
        have e7 : (([.str (Str.ofString "age"), .int (lo : Nat), hiD hi] : List D).map wdD) = ((Lit.age lo hi).parts.map S).map D.str := by
          cases hi with
          | none => simp [wdD, Lit.parts, hiD, hiW, e1]
          | some n => simp [wdD, Lit.parts, hiD, hiW, e1]
        rw [e7] at ea
        simp only [s_tyS, s_join, ea, s_seqF, s_seqL, s_onS, strs_of, join_S, S_len2, List.length_singleton, true_and]
        exact ⟨hf, k A1 e4⟩
    simpa [Lit.d, colon] using h3
  | tie f n =>
    have hn : n < 10 ^ 12 := by simpa [Lit.ok] using ok
    have hf := join_fit (b := 500) (ps := (Lit.tie f n).parts) hp5 (by omega) 1 (Nat.le_refl _)
    have h3 : ∀ p, A p = none → compL (fun _ => True) (stepL (dgName 1) dYes (dIf (dTest (dOp (opIsN id) (dVar 1) (dC .non))) (dC (.str (Str.ofString "-"))) (dCB cStr (dCons (dVar 1) dNil))) [some (Lit.tie f n).d, none]) p
        (fun x A1 => tyN A1 (.str (S [58])) = some "str" ∧ mJoin (.str (S [58])) [x] A1 Q) [.str (kT f), .int (n : Nat)] (A.upd p (.lst [])) := fun p hp => by
      refine comp_map wdD _ A hp (by simp) (fun _ _ => trivial) ?_ ?_
      · intro x A1 Z hx e4 kz
        simp only [List.mem_cons, List.not_mem_nil, or_false] at hx
        rcases hx with rfl | rfl
        · simp
          exact kz _ (.refl _)
        · simp [s_strN hn]
          exact kz _ (.refl _)
      · intro A1 e4 ea
        have e7 : (([.str (kT f), .int (n : Nat)] : List D).map wdD) = ((Lit.tie f n).parts.map S).map D.str := by
          simp [wdD, Lit.parts, tick]
        rw [e7] at ea
        simp only [s_tyS, s_join, ea, s_seqF, s_seqL, s_onS, strs_of, join_S, S_len2, List.length_singleton, true_and]
        exact ⟨hf, k A1 e4⟩
    simpa [Lit.d, colon] using h3
end K82

/-! rules in, rules out -/
namespace K82
open PySem PySem.Spec PyProof.Rows L2 PD SX

theorem w_fit {w : List Nat} (h : isW w = true) : Fit (.str (S w)) 0 8 := Fit.txt (fun c hc => by have := isW_c h hc; omega) (isW_len h).2
theorem lit_fit {l : Lit} (h : l.ok = true) : Fit l.d 2 123 := by
  cases l with
  | plc o ws =>
    obtain ⟨⟨h1, h2⟩, h3, _⟩ := okws_of h
    have f1 : Fit (.tup ((ws.map S).map D.str)) 1 36 := Fit.tups (n := 4) (a := 0) (b := 8) (fun d hd => by
      rw [List.map_map] at hd
      obtain ⟨w, hw, rfl⟩ := List.mem_map.mp hd
      exact w_fit (h3 w hw)) (by simpa using h2)
    have f2 : Fit (.str (kP o)) 1 36 := by
      cases o <;> exact (Fit.str (k := 4) (by decide +kernel) (by decide +kernel)).mono (by omega) (by omega)
    exact (Fit.tup (FitL.cons f2 (FitL.cons f1 .nil))).mono (by omega) (by omega : 36 + 1 + (36 + 1 + 0) ≤ 123)
  | age lo hi =>
    have f1 : Fit (.str "age") 0 40 := Fit.str (by decide +kernel) (by decide +kernel)
    have f2 : Fit (.int (lo : Nat)) 0 40 := Fit.int (by
      rw [Int.natAbs_natCast]
      cases hi <;> simp [Lit.ok] at h <;> omega)
    have f3 : Fit (hiD hi) 0 40 := by
      cases hi with
      | none => exact Fit.non.mono (by omega) (by omega)
      | some n =>
        simp [Lit.ok] at h
        exact Fit.int (by rw [Int.natAbs_natCast]; omega)
    exact (Fit.tup (FitL.cons f1 (FitL.cons f2 (FitL.cons f3 .nil)))).mono (by omega) (by omega : 40 + 1 + (40 + 1 + (40 + 1 + 0)) ≤ 123)
  | tie f n =>
    have f1 : Fit (.str (kT f)) 0 40 := by
      cases f <;> exact (Fit.str (k := 4) (by decide +kernel) (by decide +kernel)).mono (by omega) (by omega)
    have f2 : Fit (.int (n : Nat)) 0 40 := Fit.int (by
      rw [Int.natAbs_natCast]
      simpa [Lit.ok] using h)
    exact (Fit.tup (FitL.cons f1 (FitL.cons f2 .nil))).mono (by omega) (by omega : 40 + 1 + (40 + 1 + 0) ≤ 123)

/-! the law's own word of a literal -/
def F__law_literal_word := F_literal_word
abbrev sp__law_literal_word : DSp := sp1 F__law_literal_word
def t__law_literal_word : DTS := dSeq (dIfS (dOr (dTest (dOp (opEq) (dOp opIx (dVar 0) (dC (.int 0))) (dC (.str "town")))) (dTest (dOp (opEq) (dOp opIx (dVar 0) (dC (.int 0))) (dC (.str "out"))))) (dRet (dOp opAdd (dOp opAdd (dOp opIx (dVar 0) (dC (.int 0))) (dC (.str ":"))) (dM "str" mJoin (dC (.str ",")) (dCons (dOp opIx (dVar 0) (dC (.int 1))) (dNil))))) (dNext)) (dRet (dOp opAdd (dOp opIx (dVar 0) (dC (.int 0))) (dM "str" mJoin (dC (.str "")) (dCons (dLc (iSeq (dSl (dVar 0) (dPart (dC (.int 1))) (dNoPart))) (dgName 1) (dYes) (dIf (dTest (dOp (opIsN id) (dVar 1) (dC .non))) (dC (.str ":-")) (dOp opAdd (dC (.str ":")) (dCB cStr (dCons (dVar 1) (dNil))))) [1]) (dNil)))))
def wd2 : D → D
  | .int i => .str (S (58 :: TL.numL i.toNat))
  | _ => .str (S [58, 45])
theorem r__law_literal_word : ∀ x A Q, F__law_literal_word x A Q → t__law_literal_word { nx := fun _ A' => Q .non A', rt := Q } (some x :: List.replicate 1 none) A := by
  rintro _ A Q ⟨l, rfl, ok, k⟩
  have hlen := litw_len ok
  simp only [t__law_literal_word, s_seq, s_asg, s_op, s_sl, s_var, s_c, s_noPart, s_part, List.replicate]
  have h4 : Str.ofString ":-" = S [58, 45] := by decide +kernel
  have h6 : Str.ofString "" = S [] := by decide +kernel
  cases l with
  | plc o ws =>
    obtain ⟨⟨h1, h50⟩, h3, _⟩ := okws_of ok
    have hj := join_len (c := 44) (b := 8) (ps := ws) fun p hp => (isW_len (h3 p hp)).2
    have hf := join_fit (b := 8) (ps := ws) (fun p hp => (isW_len (h3 p hp)).2) (by omega) 1 (Nat.le_refl _)
    have e1 : kP o = S (tl (kP o)) := (tick _).symm
    have e2 : (kP o).length ≤ 4 := by cases o <;> decide +kernel
    have e3 : (kP o).length + 1 ≤ sizeLine := big
    have e5 : (tl (kP o) ++ [58]).length + (TL.joinL [44] ws).length ≤ sizeLine := by
      rw [List.length_append, ← S_len (tl (kP o)), tick]
      exact big (by simp; omega)
    have sj : strsOf (ws.map (D.str ∘ S)) = some (ws.map S) := by
      rw [← List.map_map]
      exact strs_of ws
    have e9 : (kP o = Str.ofString "town" ∨ kP o = Str.ofString "out") := by
      cases o
      · exact .inl rfl
      · exact .inr rfl
    have e10 : ∀ (P P' : Prop), (if kP o = Str.ofString "town" then P else if kP o = Str.ofString "out" then P else P') = P := fun P P' => by
      rcases e9 with e | e
      · rw [if_pos e]
      · by_cases c : kP o = Str.ofString "town"
        · rw [if_pos c]
        · rw [if_neg c, if_pos e]
    simp [Lit.d, colon, comma, e3, strs_of, sj, e10]
    rw [join_S, e1, S_cat]
    simp at hf
    refine ⟨by simpa [Function.comp_def] using hf, ?_⟩
    rw [S_cat]
    refine ⟨by simpa using e5, ?_⟩
    have e6 := k A (.refl _)
    simpa [Lit.w, Lit.parts, TL.joinL] using e6
  | age lo hi =>
    have hlo : lo < 10 ^ 12 := by
      cases hi <;> simp [Lit.ok] at ok <;> omega
    have n1 : (Str.ofString "age" = Str.ofString "town") = False := eq_false (by decide +kernel)
    have n2 : (Str.ofString "age" = Str.ofString "out") = False := eq_false (by decide +kernel)
    have l1 := num_len hlo
    have l2 : (hiW hi).length ≤ 12 := by
      cases hi with
      | none => simp [hiW]
      | some n =>
        simp [Lit.ok] at ok
        exact num_len (by omega)
    simp [Lit.d, n1, n2]
    refine fun p hp => comp_map wd2 _ A hp (by simp) (fun _ _ => trivial) ?_ ?_
    · intro x A1 Z hx e4 kz
      simp only [List.mem_cons, List.not_mem_nil, or_false] at hx
      rcases hx with rfl | rfl
      · simp [s_strN hlo, colon]
        refine ⟨big, ?_⟩
        rw [S_cat]
        exact kz _ (.refl _)
      · cases hi with
        | none =>
          simp [hiD, h4]
          exact kz _ (.refl _)
        | some n =>
          simp [Lit.ok] at ok
          simp [hiD, s_strN (show n < 10 ^ 12 by omega), colon]
          refine ⟨by simp [hiW] at l2; exact big, ?_⟩
          rw [S_cat]
          exact kz _ (.refl _)
    · intro A1 e4 ea
      have e7 : (([.int (lo : Nat), hiD hi] : List D).map wd2) = (([58 :: TL.numL lo, 58 :: hiW hi] : List (List Nat)).map S).map D.str := by
        cases hi with
        | none => simp [wd2, hiD, hiW]
        | some n => simp [wd2, hiD, hiW]
      rw [e7] at ea
      have hj := join_fit (b := 20) (ps := [58 :: TL.numL lo, 58 :: hiW hi]) (by simp; omega) (by simp) 0 (by omega)
      simp only [s_tyS, s_join, ea, s_seqF, s_seqL, s_onS, strs_of, h6, join_S, S_len2, List.length_nil, true_and, s_addS]
      refine ⟨hj, ?_, ?_⟩
      · rw [show (Str.ofString "age").length = 3 by decide +kernel]
        simp [TL.joinL]
        exact big
      · rw [show Str.ofString "age" = S (tl "age") from (tick _).symm, S_cat]
        have e6 := k A1 e4
        simpa [Lit.w, Lit.parts, TL.joinL] using e6
  | tie f n =>
    have hn : n < 10 ^ 12 := by simpa [Lit.ok] using ok
    have n1 : (kT f = Str.ofString "town") = False := eq_false (by cases f <;> decide +kernel)
    have n2 : (kT f = Str.ofString "out") = False := eq_false (by cases f <;> decide +kernel)
    have l1 := num_len hn
    have l3 : (kT f).length ≤ 3 := by cases f <;> decide +kernel
    simp [Lit.d, n1, n2]
    refine fun p hp => comp_map wd2 _ A hp (by simp) (fun _ _ => trivial) ?_ ?_
    · intro x A1 Z hx e4 kz
      simp only [List.mem_cons, List.not_mem_nil, or_false] at hx
      subst hx
      simp [s_strN hn, colon]
      refine ⟨big, ?_⟩
      rw [S_cat]
      exact kz _ (.refl _)
    · intro A1 e4 ea
      have e7 : (([.int (n : Nat)] : List D).map wd2) = (([58 :: TL.numL n] : List (List Nat)).map S).map D.str := by simp [wd2]
      rw [e7] at ea
      have hj := join_fit (b := 20) (ps := [58 :: TL.numL n]) (by simp; omega) (by simp) 0 (by omega)
      simp only [s_tyS, s_join, ea, s_seqF, s_seqL, s_onS, strs_of, h6, join_S, S_len2, List.length_nil, true_and, s_addS]
      refine ⟨hj, ?_, ?_⟩
      · simp [TL.joinL]
        exact big
      · rw [show kT f = S (tl (kT f)) from (tick _).symm, S_cat]
        have e6 := k A1 e4
        simpa [Lit.w, Lit.parts, TL.joinL] using e6
end K82

/-! rules in, rules out -/
namespace K82
open PySem PySem.Spec PyProof.Rows L2 PD SX

abbrev Rules := List (List Lit)
def clD (c : List Lit) : D := .tup (c.map Lit.d)
def rsD (r : Rules) : D := .tup (r.map clD)
def clW (c : List Lit) : List Nat := TL.joinL [124] (c.map Lit.w)
def rsW (r : Rules) : List Nat := if r = [] then [45] else TL.joinL [59] (r.map clW)
def okC (c : List Lit) : Bool := (decide (1 ≤ c.length) && decide (c.length ≤ 3)) && c.all Lit.ok
def okR (r : Rules) : Bool := decide (r.length ≤ 6) && r.all okC
theorem okC_of {c : List Lit} (h : okC c = true) : (1 ≤ c.length ∧ c.length ≤ 3) ∧ ∀ l ∈ c, l.ok = true := by
  unfold okC at h
  simp at h
  exact ⟨⟨h.1.1, h.1.2⟩, h.2⟩
theorem okR_of {r : Rules} (h : okR r = true) : r.length ≤ 6 ∧ ∀ c ∈ r, okC c = true := by
  unfold okR at h
  simp at h
  exact ⟨h.1, h.2⟩
theorem clW_len {c : List Lit} (h : okC c = true) : (clW c).length ≤ 6100 := by
  obtain ⟨⟨_, h1⟩, h2⟩ := okC_of h
  have := join_len (c := 124) (b := 2000) (ps := c.map Lit.w) fun p hp => by
    obtain ⟨l, hl, rfl⟩ := List.mem_map.mp hp
    exact litw_len (h2 l hl)
  rw [List.length_map] at this
  unfold clW
  omega
theorem rsW_len {r : Rules} (h : okR r = true) : (rsW r).length ≤ 40000 := by
  obtain ⟨h1, h2⟩ := okR_of h
  unfold rsW
  split
  · simp
  · have := join_len (c := 59) (b := 6100) (ps := r.map clW) fun p hp => by
      obtain ⟨l, hl, rfl⟩ := List.mem_map.mp hp
      exact clW_len (h2 l hl)
    rw [List.length_map] at this
    omega
theorem cl_fit {c : List Lit} (h : okC c = true) : Fit (clD c) 3 372 := by
  obtain ⟨⟨_, h1⟩, h2⟩ := okC_of h
  exact Fit.tups (n := 3) (b := 123) (fun d hd => by
    obtain ⟨l, hl, rfl⟩ := List.mem_map.mp hd
    exact lit_fit (h2 l hl)) (by simpa using h1)
theorem rs_fitL {r : Rules} (h : okR r = true) : FitL (r.map clD) 3 2238 := by
  obtain ⟨h1, h2⟩ := okR_of h
  refine (FitL.all (a := 3) (b := 372) (fun d hd => ?_)).mono (Nat.le_refl _) ?_
  · obtain ⟨l, hl, rfl⟩ := List.mem_map.mp hd
    exact cl_fit (h2 l hl)
  · rw [List.length_map]
    omega
theorem rs_fit {r : Rules} (h : okR r = true) : Fit (rsD r) 4 2238 := Fit.tup (rs_fitL h)
theorem litw_c {l : Lit} (h : l.ok = true) {c : Nat} (hc : c ∈ l.w) : okc c ∨ c = 58 := by
  rcases join_mem hc with h1 | ⟨p, hp, h1⟩
  · exact .inr h1
  · exact .inl (parts_c h p hp c h1)
theorem clw_c {c : List Lit} (h : okC c = true) {x : Nat} (hc : x ∈ clW c) : okc x ∨ x = 58 ∨ x = 124 := by
  rcases join_mem hc with h1 | ⟨p, hp, h1⟩
  · exact .inr (.inr h1)
  · obtain ⟨l, hl, rfl⟩ := List.mem_map.mp hp
    rcases litw_c ((okC_of h).2 l hl) h1 with h2 | h2
    · exact .inl h2
    · exact .inr (.inl h2)
theorem rsw_c {r : Rules} (h : okR r = true) {x : Nat} (hc : x ∈ rsW r) : okc x ∨ x = 58 ∨ x = 124 ∨ x = 59 := by
  unfold rsW at hc
  split at hc
  · exact .inl (.inr (.inr (.inr (List.mem_singleton.mp hc))))
  · rcases join_mem hc with h1 | ⟨p, hp, h1⟩
    · exact .inr (.inr (.inr h1))
    · obtain ⟨l, hl, rfl⟩ := List.mem_map.mp hp
      rcases clw_c ((okR_of h).2 l hl) h1 with h2 | h2 | h2
      · exact .inl h2
      · exact .inr (.inl h2)
      · exact .inr (.inr (.inl h2))
theorem join_in {s c : Nat} : ∀ {ps : List (List Nat)} {p : List Nat}, p ∈ ps → c ∈ p → c ∈ TL.joinL [s] ps
  | [q], p, h, hc => by rw [List.mem_singleton.mp h] at hc; exact hc
  | q :: q2 :: r, p, h, hc => by
    show c ∈ q ++ ([s] ++ TL.joinL [s] (q2 :: r))
    rcases List.mem_cons.mp h with h | h
    · rw [h] at hc
      exact List.mem_append_left _ hc
    · exact List.mem_append_right _ (List.mem_append_right _ (join_in h hc))
theorem lit_58 (l : Lit) : 58 ∈ l.w := by
  cases l <;> (simp [Lit.w, Lit.parts, TL.joinL])
theorem rsw_58 {r : Rules} (h : okR r = true) (hne : r ≠ []) : 58 ∈ rsW r := by
  unfold rsW
  rw [if_neg hne]
  obtain ⟨c, t, e⟩ := List.exists_cons_of_ne_nil hne
  have hc : c ∈ r := by rw [e]; exact List.mem_cons_self
  have ok := okC_of ((okR_of h).2 c hc)
  cases q : c with
  | nil =>
    rw [q] at ok
    simp at ok
  | cons l t2 => exact join_in (p := clW c) (List.mem_map_of_mem hc) (join_in (p := l.w) (List.mem_map_of_mem (by rw [q]; exact List.mem_cons_self)) (lit_58 l))

/-! out -/
def F_rules_word (x : D) (A : AH) (Q : DK) : Prop := ∃ r, x = rsD r ∧ okR r = true ∧ ∀ A', AExt A A' → Q (.str (S (rsW r))) A'
abbrev sp_rules_word : DSp := sp1 F_rules_word
def t_rules_word : DTS := dSeq (dIfS (dTest (dOp (opEq) (dVar 0) (dTup (dNil)))) (dRet (dC (.str "-"))) (dNext)) (dRet (dM "str" mJoin (dC (.str ";")) (dCons (dLc (iSeq (dVar 0)) (dgName 1) (dYes) (dM "str" mJoin (dC (.str "|")) (dCons (dLc (iSeq (dVar 1)) (dgName 2) (dYes) (dCall sp_literal_word (dCons (dVar 2) (dNil))) [2]) (dNil))) [1]) (dNil))))
def F__law_rules_word := F_rules_word
abbrev sp__law_rules_word : DSp := sp1 F__law_rules_word
def t__law_rules_word : DTS := dSeq (dAsg (dLc (iSeq (dVar 0)) (dgName 2) (dYes) (dM "str" mJoin (dC (.str "|")) (dCons (dLc (iSeq (dVar 2)) (dgName 3) (dYes) (dCall sp__law_literal_word (dCons (dVar 3) (dNil))) [3]) (dNil))) [2]) (dgName 1)) (dRet (dIf (dTest (dOp (opNe) (dVar 1) (dLst (dNil)))) (dM "str" mJoin (dC (.str ";")) (dCons (dVar 1) (dNil))) (dC (.str "-"))))
theorem strs_m {α : Type} (g : α → List Nat) (xs : List α) : strsOf (xs.map fun a => D.str (S (g a))) = some ((xs.map g).map S) := by
  rw [show (xs.map fun a => D.str (S (g a))) = ((xs.map g).map S).map D.str by simp]
  exact strsOf_map _
theorem bar : Str.ofString "|" = S [124] := by decide +kernel
theorem semi : Str.ofString ";" = S [59] := by decide +kernel
theorem hdash : Str.ofString "-" = S [45] := by decide +kernel
theorem fit_cl {c : List Lit} (h : okC c = true) : ((c.map Lit.w).map S |>.map (·.length)).sum + ((c.map Lit.w).map S).length ≤ 16777216 := by
  obtain ⟨⟨_, h1⟩, h2⟩ := okC_of h
  simpa only [Nat.mul_one] using join_fit (b := 2000) (fun p hp => by
    obtain ⟨l, hl, rfl⟩ := List.mem_map.mp hp
    exact litw_len (h2 l hl)) (by rw [List.length_map]; omega) 1 (Nat.le_refl _)
theorem fit_rs {r : Rules} (h : okR r = true) : ((r.map clW).map S |>.map (·.length)).sum + ((r.map clW).map S).length ≤ 16777216 := by
  obtain ⟨h1, h2⟩ := okR_of h
  simpa only [Nat.mul_one] using join_fit (b := 6100) (fun p hp => by
    obtain ⟨l, hl, rfl⟩ := List.mem_map.mp hp
    exact clW_len (h2 l hl)) (by rw [List.length_map]; omega) 1 (Nat.le_refl _)
theorem r_rules_word : ∀ x A Q, F_rules_word x A Q → t_rules_word { nx := fun _ A' => Q .non A', rt := Q } (some x :: List.replicate 2 none) A := by
  rintro _ A Q ⟨r, rfl, ok, k⟩
  obtain ⟨h1, h2⟩ := okR_of ok
  simp only [t_rules_word, s_seq, s_asg, s_op, s_sl, s_var, s_c, s_noPart, s_part, List.replicate]
  simp only [s_ifS, s_test, s_op, s_var, s_tup, s_nil, s_c, List.getElem?_cons_zero, List.length_nil, sz0, true_and]
  refine eq_tup0 (rs_fitL ok) (by omega) ?_
  by_cases hr : r = []
  · subst hr
    simp [hdash]
    exact k A (.refl _)
  · have e1 : (r.map clD).isEmpty = false := by simp [hr]
    simp [e1, semi, bar, rsD]
    refine fun p hp => comp_mapA clD (fun c => .str (S (clW c))) r A hp big (fun _ _ => trivial) ?_ ?_
    · intro c A1 Z hc e2 kz
      simp [clD]
      have okc1 := h2 c hc
      refine fun q hq => comp_mapA Lit.d (fun l => .str (S l.w)) c A1 hq (by have := (okC_of okc1).1; exact big) (fun _ _ => trivial) ?_ ?_
      · intro l A2 Z2 hl e3 kz2
        simp
        exact ⟨l, rfl, (okC_of okc1).2 l hl, fun A' e4 => kz2 A' e4⟩
      · intro A2 e3 ea
        have := strs_m Lit.w c
        simp only [s_tyS, s_join, ea, s_seqF, s_seqL, s_onS, this, join_S, S_len2, List.length_singleton, true_and]
        exact ⟨fit_cl okc1, kz A2 e3⟩
    · intro A1 e2 ea
      have := strs_m clW r
      simp only [s_tyS, s_join, ea, s_seqF, s_seqL, s_onS, this, join_S, S_len2, List.length_singleton, true_and]
      refine ⟨fit_rs ok, ?_⟩
      have e3 := k A1 e2
      unfold rsW at e3
      rw [if_neg hr] at e3
      exact e3
theorem r__law_rules_word : ∀ x A Q, F__law_rules_word x A Q → t__law_rules_word { nx := fun _ A' => Q .non A', rt := Q } (some x :: List.replicate 3 none) A := by
  rintro _ A Q ⟨r, rfl, ok, k⟩
  obtain ⟨h1, h2⟩ := okR_of ok
  simp only [t__law_rules_word, s_seq, s_asg, s_op, s_sl, s_var, s_c, s_noPart, s_part, List.replicate]
  simp [bar, rsD]
  refine fun p hp => comp_mapA clD (fun c => .str (S (clW c))) r A hp big (fun _ _ => trivial) ?_ ?_
  · intro c A1 Z hc e2 kz
    simp [clD]
    have okc1 := h2 c hc
    refine fun q hq => comp_mapA Lit.d (fun l => .str (S l.w)) c A1 hq (by have := (okC_of okc1).1; exact big) (fun _ _ => trivial) ?_ ?_
    · intro l A2 Z2 hl e3 kz2
      simp
      exact ⟨l, rfl, (okC_of okc1).2 l hl, fun A' e4 => kz2 A' e4⟩
    · intro A2 e3 ea
      have := strs_m Lit.w c
      simp only [s_tyS, s_join, ea, s_seqF, s_seqL, s_onS, this, join_S, S_len2, List.length_singleton, true_and]
      exact ⟨fit_cl okc1, kz A2 e3⟩
  · intro A1 e2 ea
    simp
    refine fun q hq => ?_
    refine eq_nil (p := p) (q := q) (a := 0) (b := r.length * 6101) (by rw [AH.upd_ne (AH.ne ea hq)]; exact ea) AH.upd_same ?_ (by omega) ?_
    · have := FitL.all (ds := r.map fun c => D.str (S (clW c))) (a := 0) (b := 6100) fun d hd => by
        obtain ⟨c, hc, rfl⟩ := List.mem_map.mp hd
        refine Fit.txt (fun x hx => ?_) (clW_len (h2 c hc))
        rcases clw_c (h2 c hc) hx with h | h
        · unfold okc at h
          omega
        · omega
      simpa using this
    · by_cases hr : r = []
      · subst hr
        simp [hdash]
        exact k _ (e2.trans (.new hq))
      · have e1 : (r.map fun c => D.str (S (clW c))).isEmpty = false := by simp [hr]
        have e4 : (A1.upd q (.lst [])) p = some (.lst (r.map fun c => D.str (S (clW c)))) := by rw [AH.upd_ne (AH.ne ea hq)]; exact ea
        have := strs_m clW r
        simp [e1, semi, e4, this, join_S]
        have e5 := fit_rs ok
        simp at e5
        refine ⟨e5, ?_⟩
        have e3 := k _ (e2.trans (.new (o := .lst []) hq))
        unfold rsW at e3
        rw [if_neg hr] at e3
        rw [← List.map_map, join_S]
        exact e3

/-! in -/
def F_rules_in (x : D) (A : AH) (Q : DK) : Prop := ∃ r, x = .str (S (rsW r)) ∧ okR r = true ∧ ∀ A', AExt A A' → Q (rsD r) A'
abbrev sp_rules_in : DSp := sp1 F_rules_in
def t_rules_in : DTS := dSeq (dIfS (dTest (dOp (opEq) (dVar 0) (dC (.str "-")))) (dRet (dTup (dNil))) (dNext)) (dSeq (dAsg (dLst (dNil)) (dgName 1)) (dSeq (dFor (iSeq (dM "str" mSplit (dVar 0) (dCons (dC (.str ";")) (dNil)))) (dgName 2) (dSeq (dAsg (dCB cTuple (dCons (dLc (iSeq (dM "str" mSplit (dVar 2) (dCons (dC (.str "|")) (dNil)))) (dgName 4) (dYes) (dCall sp_literal_in (dCons (dVar 4) (dNil))) [4]) (dNil))) (dgName 3)) (dSeq (dIfS (dTest (dOp (opInT) (dC .non) (dVar 3))) (dRet (dC .non)) (dNext)) (dDrop (dM "list" mAppend (dVar 1) (dCons (dVar 3) (dNil))))))) (dRet (dCB cTuple (dCons (dVar 1) (dNil))))))
theorem litD_non (l : Lit) : isNon l.d = false := by
  cases l <;> rfl
theorem r_rules_in : ∀ x A Q, F_rules_in x A Q → t_rules_in { nx := fun _ A' => Q .non A', rt := Q } (some x :: List.replicate 4 none) A := by
  rintro _ A Q ⟨r, rfl, ok, k⟩
  obtain ⟨h1, h2⟩ := okR_of ok
  have hlen := rsW_len ok
  simp only [t_rules_in, s_seq, s_asg, s_op, s_sl, s_var, s_c, s_noPart, s_part, List.replicate]
  by_cases hr : r = []
  · subst hr
    have e : S (rsW []) = Str.ofString "-" := hdash.symm
    simp [e]
    exact k A (.refl _)
  · have e : (S (rsW r) = Str.ofString "-") = False := eq_false fun e => by
      rw [hdash] at e
      have h58 := rsw_58 ok hr
      rw [S_inj e] at h58
      simp at h58
    have hz : (rsW r).length + 2 ≤ sizeLine := big
    simp [e, semi, bar, hz]
    refine fun q hq p hp => ?_
    have hsp : Txt.split (S (rsW r)) (S [59]) = (r.map clW).map S := by
      have e2 : rsW r = TL.joinL [59] (r.map clW) := by unfold rsW; rw [if_neg hr]
      rw [e2]
      refine split_parts 59 (by decide) _ (by simpa using hr) fun p hp hm => ?_
      obtain ⟨c, hc, rfl⟩ := List.mem_map.mp hp
      have := clw_c (h2 c hc) hm
      unfold okc at this
      omega
    rw [hsp]
    have hpq : q ≠ p := AH.ne AH.upd_same hp
    refine for_ok (fun items ds A' => ∃ (done rest : Rules) (o2 o3 o4 : Option D), r = done ++ rest ∧ items = (rest.map clW |>.map S).map D.str ∧ ds = [some (.str (S (rsW r))), some (.ref q), o2, o3, o4] ∧
        A' q = some (.lst (done.map clD)) ∧ A' p = some (.lst ((r.map clW |>.map S).map D.str)) ∧ AExt A A') ?_ ?_ ?_ _ _ _ ⟨[], r, none, none, none, rfl, rfl, rfl, ?_, AH.upd_same, ?_⟩
    · rintro xs ds A' ⟨done, rest, o2, o3, o4, _, _, _, _, e5, _⟩
      rw [e5]
      rfl
    · rintro x xs ds A' N ⟨done, rest, o2, o3, o4, er, ei, rfl, e3, e5, e6⟩ kN
      cases rest with
      | nil => cases ei
      | cons c rest =>
        simp only [List.map_cons, List.cons.injEq] at ei
        obtain ⟨rfl, rfl⟩ := ei
        have hc : c ∈ r := by rw [er]; simp
        have okc1 := h2 c hc
        obtain ⟨hc3, hc4⟩ := okC_of okc1
        have hcl := clW_len okc1
        have hz2 : (clW c).length + 2 ≤ sizeLine := big
        simp [hz2]
        refine fun p2 hp2 => ?_
        have hsp2 : Txt.split (S (clW c)) (S [124]) = (c.map Lit.w).map S := by
          refine split_parts 124 (by decide) _ (by
            intro e
            have := List.map_eq_nil_iff.mp e
            rw [this] at hc3
            simp at hc3) fun p hp hm => ?_
          obtain ⟨l, hl, rfl⟩ := List.mem_map.mp hp
          have := litw_c (hc4 l hl) hm
          unfold okc at this
          omega
        rw [hsp2]
        have e7 : AExt A' (A'.upd p2 (.lst (((c.map Lit.w).map S).map D.str))) := .new hp2
        refine fun p3 hp3 => ?_
        have e8 : AExt (A'.upd p2 (.lst (((c.map Lit.w).map S).map D.str))) _ := .new (o := .lst []) hp3
        rw [show ((c.map Lit.w).map S).map D.str = c.map (fun l => D.str (S l.w)) by simp] at hp3 e7 e8 ⊢
        refine comp_mapA (fun l => D.str (S l.w)) Lit.d c _ hp3 (by exact big) (fun A4 e9 => ?_) ?_ ?_
        · rw [e9 _ _ AH.upd_same]
          rfl
        · intro l A4 Z hl e9 kz
          simp
          exact ⟨l, rfl, hc4 l hl, kz⟩
        · intro A4 e9 ea
          simp [ea]
          have hfl : FitL (c.map Lit.d) 2 372 := (FitL.all (a := 2) (b := 123) fun d hd => by
            obtain ⟨l, hl, rfl⟩ := List.mem_map.mp hd
            exact lit_fit (hc4 l hl)).mono (Nat.le_refl _) (by rw [List.length_map]; omega)
          refine inT_none hfl (by omega) (fun d hd => by
            obtain ⟨l, hl, rfl⟩ := List.mem_map.mp hd
            exact litD_non l) ?_
          have e10 := e7.trans e9
          have eq4 := e10 _ _ e3
          simp [eq4, s_append, s_tyL]
          refine ⟨by
            have := congrArg List.length er
            simp at this
            exact Nat.lt_of_lt_of_le (by omega) (big (n := 10)), ?_⟩
          refine kN _ _ ⟨done ++ [c], rest, _, _, _, by simp [er], rfl, rfl, ?_, ?_, ?_⟩
          · rw [AH.upd_same, List.map_append]
            rfl
          · rw [AH.upd_ne hpq.symm]
            exact e10 _ _ e5
          · intro a o ha
            rw [AH.upd_ne fun z => by
              rw [z, hq] at ha
              cases ha]
            exact e10 _ _ (e6 _ _ ha)
    · rintro ds A' ⟨done, rest, o2, o3, o4, er, ei, rfl, e3, e5, e6⟩
      cases rest with
      | cons c rest => cases ei
      | nil =>
        rw [List.append_nil] at er
        subst er
        simp [e3]
        exact k A' e6
    · rw [AH.upd_ne hpq]
      exact AH.upd_same
    · exact (AExt.new hq).trans (.new hp)
end K82

/-! things, lines -/
namespace K82
open PySem PySem.Spec PyProof.Rows L2 PD SX

@[simp] theorem ne_name_day : (Str.ofString "name" = Str.ofString "day") = False := eq_false (by decide +kernel)
@[simp] theorem ne_name_moment : (Str.ofString "name" = Str.ofString "moment") = False := eq_false (by decide +kernel)
@[simp] theorem ne_name_born : (Str.ofString "name" = Str.ofString "born") = False := eq_false (by decide +kernel)
@[simp] theorem ne_name_rules : (Str.ofString "name" = Str.ofString "rules") = False := eq_false (by decide +kernel)
@[simp] theorem ne_name_sort : (Str.ofString "name" = Str.ofString "sort") = False := eq_false (by decide +kernel)
@[simp] theorem ne_name_kind : (Str.ofString "name" = Str.ofString "kind") = False := eq_false (by decide +kernel)
@[simp] theorem ne_name_parent : (Str.ofString "name" = Str.ofString "parent") = False := eq_false (by decide +kernel)
@[simp] theorem ne_above_day : (Str.ofString "above" = Str.ofString "day") = False := eq_false (by decide +kernel)
@[simp] theorem ne_above_moment : (Str.ofString "above" = Str.ofString "moment") = False := eq_false (by decide +kernel)
@[simp] theorem ne_above_born : (Str.ofString "above" = Str.ofString "born") = False := eq_false (by decide +kernel)
@[simp] theorem ne_above_rules : (Str.ofString "above" = Str.ofString "rules") = False := eq_false (by decide +kernel)
@[simp] theorem ne_above_sort : (Str.ofString "above" = Str.ofString "sort") = False := eq_false (by decide +kernel)
@[simp] theorem ne_above_kind : (Str.ofString "above" = Str.ofString "kind") = False := eq_false (by decide +kernel)
@[simp] theorem ne_above_parent : (Str.ofString "above" = Str.ofString "parent") = False := eq_false (by decide +kernel)
@[simp] theorem ne_number_day : (Str.ofString "number" = Str.ofString "day") = False := eq_false (by decide +kernel)
@[simp] theorem ne_number_moment : (Str.ofString "number" = Str.ofString "moment") = False := eq_false (by decide +kernel)
@[simp] theorem ne_number_born : (Str.ofString "number" = Str.ofString "born") = False := eq_false (by decide +kernel)
@[simp] theorem ne_number_rules : (Str.ofString "number" = Str.ofString "rules") = False := eq_false (by decide +kernel)
@[simp] theorem ne_number_sort : (Str.ofString "number" = Str.ofString "sort") = False := eq_false (by decide +kernel)
@[simp] theorem ne_number_kind : (Str.ofString "number" = Str.ofString "kind") = False := eq_false (by decide +kernel)
@[simp] theorem ne_number_parent : (Str.ofString "number" = Str.ofString "parent") = False := eq_false (by decide +kernel)
@[simp] theorem ne_rules_day : (Str.ofString "rules" = Str.ofString "day") = False := eq_false (by decide +kernel)
@[simp] theorem ne_rules_moment : (Str.ofString "rules" = Str.ofString "moment") = False := eq_false (by decide +kernel)
@[simp] theorem ne_rules_born : (Str.ofString "rules" = Str.ofString "born") = False := eq_false (by decide +kernel)
@[simp] theorem ne_rules_sort : (Str.ofString "rules" = Str.ofString "sort") = False := eq_false (by decide +kernel)
@[simp] theorem ne_rules_kind : (Str.ofString "rules" = Str.ofString "kind") = False := eq_false (by decide +kernel)
@[simp] theorem ne_rules_parent : (Str.ofString "rules" = Str.ofString "parent") = False := eq_false (by decide +kernel)
@[simp] theorem ne_sort_day : (Str.ofString "sort" = Str.ofString "day") = False := eq_false (by decide +kernel)
@[simp] theorem ne_sort_moment : (Str.ofString "sort" = Str.ofString "moment") = False := eq_false (by decide +kernel)
@[simp] theorem ne_sort_born : (Str.ofString "sort" = Str.ofString "born") = False := eq_false (by decide +kernel)
@[simp] theorem ne_sort_rules : (Str.ofString "sort" = Str.ofString "rules") = False := eq_false (by decide +kernel)
@[simp] theorem ne_sort_kind : (Str.ofString "sort" = Str.ofString "kind") = False := eq_false (by decide +kernel)
@[simp] theorem ne_sort_parent : (Str.ofString "sort" = Str.ofString "parent") = False := eq_false (by decide +kernel)
@[simp] theorem ne_above_number : (Str.ofString "number" = Str.ofString "above") = False := eq_false (by decide +kernel)
def srt (b : Bool) : Str := if b then "turn" else "row"
inductive ThingOk : Str → List Nat → D → Prop
  | name (w : List Nat) : isW w = true → ThingOk (Str.ofString "name") w (.str (S w))
  | number (n : Nat) : n < 10 ^ 12 → ThingOk (Str.ofString "number") (TL.numL n) (.int (n : Nat))
  | above (n : Nat) : 1 ≤ n → n < 10 ^ 12 → ThingOk (Str.ofString "above") (TL.numL n) (.int (n : Nat))
  | rules (r : Rules) : okR r = true → ThingOk (Str.ofString "rules") (rsW r) (rsD r)
  | sort (b : Bool) : ThingOk (Str.ofString "sort") (tl (srt b)) (.str (srt b))
inductive ThAll : List Str → List (List Nat) → List D → Prop
  | nil : ThAll [] [] []
  | cons {f : Str} {w : List Nat} {d : D} {fs : List Str} {ws : List (List Nat)} {ds : List D} : ThingOk f w d → ThAll fs ws ds → ThAll (f :: fs) (w :: ws) (d :: ds)
theorem ThingOk.non {f : Str} {w : List Nat} {d : D} (h : ThingOk f w d) : isNon d = false := by
  cases h <;> rfl
theorem ThingOk.free {f : Str} {w : List Nat} {d : D} (h : ThingOk f w d) : 32 ∉ w := by
  cases h with
  | name w h => intro q; have := isW_c h q; omega
  | number n h => exact TL.numL_free (by omega)
  | above n h h2 => exact TL.numL_free (by omega)
  | rules r h =>
    intro q
    have := rsw_c h q
    unfold okc at this
    omega
  | sort b => cases b <;> decide +kernel
theorem ThingOk.len {f : Str} {w : List Nat} {d : D} (h : ThingOk f w d) : w.length ≤ 40000 := by
  cases h with
  | name w h => have := isW_len h; omega
  | number n h => have := num_len h; omega
  | above n h h2 => have := num_len h2; omega
  | rules r h => exact rsW_len h
  | sort b => cases b <;> decide +kernel
theorem ThingOk.fit {f : Str} {w : List Nat} {d : D} (h : ThingOk f w d) : Fit d 4 2238 := by
  cases h with
  | name w h => exact (w_fit h).mono (by omega) (by omega)
  | number n h => exact (Fit.int (by rw [Int.natAbs_natCast]; exact h)).mono (by omega) (by omega)
  | above n h h2 => exact (Fit.int (by rw [Int.natAbs_natCast]; exact h2)).mono (by omega) (by omega)
  | rules r h => exact rs_fit h
  | sort b => cases b <;> exact (Fit.str (k := 4) (by decide +kernel) (by decide +kernel)).mono (by omega) (by omega)
theorem ThAll.lens {fs : List Str} {ws : List (List Nat)} {ds : List D} (h : ThAll fs ws ds) : ws.length = fs.length ∧ ds.length = fs.length := by
  induction h with
  | nil => exact ⟨rfl, rfl⟩
  | cons _ _ ih => simp [ih.1, ih.2]
theorem ThAll.mem {fs : List Str} {ws : List (List Nat)} {ds : List D} (h : ThAll fs ws ds) : ∀ w ∈ ws, 32 ∉ w ∧ w.length ≤ 40000 := by
  induction h with
  | nil => intro w h; cases h
  | cons h1 _ ih =>
    intro w hw
    rcases List.mem_cons.mp hw with rfl | hw
    · exact ⟨h1.free, h1.len⟩
    · exact ih w hw
theorem ThAll.fit {fs : List Str} {ws : List (List Nat)} {ds : List D} (h : ThAll fs ws ds) : ∀ d ∈ ds, Fit d 4 2238 := by
  induction h with
  | nil => intro w h; cases h
  | cons h1 _ ih =>
    intro w hw
    rcases List.mem_cons.mp hw with rfl | hw
    · exact h1.fit
    · exact ih w hw

def F_name_in (x y z : D) (A : AH) (Q : DK) : Prop := ∃ w, x = .str (Str.ofString "name") ∧ y = .str (S w) ∧ isW w = true ∧ ∀ A', AExt A A' → Q (.str (S w)) A'
abbrev sp_name_in : DSp := sp3 F_name_in
def t_name_in : DTS := dSeq (dIfS (dAnd (dTest (dOp (opEq) (dVar 0) (dC (.str "parent")))) (dTest (dOp (opEq) (dVar 1) (dC (.str "-"))))) (dRet (dC (.str ""))) (dNext)) (dSeq (dIfS (dOr (dNot (dTest (dCall sp_is_word (dCons (dVar 1) (dNil))))) (dAnd (dTest (dOp (opIn) (dVar 0) (dTup (dCons (dC (.str "other")) (dCons (dC (.str "parent")) (dNil)))))) (dTest (dOp (opEq) (dVar 1) (dOp opIx (dVar 2) (dC (.int 3))))))) (dRet (dC .non)) (dNext)) (dRet (dVar 1)))
@[simp] theorem in_op (A : AH) (Q : DK) : opIn (.str (Str.ofString "name")) (.tup [.str (Str.ofString "other"), .str (Str.ofString "parent")]) A Q = Q (.bl false) A := in_flat false rfl rfl (by decide +kernel)
theorem r_name_in : ∀ x y z A Q, F_name_in x y z A Q → t_name_in { nx := fun _ A' => Q .non A', rt := Q } (some x :: some y :: some z :: List.replicate 0 none) A := by
  rintro _ _ z A Q ⟨w, rfl, rfl, hw, k⟩
  simp only [t_name_in, s_seq, s_asg, s_op, s_sl, s_var, s_c, s_noPart, s_part, List.replicate]
  simp
  exact ⟨w, rfl, hw, fun A1 e1 => by simp; exact k A1 e1⟩

def F_thing_in (x y z : D) (A : AH) (Q : DK) : Prop := ∃ f w d, x = .str f ∧ y = .str (S w) ∧ ThingOk f w d ∧ ∀ A', AExt A A' → Q d A'
abbrev sp_thing_in : DSp := sp3 F_thing_in
def tpSorts : List Str := ["turn", "row"]
def t_thing_in : DTS := dSeq (dIfS (dTest (dOp (opEq) (dVar 0) (dC (.str "day")))) (dRet (dCall sp_number_in (dCons (dVar 1) (dCons (dC (.int 0)) (dCons (dC (.int 99999)) (dNil)))))) (dNext)) (dSeq (dIfS (dTest (dOp (opEq) (dVar 0) (dC (.str "moment")))) (dRet (dCall sp_number_in (dCons (dVar 1) (dCons (dC (.int 0)) (dCons (dC (.int 999)) (dNil)))))) (dNext)) (dSeq (dIfS (dTest (dOp (opEq) (dVar 0) (dC (.str "born")))) (dRet (dCall sp_number_in (dCons (dVar 1) (dCons (dOp opSub (dC (.int 0)) (dC (.int 999999999999))) (dCons (dOp opIx (dVar 2) (dC (.int 0))) (dNil)))))) (dNext)) (dSeq (dIfS (dTest (dOp (opIn) (dVar 0) (dTup (dCons (dC (.str "number")) (dCons (dC (.str "above")) (dNil)))))) (dRet (dCall sp_number_in (dCons (dVar 1) (dCons (dCB cInt (dCons (dOp (opEq) (dVar 0) (dC (.str "above"))) (dNil))) (dCons (dC (.int 999999999999)) (dNil)))))) (dNext)) (dSeq (dIfS (dTest (dOp (opEq) (dVar 0) (dC (.str "rules")))) (dRet (dCall sp_rules_in (dCons (dVar 1) (dNil)))) (dNext)) (dSeq (dIfS (dTest (dOp (opEq) (dVar 0) (dC (.str "sort")))) (dRet (dIf (dTest (dOp (opIn) (dVar 1) (dC (.tup (tpSorts.map D.str))))) (dVar 1) (dC .non))) (dNext)) (dSeq (dIfS (dTest (dOp (opEq) (dVar 0) (dC (.str "kind")))) (dNever) (dNext)) (dRet (dCall sp_name_in (dCons (dVar 0) (dCons (dVar 1) (dCons (dVar 2) (dNil))))))))))))
@[simp] theorem in_na (A : AH) (Q : DK) : opIn (.str (Str.ofString "name")) (.tup [.str (Str.ofString "number"), .str (Str.ofString "above")]) A Q = Q (.bl false) A := in_flat false rfl rfl (by decide +kernel)
@[simp] theorem in_na2 (A : AH) (Q : DK) : opIn (.str (Str.ofString "number")) (.tup [.str (Str.ofString "number"), .str (Str.ofString "above")]) A Q = Q (.bl true) A := in_flat true rfl rfl (by decide +kernel)
@[simp] theorem in_na3 (A : AH) (Q : DK) : opIn (.str (Str.ofString "above")) (.tup [.str (Str.ofString "number"), .str (Str.ofString "above")]) A Q = Q (.bl true) A := in_flat true rfl rfl (by decide +kernel)
@[simp] theorem in_na4 (A : AH) (Q : DK) : opIn (.str (Str.ofString "rules")) (.tup [.str (Str.ofString "number"), .str (Str.ofString "above")]) A Q = Q (.bl false) A := in_flat false rfl rfl (by decide +kernel)
@[simp] theorem in_na5 (A : AH) (Q : DK) : opIn (.str (Str.ofString "sort")) (.tup [.str (Str.ofString "number"), .str (Str.ofString "above")]) A Q = Q (.bl false) A := in_flat false rfl rfl (by decide +kernel)
theorem r_thing_in : ∀ x y z A Q, F_thing_in x y z A Q → t_thing_in { nx := fun _ A' => Q .non A', rt := Q } (some x :: some y :: some z :: List.replicate 0 none) A := by
  rintro _ _ z A Q ⟨f, w, d, rfl, rfl, ok, k⟩
  simp only [t_thing_in, s_seq, s_asg, s_op, s_sl, s_var, s_c, s_noPart, s_part, List.replicate]
  cases ok with
  | name w hw =>
    simp
    exact ⟨w, rfl, rfl, hw, fun A1 e1 => k A1 e1⟩
  | number n h =>
    simp
    exact ⟨n, 0, 999999999999, rfl, rfl, rfl, by omega, by omega, h, fun A1 e1 => k A1 e1⟩
  | above n h h2 =>
    simp
    exact ⟨n, 1, 999999999999, rfl, rfl, rfl, by omega, by omega, h2, fun A1 e1 => k A1 e1⟩
  | rules r h =>
    simp
    exact ⟨r, rfl, h, fun A1 e1 => k A1 e1⟩
  | sort b =>
    have e1 : ∀ Q : DK, opIn (.str (srt b)) (.tup (tpSorts.map D.str)) A Q = Q (.bl true) A := fun Q => in_flat true rfl rfl (by cases b <;> decide +kernel)
    simp only [tick]
    simp [e1]
    exact k A (.refl _)

def F_things_in (x y z u : D) (A : AH) (Q : DK) : Prop := ∃ (p q : Addr) (ws : List (List Nat)) (ds0 : List D) (fs : List Str) (ds : List D), y = .ref p ∧ u = .ref q ∧ z = .tup (fs.map D.str) ∧ p ≠ q ∧ A p = some (.lst (ws.map fun w => D.str (S w))) ∧ A q = some (.lst ds0) ∧ ds0.length + fs.length ≤ 20 ∧
  ThAll fs (ws.drop ds0.length) ds ∧ ∀ A', AExtB (· = q) A A' → A' q = some (.lst (ds0 ++ ds)) → Q (.ref q) A'
abbrev sp_things_in : DSp := sp4 F_things_in
def t_things_in : DTS := dSeq (dFor (iSeq (dVar 2)) (dgName 4) (dSeq (dAsg (dCB cLen (dCons (dVar 3) (dNil))) (dgName 5)) (dSeq (dIfS (dTest (dOp (opEq) (dVar 5) (dCB cLen (dCons (dVar 1) (dNil))))) (dNever) (dNext)) (dSeq (dAsg (dCall sp_thing_in (dCons (dVar 4) (dCons (dOp opIx (dVar 1) (dVar 5)) (dCons (dVar 3) (dNil))))) (dgName 6)) (dSeq (dIfS (dTest (dOp (opIsN id) (dVar 6) (dC .non))) (dNever) (dNext)) (dDrop (dM "list" mAppend (dVar 3) (dCons (dVar 6) (dNil))))))))) (dRet (dVar 3))
theorem r_things_in : ∀ x y z u A Q, F_things_in x y z u A Q → t_things_in { nx := fun _ A' => Q .non A', rt := Q } (some x :: some y :: some z :: some u :: List.replicate 3 none) A := by
  rintro x _ _ _ A Q ⟨p, q, ws, ds0, fs, ds, rfl, rfl, rfl, hpq, ep, eq, hz, th, k⟩
  simp only [t_things_in, s_seq, s_asg, s_op, s_sl, s_var, s_c, s_noPart, s_part, List.replicate]
  simp only [s_for, s_iSeq, s_var, List.getElem?_cons_succ, List.getElem?_cons_zero, s_ret]
  refine for_ok (fun items st A' => ∃ (done : List D) (fs' : List Str) (ds' : List D) (o4 o5 o6 : Option D), items = fs'.map D.str ∧ st = [some x, some (.ref p), some (.tup (fs.map D.str)), some (.ref q), o4, o5, o6] ∧
    A' q = some (.lst (ds0 ++ done)) ∧ ds = done ++ ds' ∧ ThAll fs' (ws.drop (ds0.length + done.length)) ds' ∧ AExtB (· = q) A A' ∧ done.length + fs'.length = fs.length) (fun _ _ _ _ => trivial) ?_ ?_ _ _ _ ⟨[], fs, ds, none, none, none, rfl, rfl, by simpa using eq, rfl, by simpa using th, .refl _, by simp⟩
  · rintro _ xs st A' N ⟨done, fs', ds', o4, o5, o6, ei, rfl, e1, e2, th', ex, hl⟩ kN
    generalize hw : ws.drop (ds0.length + done.length) = W at th'
    cases th' with
    | nil => cases ei
    | @cons f w d fs2 ws2 ds2 h1 h2 =>
      simp only [List.map_cons, List.cons.injEq] at ei
      obtain ⟨rfl, rfl⟩ := ei
      have hlt : ds0.length + done.length < ws.length := by
        have := congrArg List.length hw
        rw [List.length_drop, List.length_cons] at this
        omega
      have hd : ws.drop (ds0.length + done.length) = ws[ds0.length + done.length] :: ws.drop (ds0.length + done.length + 1) := List.drop_eq_getElem_cons hlt
      rw [hw] at hd
      have hd1 : w = ws[ds0.length + done.length] := (List.cons.inj hd).1
      have hd2 : ws2 = ws.drop (ds0.length + done.length + 1) := (List.cons.inj hd).2
      have ep' := ex _ _ hpq ep
      have hat : atI (ws.map fun w => D.str (S w)) (((ds0.length + done.length : Nat) : Int)) = some (.str (S w)) := atI_nat (by rw [List.getElem?_map, List.getElem?_eq_getElem hlt, ← hd1]; rfl)
      have hne : ((ds0.length : Int) + (done.length : Int) = (ws.length : Int)) = False := eq_false (by omega)
      have hat2 : atI (ws.map fun w => D.str (S w)) ((ds0.length : Int) + (done.length : Int)) = some (.str (S w)) := by
        rw [← hat]
        rfl
      simp [s_lenL _ _ _ _ e1, s_lenL _ _ _ _ ep', hne, ep', hat2]
      refine ⟨f, w, d, rfl, rfl, h1, fun A2 e3 => ?_⟩
      have eq2 := e3 _ _ e1
      simp [h1.non, s_tyL _ _ _ eq2, s_append _ _ _ _ _ eq2]
      simp only [List.length_cons] at hl
      refine ⟨Nat.lt_of_lt_of_le (by omega) (big (n := 30)), kN _ _ ⟨done ++ [d], fs2, ds2, _, _, _, rfl, rfl, ?_, by rw [e2]; simp, ?_, ?_, ?_⟩⟩
      · simp
      · rw [List.length_append, List.length_singleton, ← Nat.add_assoc, ← hd2]
        exact h2
      · exact (ex.trans e3.b).trans (.upd rfl)
      · rw [List.length_append, List.length_singleton]
        omega
  · rintro st A' ⟨done, fs', ds', o4, o5, o6, ei, rfl, e1, e2, th', ex, hl⟩
    cases fs' with
    | cons f fs' => cases ei
    | nil =>
      generalize hw : ws.drop (ds0.length + done.length) = W at th'
      cases th'
      rw [List.append_nil] at e2
      subst e2
      simp
      exact k A' ex e1
end K82

/-! lines -/
namespace K82
open PySem PySem.Spec PyProof.Rows L2 PD SX

def F_ended (x y z : D) (A : AH) (Q : DK) : Prop := ∃ (p q : Addr) (ws ds : List D), y = .ref p ∧ z = .ref q ∧ A p = some (.lst ws) ∧ A q = some (.lst ds) ∧ ds.length = ws.length ∧ ∀ A', AExt A A' → Q (.tup ds) A'
abbrev sp_ended : DSp := sp3 F_ended
def t_ended : DTS := dSeq (dIfS (dTest (dOp (opLt) (dCB cLen (dCons (dVar 2) (dNil))) (dCB cLen (dCons (dVar 1) (dNil))))) (dNever) (dNext)) (dRet (dCB cTuple (dCons (dVar 2) (dNil))))
theorem r_ended : ∀ x y z A Q, F_ended x y z A Q → t_ended { nx := fun _ A' => Q .non A', rt := Q } (some x :: some y :: some z :: List.replicate 0 none) A := by
  rintro x _ _ A Q ⟨p, q, ws, ds, rfl, rfl, e1, e2, hl, k⟩
  simp only [t_ended, s_seq, s_asg, s_op, s_sl, s_var, s_c, s_noPart, s_part, List.replicate]
  simp [s_lenL _ _ _ _ e1, s_lenL _ _ _ _ e2, e2, hl]
  exact k A (.refl _)

def F_read_rules (x : D) (A : AH) (Q : DK) : Prop := ∃ r, x = .str (S (rsW r)) ∧ okR r = true ∧ ∀ A', AExt A A' → Q (rsD r) A'
abbrev sp_read_rules : DSp := sp1 F_read_rules
def t_read_rules : DTS := dSeq (dAsg (dM "str" mSplit (dVar 0) (dCons (dC (.str " ")) (dNil))) (dgName 1)) (dRet (dOp opIx (dCall sp_ended (dCons (dC (.int 0)) (dCons (dVar 1) (dCons (dCall sp_things_in (dCons (dC (.int 0)) (dCons (dVar 1) (dCons (dTup (dCons (dC (.str "rules")) (dNil))) (dCons (dLst (dNil)) (dNil)))))) (dNil))))) (dC (.int 0))))
theorem blank : Str.ofString " " = S [32] := by decide +kernel
theorem r_read_rules : ∀ x A Q, F_read_rules x A Q → t_read_rules { nx := fun _ A' => Q .non A', rt := Q } (some x :: List.replicate 1 none) A := by
  rintro _ A Q ⟨r, rfl, ok, k⟩
  have hl := rsW_len ok
  have hz : (rsW r).length + 2 ≤ sizeLine := big
  simp only [t_read_rules, s_seq, s_asg, s_op, s_sl, s_var, s_c, s_noPart, s_part, List.replicate]
  simp [blank, hz]
  have th : ThingOk (Str.ofString "rules") (rsW r) (rsD r) := .rules r ok
  have hsp : Txt.split (S (rsW r)) (S [32]) = [rsW r].map S := split_parts 32 (by decide) [rsW r] (by simp) fun p hp => by
    rw [List.mem_singleton.mp hp]
    exact th.free
  rw [hsp]
  refine fun p hp q hq => ?_
  have hpq : p ≠ q := AH.ne AH.upd_same hq
  refine ⟨p, q, [rsW r], [], [Str.ofString "rules"], [rsD r], rfl, rfl, rfl, hpq, by rw [AH.upd_ne hpq]; exact AH.upd_same, AH.upd_same, by simp, .cons th .nil, fun A2 e1 e2 => ?_⟩
  have ep := e1 p _ hpq (by rw [AH.upd_ne hpq]; exact AH.upd_same)
  simp
  refine ⟨p, q, _, _, rfl, rfl, ep, e2, by simp, fun A3 e3 => ?_⟩
  simp
  refine k A3 (fun a o ha => e3 _ _ (e1 a o (fun z => ?_) ?_))
  · rw [z] at ha
    have : (A.upd p (.lst (([rsW r].map S).map D.str))) q = A q := AH.upd_ne hpq.symm
    rw [this, ha] at hq
    cases hq
  · have h1 : a ≠ p := AH.ne ha hp
    have h2 : a ≠ q := AH.ne (by rw [AH.upd_ne h1]; exact ha) hq
    rw [AH.upd_ne h2, AH.upd_ne h1]
    exact ha

def tbLines : List (Str × List Str) := [("founder", ["name"]), ("terms", ["above", "above", "number", "above"]), ("place", ["sort", "above", "rules"]), ("seat", ["name", "above"])]
structure Ln where
  h : Str
  ws : List (List Nat)
  ds : List D
def Ln.w (l : Ln) : List Nat := TL.joinL [32] (tl l.h :: l.ws)
def Ln.d (l : Ln) : D := .tup (.str l.h :: l.ds)
structure Ln.Ok (l : Ln) : Prop where
  th : ∃ fs, tbLines.lookup l.h = some fs ∧ ThAll fs l.ws l.ds ∧ fs.length ≤ 4
  fr : 32 ∉ tl l.h
  ln : l.h.length ≤ 10 ∧ PyData.strOk l.h = true
theorem Ln.Ok.len {l : Ln} (h : l.Ok) : l.w.length ≤ 300000 := by
  obtain ⟨fs, _, h2, h3⟩ := h.th
  have := join_len (c := 32) (b := 40000) (ps := tl l.h :: l.ws) fun p hp => by
    rcases List.mem_cons.mp hp with rfl | hp
    · have := h.ln.1
      have e : l.h.length = (tl l.h).length := TL.len_tl l.h
      omega
    · exact (h2.mem p hp).2
  rw [List.length_cons, h2.lens.1] at this
  unfold Ln.w
  have h4 : (fs.length + 1) * (40000 + 1) ≤ 5 * 40001 := Nat.mul_le_mul_right _ (by omega)
  omega
theorem Ln.Ok.fit {l : Ln} (h : l.Ok) : Fit l.d 5 12000 := by
  obtain ⟨fs, _, h2, h3⟩ := h.th
  have h5 := FitL.all h2.fit
  have h6 := FitL.cons ((Fit.str h.ln.2 (Nat.le_refl _)).mono (Nat.zero_le 4) h.ln.1) h5
  refine (Fit.tup h6).mono (Nat.le_refl _) ?_
  rw [h2.lens.2]
  have h4 : fs.length * (2238 + 1) ≤ 4 * 2239 := Nat.mul_le_mul_right _ (by omega)
  omega

def F_line_in (x y z : D) (A : AH) (Q : DK) : Prop := ∃ (l : Ln) (hs : List Str), y = .str (S l.w) ∧ z = .tup (hs.map D.str) ∧ l.h ∈ hs ∧ l.Ok ∧ ∀ A', AExt A A' → Q l.d A'
abbrev sp_line_in : DSp := sp3 F_line_in
def t_line_in : DTS := dSeq (dAsg (dM "str" mSplit (dVar 1) (dCons (dC (.str " ")) (dNil))) (dgName 3)) (dSeq (dIfS (dTest (dOp (opNotIn) (dOp opIx (dVar 3) (dC (.int 0))) (dVar 2))) (dNever) (dNext)) (dRet (dCall sp_ended (dCons (dVar 0) (dCons (dVar 3) (dCons (dCall sp_things_in (dCons (dVar 0) (dCons (dVar 3) (dCons (dTab tbLines (dOp opIx (dVar 3) (dC (.int 0)))) (dCons (dSl (dVar 3) (dNoPart) (dPart (dC (.int 1)))) (dNil)))))) (dNil)))))))
theorem any_eqF {h : Str} : ∀ {hs : List Str}, h ∈ hs → ((hs.map D.str).any fun d => eqF d (.str h)) = true
  | a :: hs, hm => by
    rw [List.map_cons, List.any_cons]
    rcases List.mem_cons.mp hm with rfl | hm
    · have : eqF (.str h) (.str h) = true := by simp [eqF]
      rw [this]
      rfl
    · rw [any_eqF hm, Bool.or_true]
theorem flat_strs : ∀ hs : List Str, (hs.map D.str).all flatD = true
  | [] => rfl
  | a :: hs => by
    rw [List.map_cons, List.all_cons, flat_strs hs]
    rfl
theorem r_line_in : ∀ x y z A Q, F_line_in x y z A Q → t_line_in { nx := fun _ A' => Q .non A', rt := Q } (some x :: some y :: some z :: List.replicate 1 none) A := by
  rintro x _ _ A Q ⟨l, hs, rfl, rfl, hm, ok, k⟩
  have hl := ok.len
  have hz : l.w.length + 2 ≤ sizeLine := big
  obtain ⟨fs, lk, th, hf4⟩ := ok.th
  simp only [t_line_in, s_seq, s_asg, s_op, s_sl, s_var, s_c, s_noPart, s_part, List.replicate]
  have hsp : Txt.split (S l.w) (S [32]) = (tl l.h :: l.ws).map S := split_parts 32 (by decide) _ (by simp) fun p hp => by
    rcases List.mem_cons.mp hp with rfl | hp
    · exact ok.fr
    · exact (th.mem p hp).1
  simp [blank, hz]
  rw [hsp]
  refine fun p hp => ?_
  have e1 : opNotIn (.str l.h) (.tup (hs.map D.str)) = fun A Q => Q (.bl false) A := by
    funext A Q
    exact in_flat true rfl (flat_strs hs) (any_eqF hm)
  simp [tick, e1, lk]
  refine fun q hq => ?_
  have hpq : p ≠ q := AH.ne AH.upd_same hq
  refine ⟨p, q, tl l.h :: l.ws, [.str l.h], fs, l.ds, rfl, rfl, rfl, hpq, ?_, AH.upd_same, by simp; omega, by simpa using th, fun A2 e1 e2 => ?_⟩
  · rw [AH.upd_ne hpq, AH.upd_same]
    simp [tick]
  have ep := e1 p _ hpq (by rw [AH.upd_ne hpq]; exact AH.upd_same)
  simp
  refine ⟨p, q, _, _, rfl, rfl, ep, e2, by simp [th.lens.1, th.lens.2], fun A3 e3 => ?_⟩
  refine k A3 (fun a o ha => e3 _ _ (e1 a o (fun z => ?_) ?_))
  · have h1 : a ≠ p := AH.ne ha hp
    rw [← z, AH.upd_ne h1, ha] at hq
    cases hq
  · have h1 : a ≠ p := AH.ne ha hp
    have h2 : a ≠ q := AH.ne (by rw [AH.upd_ne h1]; exact ha) hq
    rw [AH.upd_ne h2, AH.upd_ne h1]
    exact ha

def headsD (ls : List Ln) : List Str := match ls with
  | [] => ["founder"]
  | [_] => ["terms"]
  | [_, _] => ["place"]
  | ls => if (ls.getLast?.map (·.h)) = some "seat" then ["seat"] else ["place", "seat"]
def F_heads_behind (x : D) (A : AH) (Q : DK) : Prop := ∃ (p : Addr) (ls : List Ln), x = .ref p ∧ A p = some (.lst (ls.map Ln.d)) ∧ ls.length ≤ 100 ∧ ∀ A', AExt A A' → Q (.tup ((headsD ls).map D.str)) A'
abbrev sp_heads_behind : DSp := sp1 F_heads_behind
def t_heads_behind : DTS := dSeq (dIfS (dTest (dOp (opLt) (dCB cLen (dCons (dVar 0) (dNil))) (dC (.int 2)))) (dRet (dOp opIx (dTup (dCons (dTup (dCons (dC (.str "founder")) (dNil))) (dCons (dTup (dCons (dC (.str "terms")) (dNil))) (dNil)))) (dCB cLen (dCons (dVar 0) (dNil))))) (dNext)) (dSeq (dIfS (dTest (dOp (opEq) (dCB cLen (dCons (dVar 0) (dNil))) (dC (.int 2)))) (dRet (dTup (dCons (dC (.str "place")) (dNil)))) (dNext)) (dRet (dIf (dTest (dOp (opEq) (dOp opIx (dOp opIx (dVar 0) (dUn unNeg (dC (.int 1)))) (dC (.int 0))) (dC (.str "seat")))) (dTup (dCons (dC (.str "seat")) (dNil))) (dTup (dCons (dC (.str "place")) (dCons (dC (.str "seat")) (dNil)))))))
theorem r_heads_behind : ∀ x A Q, F_heads_behind x A Q → t_heads_behind { nx := fun _ A' => Q .non A', rt := Q } (some x :: List.replicate 0 none) A := by
  rintro _ A Q ⟨p, ls, rfl, e, hl, k⟩
  simp only [t_heads_behind, s_seq, s_asg, s_op, s_sl, s_var, s_c, s_noPart, s_part, List.replicate]
  have k0 := k A (.refl _)
  match ls, hl, e, k0 with
  | [], _, e, k0 =>
    simp [s_lenL _ _ _ _ e]
    exact k0
  | [_], _, e, k0 =>
    simp [s_lenL _ _ _ _ e]
    exact k0
  | [_, _], _, e, k0 =>
    simp [s_lenL _ _ _ _ e]
    exact k0
  | a :: b :: c :: r, _, e, k0 =>
    obtain ⟨m, z, ez⟩ : ∃ m z, a :: b :: c :: r = m ++ [z] := ⟨(a :: b :: c :: r).dropLast, (a :: b :: c :: r).getLast (by simp), (List.dropLast_concat_getLast (by simp)).symm⟩
    have h1 : (((a :: b :: c :: r).map Ln.d).length : Int) = (r.length : Int) + 3 := by simp; omega
    have hge : ¬ ((r.length : Int) + 3 < 2) := by omega
    have hne : ¬ ((r.length : Int) + 3 = 2) := by omega
    have hat : atI ((a :: b :: c :: r).map Ln.d) (-1) = some z.d := by
      rw [ez, List.map_append]
      exact atI_last _ _
    have hz : headsD (a :: b :: c :: r) = if z.h = Str.ofString "seat" then [Str.ofString "seat"] else [Str.ofString "place", Str.ofString "seat"] := by
      show (if ((a :: b :: c :: r).getLast?.map (·.h)) = some (Str.ofString "seat") then [Str.ofString "seat"] else [Str.ofString "place", Str.ofString "seat"]) = _
      rw [ez]
      simp
    rw [hz] at k0
    rw [List.map_cons, List.map_cons, List.map_cons] at e hat
    have hge2 : ¬ ((r.length : Int) + 1 + 1 + 1 < 2) := by omega
    have hne2 : ¬ ((r.length : Int) + 1 + 1 + 1 = 2) := by omega
    simp [s_lenL _ _ _ _ e, e, hat, hge2, hne2]
    rw [show z.d = .tup (.str z.h :: z.ds) from rfl]
    simp
    by_cases hs : z.h = Str.ofString "seat"
    · rw [if_pos hs] at k0
      rw [if_pos hs]
      exact k0
    · rw [if_neg hs] at k0
      rw [if_neg hs]
      exact k0
end K82

/-! deeds -/
namespace K82
open PySem PySem.Spec PyProof.Rows L2 PD SX

abbrev Place := Bool × Nat × Rules
abbrev Seat := List Nat × Nat
structure Deed where
  f : List Nat
  ps : List Place
  ss : List Seat
  t1 : Nat
  t2 : Nat
  t3 : Nat
  t4 : Nat
def placeD (x : Place) : D := .tup [.str (srt x.1), .int (x.2.1 : Nat), rsD x.2.2]
def seatD (x : Seat) : D := .tup [.str (S x.1), .int (x.2 : Nat)]
def Deed.d (dd : Deed) : D := .tup [.str (S dd.f), .tup (dd.ps.map placeD), .tup (dd.ss.map seatD), .tup [.int (dd.t1 : Nat), .int (dd.t2 : Nat), .int (dd.t3 : Nat), .int (dd.t4 : Nat)]]
def founderL (dd : Deed) : Ln := ⟨Str.ofString "founder", [dd.f], [.str (S dd.f)]⟩
def termsL (dd : Deed) : Ln := ⟨Str.ofString "terms", [TL.numL dd.t1, TL.numL dd.t2, TL.numL dd.t3, TL.numL dd.t4], [.int (dd.t1 : Nat), .int (dd.t2 : Nat), .int (dd.t3 : Nat), .int (dd.t4 : Nat)]⟩
def placeL (x : Place) : Ln := ⟨Str.ofString "place", [tl (srt x.1), TL.numL x.2.1, rsW x.2.2], [.str (srt x.1), .int (x.2.1 : Nat), rsD x.2.2]⟩
def seatL (x : Seat) : Ln := ⟨Str.ofString "seat", [x.1, TL.numL x.2], [.str (S x.1), .int (x.2 : Nat)]⟩
def Deed.ls (dd : Deed) : List Ln := founderL dd :: termsL dd :: (dd.ps.map placeL ++ dd.ss.map seatL)
def okP (x : Place) : Prop := (1 ≤ x.2.1 ∧ x.2.1 < 10 ^ 12) ∧ okR x.2.2 = true
def okS (x : Seat) : Prop := isW x.1 = true ∧ 1 ≤ x.2 ∧ x.2 < 10 ^ 12
structure Deed.Ok (dd : Deed) : Prop where
  f : isW dd.f = true
  pn : 1 ≤ dd.ps.length ∧ dd.ps.length ≤ 8
  po : ∀ x ∈ dd.ps, okP x
  sn : 1 ≤ dd.ss.length ∧ dd.ss.length ≤ 10
  so : ∀ x ∈ dd.ss, okS x
  a : 1 ≤ dd.t1 ∧ dd.t1 < 10 ^ 12
  b : 1 ≤ dd.t2 ∧ dd.t2 < 10 ^ 12
  c : dd.t3 < 10 ^ 12
  e : 1 ≤ dd.t4 ∧ dd.t4 < 10 ^ 12
theorem lk_founder : tbLines.lookup (Str.ofString "founder") = some [Str.ofString "name"] := by decide +kernel
theorem fr_founder : 32 ∉ tl (Str.ofString "founder") := by decide +kernel
theorem ln_founder : (Str.ofString "founder").length ≤ 10 ∧ PyData.strOk (Str.ofString "founder") = true := by decide +kernel
theorem lk_terms : tbLines.lookup (Str.ofString "terms") = some [Str.ofString "above", Str.ofString "above", Str.ofString "number", Str.ofString "above"] := by decide +kernel
theorem fr_terms : 32 ∉ tl (Str.ofString "terms") := by decide +kernel
theorem ln_terms : (Str.ofString "terms").length ≤ 10 ∧ PyData.strOk (Str.ofString "terms") = true := by decide +kernel
theorem lk_place : tbLines.lookup (Str.ofString "place") = some [Str.ofString "sort", Str.ofString "above", Str.ofString "rules"] := by decide +kernel
theorem fr_place : 32 ∉ tl (Str.ofString "place") := by decide +kernel
theorem ln_place : (Str.ofString "place").length ≤ 10 ∧ PyData.strOk (Str.ofString "place") = true := by decide +kernel
theorem lk_seat : tbLines.lookup (Str.ofString "seat") = some [Str.ofString "name", Str.ofString "above"] := by decide +kernel
theorem fr_seat : 32 ∉ tl (Str.ofString "seat") := by decide +kernel
theorem ln_seat : (Str.ofString "seat").length ≤ 10 ∧ PyData.strOk (Str.ofString "seat") = true := by decide +kernel
theorem founder_ok {dd : Deed} (h : dd.Ok) : (founderL dd).Ok :=
  ⟨⟨_, lk_founder, .cons (.name _ h.f) .nil, by simp⟩, fr_founder, ln_founder⟩
theorem terms_ok {dd : Deed} (h : dd.Ok) : (termsL dd).Ok :=
  ⟨⟨_, lk_terms, .cons (.above _ h.a.1 h.a.2) (.cons (.above _ h.b.1 h.b.2) (.cons (.number _ h.c) (.cons (.above _ h.e.1 h.e.2) .nil))), by simp⟩, fr_terms, ln_terms⟩
theorem place_ok {x : Place} (h : okP x) : (placeL x).Ok :=
  ⟨⟨_, lk_place, .cons (.sort _) (.cons (.above _ h.1.1 h.1.2) (.cons (.rules _ h.2) .nil)), by simp⟩, fr_place, ln_place⟩
theorem seat_ok {x : Seat} (h : okS x) : (seatL x).Ok :=
  ⟨⟨_, lk_seat, .cons (.name _ h.1) (.cons (.above _ h.2.1 h.2.2) .nil), by simp⟩, fr_seat, ln_seat⟩
theorem ls_ok {dd : Deed} (h : dd.Ok) : ∀ l ∈ dd.ls, l.Ok := by
  intro l hl
  unfold Deed.ls at hl
  rcases List.mem_cons.mp hl with rfl | hl
  · exact founder_ok h
  · rcases List.mem_cons.mp hl with rfl | hl
    · exact terms_ok h
    · rcases List.mem_append.mp hl with hl | hl
      · obtain ⟨x, hx, rfl⟩ := List.mem_map.mp hl
        exact place_ok (h.po x hx)
      · obtain ⟨x, hx, rfl⟩ := List.mem_map.mp hl
        exact seat_ok (h.so x hx)
theorem ls_len (dd : Deed) : dd.ls.length = dd.ps.length + dd.ss.length + 2 := by
  unfold Deed.ls
  simp
theorem place_fit {x : Place} (h : okP x) : Fit (placeD x) 5 12000 := by
  have := rs_fit h.2
  have s1 : Fit (.str (srt x.1)) 4 100 := by
    cases x.1 <;> exact (Fit.str (k := 4) (by decide +kernel) (by decide +kernel)).mono (by omega) (by omega)
  have s2 : Fit (.int (x.2.1 : Nat)) 4 40 := (Fit.int (by rw [Int.natAbs_natCast]; exact h.1.2)).mono (by omega) (by omega)
  exact (Fit.tup (FitL.cons s1 (FitL.cons s2 (FitL.cons this (FitL.nil (b := 0)))))).mono (by omega) (by omega)
theorem seat_fit {x : Seat} (h : okS x) : Fit (seatD x) 1 200 := by
  have s1 := w_fit h.1
  have s2 : Fit (.int (x.2 : Nat)) 0 40 := Fit.int (by rw [Int.natAbs_natCast]; exact h.2.2)
  exact (Fit.tup (FitL.cons s1 (FitL.cons s2 (FitL.nil (b := 0))))).mono (by omega) (by omega)
theorem deed_fit {dd : Deed} (h : dd.Ok) : Fit dd.d 7 120000 := by
  have f1 : Fit (.str (S dd.f)) 6 100 := (w_fit h.f).mono (by omega) (by omega)
  have f2 : Fit (.tup (dd.ps.map placeD)) 6 (8 * (12000 + 1)) := Fit.tups (fun d hd => by
    obtain ⟨x, hx, rfl⟩ := List.mem_map.mp hd
    exact place_fit (h.po x hx)) (by simpa using h.pn.2)
  have f3 : Fit (.tup (dd.ss.map seatD)) 6 (10 * (200 + 1)) := (Fit.tups (fun d hd => by
    obtain ⟨x, hx, rfl⟩ := List.mem_map.mp hd
    exact seat_fit (h.so x hx)) (by simpa using h.sn.2)).mono (by omega) (Nat.le_refl _)
  have s1 : ∀ n : Nat, n < 10 ^ 12 → Fit (.int (n : Nat)) 0 40 := fun n hn => Fit.int (by rw [Int.natAbs_natCast]; exact hn)
  have f4 := (Fit.tup (FitL.cons (s1 _ h.a.2) (FitL.cons (s1 _ h.b.2) (FitL.cons (s1 _ h.c) (FitL.cons (s1 _ h.e.2) (FitL.nil (b := 0))))))).mono (show 0 + 1 ≤ 6 by omega) (Nat.le_refl _)
  exact (Fit.tup (FitL.cons f1 (FitL.cons f2 (FitL.cons f3 (FitL.cons f4 (FitL.nil (b := 0))))))).mono (by omega) (by omega)

/-! out -/
def lnS (l : Ln) : D := .str (S l.w)
def F_deed_lines (x : D) (A : AH) (Q : DK) : Prop := ∃ dd : Deed, x = dd.d ∧ dd.Ok ∧ ∀ A' p, AExt A A' → A p = none → A' p = some (.lst (dd.ls.map lnS)) → Q (.ref p) A'
abbrev sp_deed_lines : DSp := sp1 F_deed_lines
def t_deed_lines : DTS := dSeq (dAsg (dVar 0) (dgTup 4 (dgCons (dgName 2) (dgCons (dgName 3) (dgCons (dgName 4) (dgCons (dgName 5) (dgNil))))))) (dSeq (dAsg (dLst (dCons (dOp opAdd (dC (.str "founder ")) (dVar 2)) (dCons (dM "str" mJoin (dC (.str " ")) (dCons (dOp opAdd (dLst (dCons (dC (.str "terms")) (dNil))) (dLc (iSeq (dVar 5)) (dgName 11) (dYes) (dCB cStr (dCons (dVar 11) (dNil))) [11])) (dNil))) (dNil)))) (dgName 1)) (dSeq (dFor (iSeq (dVar 3)) (dgTup 3 (dgCons (dgName 6) (dgCons (dgName 7) (dgCons (dgName 8) (dgNil))))) (dDrop (dM "list" mAppend (dVar 1) (dCons (dM "str" mJoin (dC (.str " ")) (dCons (dLst (dCons (dC (.str "place")) (dCons (dVar 6) (dCons (dCB cStr (dCons (dVar 7) (dNil))) (dCons (dCall sp_rules_word (dCons (dVar 8) (dNil))) (dNil)))))) (dNil))) (dNil))))) (dSeq (dFor (iSeq (dVar 4)) (dgTup 2 (dgCons (dgName 9) (dgCons (dgName 10) (dgNil)))) (dDrop (dM "list" mAppend (dVar 1) (dCons (dM "str" mJoin (dC (.str " ")) (dCons (dLst (dCons (dC (.str "seat")) (dCons (dVar 9) (dCons (dCB cStr (dCons (dVar 10) (dNil))) (dNil))))) (dNil))) (dNil))))) (dRet (dVar 1)))))
theorem tl_app (x y : Str) : x ++ y = S (tl x ++ tl y) := by
  rw [← S_cat, tick, tick]
theorem fl_eq (dd : Deed) : Str.ofString "founder " ++ S dd.f = S (founderL dd).w := by
  rw [tl_app, show tl (Str.ofString "founder ") = tl (Str.ofString "founder") ++ [32] by decide +kernel]
  simp [Ln.w, founderL, TL.joinL]
def numW : D → D
  | .int i => .str (S (TL.numL i.toNat))
  | d => d
theorem r_deed_lines : ∀ x A Q, F_deed_lines x A Q → t_deed_lines { nx := fun _ A' => Q .non A', rt := Q } (some x :: List.replicate 11 none) A := by
  rintro _ A Q ⟨dd, rfl, ok, k⟩
  have lf := isW_len ok.f
  simp only [t_deed_lines, s_seq, s_asg, s_op, s_sl, s_var, s_c, s_noPart, s_part, List.replicate]
  rw [show dd.d = .tup [.str (S dd.f), .tup (dd.ps.map placeD), .tup (dd.ss.map seatD), .tup [.int (dd.t1 : Nat), .int (dd.t2 : Nat), .int (dd.t3 : Nat), .int (dd.t4 : Nat)]] from rfl]
  have h8 : (Str.ofString "founder ").length = 8 := by decide +kernel
  have hz8 : 8 + dd.f.length ≤ sizeLine := big
  simp [fl_eq, blank, h8, hz8]
  refine fun p1 hp1 p2 hp2 => comp_map numW _ _ hp2 (by simp) (fun _ _ => trivial) ?_ ?_
  · intro x A1 Z hx e1 kz
    simp only [List.mem_cons, List.not_mem_nil, or_false] at hx
    rcases hx with rfl | rfl | rfl | rfl
    · simp [s_strN ok.a.2]; exact kz _ (.refl _)
    · simp [s_strN ok.b.2]; exact kz _ (.refl _)
    · simp [s_strN ok.c]; exact kz _ (.refl _)
    · simp [s_strN ok.e.2]; exact kz _ (.refl _)
  · intro A1 e1 ea
    have ep1 := e1 _ _ AH.upd_same
    have hz5 : 1 + 4 ≤ sizeLine := big
    simp [s_addL _ _ _ _ _ _ ep1 ea]
    refine fun p3 hp3 => ?_
    have hst : strsOf [.str (Str.ofString "terms"), numW (.int (dd.t1 : Nat)), numW (.int (dd.t2 : Nat)), numW (.int (dd.t3 : Nat)), numW (.int (dd.t4 : Nat))] = some ((tl (termsL dd).h :: (termsL dd).ws).map S) := by
      simp [strsOf, numW, termsL, tick]
    have hfit := join_fit (b := 40000) (ps := tl (termsL dd).h :: (termsL dd).ws) (by
      have := num_len ok.a.2
      have := num_len ok.b.2
      have := num_len ok.c
      have := num_len ok.e.2
      have e1 : (tl (Str.ofString "terms")).length = 5 := by decide +kernel
      simp [termsL, e1]
      omega) (by simp [termsL]) 1 (Nat.le_refl _)
    rw [Nat.mul_one] at hfit
    rw [hst, s_onS, join_S]
    refine ⟨hfit, fun q hq => ?_⟩
    rw [show TL.joinL [32] (tl (termsL dd).h :: (termsL dd).ws) = (termsL dd).w from rfl]
    have hAq : A q = none := by
      cases h : A q with
      | none => rfl
      | some o =>
        have h1 := e1 q o (by rw [AH.upd_ne (AH.ne h hp1)]; exact h)
        rw [AH.upd_ne (AH.ne h1 hp3), h1] at hq
        cases hq
    have hext : AExt A A1 := fun a o ha => e1 a o (by rw [AH.upd_ne (AH.ne ha hp1)]; exact ha)
    have hext2 : ∀ o o', AExt A ((A1.upd p3 o).upd q o') := fun o o' a u ha => by
      have h1 := hext a u ha
      rw [AH.upd_ne (AH.ne ha hAq), AH.upd_ne (AH.ne h1 hp3)]
      exact h1
    refine for_ok (fun items st A' => ∃ (done rest : List Place) (o6 o7 o8 : Option D), dd.ps = done ++ rest ∧ items = rest.map placeD ∧
        st = [some dd.d, some (.ref q), some (.str (S dd.f)), some (.tup (dd.ps.map placeD)), some (.tup (dd.ss.map seatD)), some (.tup [.int (dd.t1 : Nat), .int (dd.t2 : Nat), .int (dd.t3 : Nat), .int (dd.t4 : Nat)]), o6, o7, o8, none, none, none] ∧
        A' q = some (.lst ((founderL dd :: termsL dd :: done.map placeL).map lnS)) ∧ AExt A A') (fun _ _ _ _ => trivial) ?_ ?_ _ _ _ ⟨[], dd.ps, none, none, none, rfl, rfl, rfl, by rw [AH.upd_same]; rfl, hext2 _ _⟩
    · rintro x xs st A' N ⟨done, rest, o6, o7, o8, er, ei, rfl, e3, e4⟩ kN
      cases rest with
      | nil => cases ei
      | cons c rest =>
        simp only [List.map_cons, List.cons.injEq] at ei
        obtain ⟨rfl, rfl⟩ := ei
        have hc : c ∈ dd.ps := by rw [er]; simp
        have okc := ok.po c hc
        simp [placeD, s_tyL _ _ _ e3, s_strN okc.1.2]
        refine ⟨c.2.2, rfl, okc.2, fun A2 e5 => ?_⟩
        simp
        refine fun p9 hp9 => ?_
        have hst : strsOf [.str (Str.ofString "place"), .str (srt c.1), .str (S (TL.numL c.2.1)), .str (S (rsW c.2.2))] = some ((tl (placeL c).h :: (placeL c).ws).map S) := by
          simp [strsOf, placeL, tick]
        have hfit := join_fit (b := 40000) (ps := tl (placeL c).h :: (placeL c).ws) (by
          have := num_len okc.1.2
          have := rsW_len okc.2
          have e1 : (tl (Str.ofString "place")).length = 5 := by decide +kernel
          have e2 : (srt c.1).cps.size ≤ 4 := by cases c.1 <;> decide +kernel
          simp [placeL, e1]
          omega) (by simp [placeL]) 1 (Nat.le_refl _)
        rw [Nat.mul_one] at hfit
        rw [hst, s_onS, join_S]
        have e6 := e5 _ _ e3
        have e7 : q ≠ p9 := AH.ne e6 hp9
        refine ⟨hfit, ?_⟩
        rw [s_append _ (ys := (founderL dd :: termsL dd :: done.map placeL).map lnS) _ _ _ (by rw [AH.upd_ne e7]; exact e6)]
        have hdl : done.length + (rest.length + 1) = dd.ps.length := by rw [er]; simp
        have hp8 := ok.pn.2
        refine ⟨Nat.lt_of_le_of_lt (show _ ≤ 20 by simp; omega) (Nat.lt_of_lt_of_le (by omega) (big (n := 30))), kN _ _ ⟨done ++ [c], rest, _, _, _, by simp [er], rfl, rfl, ?_, ?_⟩⟩
        · rw [AH.upd_same]
          simp [lnS, Ln.w]
        · intro a o ha
          have h1 := e5 _ _ (e4 _ _ ha)
          have h2 : a ≠ q := fun z => by rw [z, hAq] at ha; cases ha
          rw [AH.upd_ne h2, AH.upd_ne (AH.ne h1 hp9)]
          exact h1
    · rintro st A' ⟨done, rest, o6, o7, o8, er, ei, rfl, e3, e4⟩
      cases rest with
      | cons c rest => cases ei
      | nil =>
      rw [List.append_nil] at er
      subst er
      simp
      refine for_ok (fun items st A' => ∃ (done rest : List Seat) (o9 o10 o11 : Option D), dd.ss = done ++ rest ∧ items = rest.map seatD ∧
        st = [some dd.d, some (.ref q), some (.str (S dd.f)), some (.tup (dd.ps.map placeD)), some (.tup (dd.ss.map seatD)), some (.tup [.int (dd.t1 : Nat), .int (dd.t2 : Nat), .int (dd.t3 : Nat), .int (dd.t4 : Nat)]), o6, o7, o8, o9, o10, o11] ∧
        A' q = some (.lst ((founderL dd :: termsL dd :: (dd.ps.map placeL ++ done.map seatL)).map lnS)) ∧ AExt A A') (fun _ _ _ _ => trivial) ?_ ?_ _ _ _ ⟨[], dd.ss, none, none, none, rfl, rfl, rfl, by rw [e3]; simp, e4⟩
      · rintro x xs st A' N ⟨done, rest, o6, o7, o8, er, ei, rfl, e3, e4⟩ kN
        cases rest with
        | nil => cases ei
        | cons c rest =>
          simp only [List.map_cons, List.cons.injEq] at ei
          obtain ⟨rfl, rfl⟩ := ei
          have hc : c ∈ dd.ss := by rw [er]; simp
          have okc := ok.so c hc
          simp [seatD, s_tyL _ _ _ e3, s_strN okc.2.2]
          refine fun p9 hp9 => ?_
          have hst : strsOf [.str (Str.ofString "seat"), .str (S c.1), .str (S (TL.numL c.2))] = some ((tl (seatL c).h :: (seatL c).ws).map S) := by
            simp [strsOf, seatL, tick]
          have hfit := join_fit (b := 40000) (ps := tl (seatL c).h :: (seatL c).ws) (by
            have := num_len okc.2.2
            have := isW_len okc.1
            have e1 : (tl (Str.ofString "seat")).length = 4 := by decide +kernel
            simp [seatL, e1]
            omega) (by simp [seatL]) 1 (Nat.le_refl _)
          rw [Nat.mul_one] at hfit
          rw [hst, s_onS, join_S]
          have e7 : q ≠ p9 := AH.ne e3 hp9
          refine ⟨hfit, ?_⟩
          rw [s_append _ (ys := (founderL dd :: termsL dd :: (dd.ps.map placeL ++ done.map seatL)).map lnS) _ _ _ (by rw [AH.upd_ne e7]; exact e3)]
          have hdl : done.length + (rest.length + 1) = dd.ss.length := by rw [er]; simp
          have hp8 := ok.pn.2
          have hs8 := ok.sn.2
          refine ⟨Nat.lt_of_le_of_lt (show _ ≤ 22 by simp; omega) (Nat.lt_of_lt_of_le (by omega) (big (n := 30))), kN _ _ ⟨done ++ [c], rest, _, _, _, by simp [er], rfl, rfl, ?_, ?_⟩⟩
          · rw [AH.upd_same]
            simp [lnS, Ln.w]
          · intro a o ha
            have h1 := e4 _ _ ha
            have h2 : a ≠ q := fun z => by rw [z, hAq] at ha; cases ha
            rw [AH.upd_ne h2, AH.upd_ne (AH.ne h1 hp9)]
            exact h1
      · rintro st A' ⟨done, rest, o9, o10, o11, er, ei, rfl, e3, e4⟩
        cases rest with
        | cons c rest => cases ei
        | nil =>
        rw [List.append_nil] at er
        subst er
        simp
        exact k A' q e4 hAq e3
end K82

/-! the law's own deed_lines -/
namespace K82
open PySem PySem.Spec PyProof.Rows L2 PD SX

def F__law_deed_lines := F_deed_lines
abbrev sp__law_deed_lines : DSp := sp1 F__law_deed_lines
def t__law_deed_lines : DTS := dSeq (dAsg (dLst (dCons (dOp opAdd (dC (.str "founder ")) (dOp opIx (dVar 0) (dC (.int 0)))) (dCons (dOp opAdd (dC (.str "terms ")) (dM "str" mJoin (dC (.str " ")) (dCons (dLc (iSeq (dOp opIx (dVar 0) (dC (.int 3)))) (dgName 7) (dYes) (dCB cStr (dCons (dVar 7) (dNil))) [7]) (dNil)))) (dNil)))) (dgName 1)) (dSeq (dAsg (dOp opAdd (dVar 1) (dLc (iSeq (dOp opIx (dVar 0) (dC (.int 1)))) (dgTup 3 (dgCons (dgName 2) (dgCons (dgName 3) (dgCons (dgName 4) (dgNil))))) (dYes) (dOp opAdd (dOp opAdd (dOp opAdd (dOp opAdd (dOp opAdd (dC (.str "place ")) (dVar 2)) (dC (.str " "))) (dCB cStr (dCons (dVar 3) (dNil)))) (dC (.str " "))) (dCall sp__law_rules_word (dCons (dVar 4) (dNil)))) [2, 3, 4])) (dgName 1)) (dRet (dOp opAdd (dVar 1) (dLc (iSeq (dOp opIx (dVar 0) (dC (.int 2)))) (dgTup 2 (dgCons (dgName 5) (dgCons (dgName 6) (dgNil)))) (dYes) (dOp opAdd (dOp opAdd (dOp opAdd (dC (.str "seat ")) (dVar 5)) (dC (.str " "))) (dCB cStr (dCons (dVar 6) (dNil)))) [5, 6]))))
theorem place_txt (c : Place) : (((Str.ofString "place " ++ srt c.1) ++ S [32]) ++ S (TL.numL c.2.1)) ++ S [32] ++ S (rsW c.2.2) = S (placeL c).w := by
  rw [tl_app (Str.ofString "place ") (srt c.1), S_cat, S_cat, S_cat, S_cat, show tl (Str.ofString "place ") = tl (Str.ofString "place") ++ [32] by decide +kernel]
  simp [Ln.w, placeL, TL.joinL]
theorem seat_txt (c : Seat) : ((Str.ofString "seat " ++ S c.1) ++ S [32]) ++ S (TL.numL c.2) = S (seatL c).w := by
  rw [tl_app (Str.ofString "seat ") (S c.1), S_cat, S_cat, show tl (Str.ofString "seat ") = tl (Str.ofString "seat") ++ [32] by decide +kernel]
  simp [Ln.w, seatL, TL.joinL]
theorem terms_txt (dd : Deed) : Str.ofString "terms " ++ S (TL.joinL [32] [TL.numL dd.t1, TL.numL dd.t2, TL.numL dd.t3, TL.numL dd.t4]) = S (termsL dd).w := by
  rw [tl_app, show tl (Str.ofString "terms ") = tl (Str.ofString "terms") ++ [32] by decide +kernel]
  simp [Ln.w, termsL, TL.joinL]
theorem len_app (x y : Str) : (x ++ y).length = x.length + y.length := by
  rw [TL.len_tl, TL.tl_append, List.length_append, ← TL.len_tl, ← TL.len_tl]
theorem r__law_deed_lines : ∀ x A Q, F__law_deed_lines x A Q → t__law_deed_lines { nx := fun _ A' => Q .non A', rt := Q } (some x :: List.replicate 7 none) A := by
  rintro _ A Q ⟨dd, rfl, ok, k⟩
  have lf := isW_len ok.f
  simp only [t__law_deed_lines, s_seq, s_asg, s_op, s_sl, s_var, s_c, s_noPart, s_part, List.replicate]
  rw [show dd.d = .tup [.str (S dd.f), .tup (dd.ps.map placeD), .tup (dd.ss.map seatD), .tup [.int (dd.t1 : Nat), .int (dd.t2 : Nat), .int (dd.t3 : Nat), .int (dd.t4 : Nat)]] from rfl]
  have h8 : (Str.ofString "founder ").length = 8 := by decide +kernel
  have h6 : (Str.ofString "terms ").length = 6 := by decide +kernel
  have hz8 : 8 + dd.f.length ≤ sizeLine := big
  have hps := ok.pn
  have hss := ok.sn
  simp [fl_eq, blank, h8, hz8]
  refine fun p2 hp2 => comp_map numW _ _ hp2 (by simp) (fun _ _ => trivial) ?_ ?_
  · intro x A1 Z hx e1 kz
    simp only [List.mem_cons, List.not_mem_nil, or_false] at hx
    rcases hx with rfl | rfl | rfl | rfl
    · simp [s_strN ok.a.2]; exact kz _ (.refl _)
    · simp [s_strN ok.b.2]; exact kz _ (.refl _)
    · simp [s_strN ok.c]; exact kz _ (.refl _)
    · simp [s_strN ok.e.2]; exact kz _ (.refl _)
  · intro A1 e1 ea
    have hst : strsOf ([.int (dd.t1 : Nat), .int (dd.t2 : Nat), .int (dd.t3 : Nat), .int (dd.t4 : Nat)].map numW) = some ([TL.numL dd.t1, TL.numL dd.t2, TL.numL dd.t3, TL.numL dd.t4].map S) := by
      simp [strsOf, numW]
    have hln : ∀ p ∈ [TL.numL dd.t1, TL.numL dd.t2, TL.numL dd.t3, TL.numL dd.t4], p.length ≤ 12 := by
      have := num_len ok.a.2
      have := num_len ok.b.2
      have := num_len ok.c
      have := num_len ok.e.2
      simp
      omega
    have hfit := join_fit (b := 12) (ps := [TL.numL dd.t1, TL.numL dd.t2, TL.numL dd.t3, TL.numL dd.t4]) hln (by simp) 1 (Nat.le_refl _)
    have hjl := join_len (c := 32) (b := 12) (ps := [TL.numL dd.t1, TL.numL dd.t2, TL.numL dd.t3, TL.numL dd.t4]) hln
    have hjl2 : (TL.joinL [32] [TL.numL dd.t1, TL.numL dd.t2, TL.numL dd.t3, TL.numL dd.t4]).length ≤ 52 := hjl
    simp only [s_tyS, s_join, ea, s_seqF, s_seqL, s_onS, hst, join_S, S_len2, List.length_singleton, true_and, s_addS, terms_txt, h6]
    refine ⟨hfit, big, fun q hq => ?_⟩
    have hq1 : A q = none := by
      cases h : A q with
      | none => rfl
      | some o =>
        rw [e1 q o h] at hq
        cases hq
    refine fun p3 hp3 => comp_mapA placeD (fun c => lnS (placeL c)) dd.ps _ hp3 (by exact big) (fun _ _ => trivial) ?_ ?_
    · intro c A2 Z hc e2 kz
      have okc := ok.po c hc
      have hl1 := num_len okc.1.2
      have hl2 := rsW_len okc.2
      have e7 : (Str.ofString "place ").length = 6 := by decide +kernel
      have e8 : (srt c.1).length ≤ 4 := by cases c.1 <;> decide +kernel
      have e9 : (Str.ofString "place " ++ srt c.1).length ≤ 10 := by rw [len_app]; omega
      have e10 : (Str.ofString "place " ++ srt c.1 ++ S [32]).length ≤ 11 := by rw [len_app, S_len [32], List.length_singleton]; omega
      have e11 : (Str.ofString "place " ++ srt c.1 ++ S [32] ++ S (TL.numL c.2.1)).length ≤ 23 := by rw [len_app, S_len (TL.numL c.2.1)]; omega
      have e12 : (Str.ofString "place " ++ srt c.1 ++ S [32] ++ S (TL.numL c.2.1) ++ S [32]).length ≤ 24 := by rw [len_app, S_len [32], List.length_singleton]; omega
      simp only [s_step, placeD, s_gTup, s_gCons, s_gName, s_gNil, s_yes, if_true, s_op, s_c, s_var, s_cb, s_cons, s_nil, List.length_cons, List.length_nil]
      simp [s_strN okc.1.2]
      refine ⟨big (by omega), big (by omega), big (by omega), big (by omega), c.2.2, rfl, okc.2, fun A3 e3 => ⟨big (by rw [S_len (rsW c.2.2)]; omega), ?_⟩⟩
      rw [place_txt]
      exact kz A3 e3
    · intro A2 e2 ea2
      have eq2 := e2 _ _ (AH.upd_same (a := q))
      simp only [s_addL _ _ _ _ _ _ eq2 ea2]
      refine ⟨by simp; exact big, fun p4 hp4 => ?_⟩
      simp
      refine fun p5 hp5 => comp_mapA seatD (fun c => lnS (seatL c)) dd.ss _ hp5 (by exact big) (fun _ _ => trivial) ?_ ?_
      · intro c A3 Z hc e3 kz
        have okc := ok.so c hc
        have hl1 := num_len okc.2.2
        have hl2 := isW_len okc.1
        have e7 : (Str.ofString "seat ").length = 5 := by decide +kernel
        have e9 : (Str.ofString "seat " ++ S c.1).length ≤ 13 := by rw [len_app, S_len c.1]; omega
        have e10 : (Str.ofString "seat " ++ S c.1 ++ S [32]).length ≤ 14 := by rw [len_app, S_len [32], List.length_singleton]; omega
        simp only [s_step, seatD, s_gTup, s_gCons, s_gName, s_gNil, s_yes, if_true, s_op, s_c, s_var, s_cb, s_cons, s_nil, List.length_cons, List.length_nil]
        simp [s_strN okc.2.2]
        refine ⟨big (by omega), big (by omega), big (by omega), ?_⟩
        rw [seat_txt]
        exact kz _ (.refl _)
      · intro A3 e3 ea3
        have ep4 := e3 _ _ (AH.upd_same (a := p4))
        simp only [s_addL _ _ _ _ _ _ ep4 ea3]
        refine ⟨by simp; exact big, fun p6 hp6 => ?_⟩
        have hall : AExt A A3 := fun a o ha => by
          have h1 := e1 a o ha
          have h2 := e2 a o (by rw [AH.upd_ne (AH.ne ha hq1)]; exact h1)
          exact e3 a o (by rw [AH.upd_ne (AH.ne h2 hp4)]; exact h2)
        have h6 : A p6 = none := by
          cases h : A p6 with
          | none => rfl
          | some o =>
            rw [hall _ _ h] at hp6
            cases hp6
        refine k _ p6 (hall.trans (.new hp6)) h6 ?_
        rw [AH.upd_same]
        simp [Deed.ls, lnS]
        rfl
end K82

/-! read_deed -/
namespace K82
open PySem PySem.Spec PyProof.Rows L2 PD SX

def F_read_deed (x : D) (A : AH) (Q : DK) : Prop := ∃ (p : Addr) (dd : Deed), x = .ref p ∧ A p = some (.lst (dd.ls.map lnS)) ∧ dd.Ok ∧ ∀ A', AExt A A' → Q dd.d A'
abbrev sp_read_deed : DSp := sp1 F_read_deed
def t_read_deed : DTS := dSeq (dAsg (dLst (dNil)) (dgName 1)) (dSeq (dFor (iEnumL (dCons (dVar 0) (dNil))) (dgTup 2 (dgCons (dgName 4) (dgCons (dgName 5) (dgNil)))) (dDrop (dM "list" mAppend (dVar 1) (dCons (dCall sp_line_in (dCons (dVar 4) (dCons (dVar 5) (dCons (dCall sp_heads_behind (dCons (dVar 1) (dNil))) (dNil))))) (dNil))))) (dSeq (dIfS (dOr (dTest (dOp (opEq) (dVar 1) (dLst (dNil)))) (dTest (dOp (opNe) (dOp opIx (dOp opIx (dVar 1) (dUn unNeg (dC (.int 1)))) (dC (.int 0))) (dC (.str "seat"))))) (dNever) (dNext)) (dSeq (dAsg (dCB cTuple (dCons (dLc (iSeq (dVar 1)) (dgName 6) (dTest (dOp (opEq) (dOp opIx (dVar 6) (dC (.int 0))) (dC (.str "place")))) (dSl (dVar 6) (dPart (dC (.int 1))) (dNoPart)) [6]) (dNil))) (dgName 2)) (dSeq (dAsg (dCB cTuple (dCons (dLc (iSeq (dVar 1)) (dgName 6) (dTest (dOp (opEq) (dOp opIx (dVar 6) (dC (.int 0))) (dC (.str "seat")))) (dSl (dVar 6) (dPart (dC (.int 1))) (dNoPart)) [6]) (dNil))) (dgName 3)) (dRet (dTup (dCons (dOp opIx (dOp opIx (dVar 1) (dC (.int 0))) (dC (.int 1))) (dCons (dVar 2) (dCons (dVar 3) (dCons (dSl (dOp opIx (dVar 1) (dC (.int 1))) (dPart (dC (.int 1))) (dNoPart)) (dNil)))))))))))
theorem seat_ne_place : Str.ofString "place" ≠ Str.ofString "seat" := by decide +kernel
theorem pw_heads (ps : List Place) (ss : List Seat) : (ps.map placeL ++ ss.map seatL).Pairwise fun a b => a.h = Str.ofString "seat" → b.h = Str.ofString "seat" := by
  rw [List.pairwise_append]
  refine ⟨?_, ?_, ?_⟩
  · rw [List.pairwise_map]
    exact List.Pairwise.imp (R := fun _ _ => True) (fun _ h => absurd h seat_ne_place) (by simp [List.pairwise_iff_getElem])
  · rw [List.pairwise_map]
    exact List.Pairwise.imp (R := fun _ _ => True) (fun _ _ => rfl) (by simp [List.pairwise_iff_getElem])
  · intro a ha b hb _
    obtain ⟨x, _, rfl⟩ := List.mem_map.mp hb
    rfl
theorem heads_ok {dd : Deed} (ok : dd.Ok) {done rest : List Ln} {l : Ln} (h : dd.ls = done ++ l :: rest) : l.h ∈ headsD done := by
  unfold Deed.ls at h
  match done, h with
  | [], h =>
    cases h
    exact List.mem_singleton.mpr rfl
  | [a], h =>
    simp at h
    rw [← h.2.1]
    exact List.mem_singleton.mpr rfl
  | [a, b], h =>
    simp at h
    obtain ⟨_, _, h⟩ := h
    cases q : dd.ps with
    | nil =>
      have := ok.pn.1
      rw [q] at this
      simp at this
    | cons x xs =>
      rw [q] at h
      simp at h
      rw [← h.1]
      exact List.mem_singleton.mpr rfl
  | a :: b :: c :: r, h =>
    simp only [List.cons_append, List.cons.injEq] at h
    obtain ⟨_, _, h⟩ := h
    obtain ⟨m, z, ez⟩ : ∃ m z, c :: r = m ++ [z] := ⟨(c :: r).dropLast, (c :: r).getLast (by simp), (List.dropLast_concat_getLast (by simp)).symm⟩
    have h2 : dd.ps.map placeL ++ dd.ss.map seatL = m ++ z :: l :: rest := by
      rw [h, show c :: (r ++ l :: rest) = (c :: r) ++ l :: rest from rfl, ez]
      simp
    have pw := pw_heads dd.ps dd.ss
    rw [h2, List.pairwise_append] at pw
    have hzl := (List.pairwise_cons.mp pw.2.1).1 l List.mem_cons_self
    have hz : headsD (a :: b :: c :: r) = if z.h = Str.ofString "seat" then [Str.ofString "seat"] else [Str.ofString "place", Str.ofString "seat"] := by
      show (if ((a :: b :: c :: r).getLast?.map (·.h)) = some (Str.ofString "seat") then [Str.ofString "seat"] else [Str.ofString "place", Str.ofString "seat"]) = _
      rw [show a :: b :: c :: r = (a :: b :: m) ++ [z] by rw [ez]; rfl]
      generalize a :: b :: m = M
      simp
    rw [hz]
    by_cases hs : z.h = Str.ofString "seat"
    · rw [if_pos hs, hzl hs]
      exact List.mem_singleton.mpr rfl
    · rw [if_neg hs]
      have hm : l ∈ dd.ps.map placeL ++ dd.ss.map seatL := by
        rw [h2]
        simp
      rcases List.mem_append.mp hm with hm | hm
      · obtain ⟨x, _, rfl⟩ := List.mem_map.mp hm
        exact List.mem_cons_self
      · obtain ⟨x, _, rfl⟩ := List.mem_map.mp hm
        exact List.mem_cons_of_mem _ List.mem_cons_self
def gPl (hd : Str) (l : Ln) : Option D := if l.h = hd then some (.tup l.ds) else none
theorem ls_places (dd : Deed) : dd.ls.filterMap (gPl (Str.ofString "place")) = dd.ps.map placeD := by
  have n1 : (Str.ofString "founder" = Str.ofString "place") = False := eq_false (by decide +kernel)
  have n2 : (Str.ofString "terms" = Str.ofString "place") = False := eq_false (by decide +kernel)
  have n3 : (Str.ofString "seat" = Str.ofString "place") = False := eq_false (by decide +kernel)
  unfold Deed.ls
  rw [List.filterMap_cons, List.filterMap_cons, List.filterMap_append, List.filterMap_map, List.filterMap_map]
  have e1 : (gPl (Str.ofString "place") ∘ placeL) = fun x => some (placeD x) := by
    funext x
    simp [gPl, placeL, placeD]
  have e2 : (gPl (Str.ofString "place") ∘ seatL) = fun x => none := by
    funext x
    simp [gPl, seatL, n3]
  rw [e1, e2]
  simp [gPl, founderL, termsL, n1, n2]
theorem ls_seats (dd : Deed) : dd.ls.filterMap (gPl (Str.ofString "seat")) = dd.ss.map seatD := by
  have n1 : (Str.ofString "founder" = Str.ofString "seat") = False := eq_false (by decide +kernel)
  have n2 : (Str.ofString "terms" = Str.ofString "seat") = False := eq_false (by decide +kernel)
  have n3 : (Str.ofString "place" = Str.ofString "seat") = False := eq_false (by decide +kernel)
  unfold Deed.ls
  rw [List.filterMap_cons, List.filterMap_cons, List.filterMap_append, List.filterMap_map, List.filterMap_map]
  have e1 : (gPl (Str.ofString "seat") ∘ seatL) = fun x => some (seatD x) := by
    funext x
    simp [gPl, seatL, seatD]
  have e2 : (gPl (Str.ofString "seat") ∘ placeL) = fun x => none := by
    funext x
    simp [gPl, placeL, n3]
  rw [e1, e2]
  simp [gPl, founderL, termsL, n1, n2]
/-- numbered from k on -/
def enumK (k : Nat) (ls : List Ln) : List D := (ls.map lnS).zipIdx k |>.map fun p => .tup [.int (p.2 : Nat), p.1]
theorem r_read_deed : ∀ x A Q, F_read_deed x A Q → t_read_deed { nx := fun _ A' => Q .non A', rt := Q } (some x :: List.replicate 6 none) A := by
  rintro _ A Q ⟨p, dd, rfl, ep, ok, k⟩
  have lok := ls_ok ok
  have hln := ls_len dd
  have hps := ok.pn
  have hss := ok.sn
  have hfl : FitL (dd.ls.map Ln.d) 5 (20 * 12001) := (FitL.all (a := 5) (b := 12000) fun d hd => by
    obtain ⟨l, hl, rfl⟩ := List.mem_map.mp hd
    exact (lok l hl).fit).mono (Nat.le_refl _) (by rw [List.length_map]; omega)
  simp only [t_read_deed, s_seq, s_asg, s_op, s_sl, s_var, s_c, s_noPart, s_part, List.replicate]
  simp [ep]
  refine fun q hq => ?_
  have hpq : p ≠ q := AH.ne ep hq
  rw [AH.upd_ne hpq, ep, s_seqL, s_onS]
  refine for_ok (fun items st A' => ∃ (done rest : List Ln) (o2 o3 o4 o5 o6 : Option D), dd.ls = done ++ rest ∧ items = enumK done.length rest ∧ st = [some (.ref p), some (.ref q), none, none, o4, o5, none] ∧
    A' q = some (.lst (done.map Ln.d)) ∧ AExt A A') ?_ ?_ ?_ _ _ _ ⟨[], dd.ls, none, none, none, none, none, rfl, rfl, rfl, AH.upd_same, .new hq⟩
  · rintro xs st A' ⟨done, rest, o2, o3, o4, o5, o6, _, _, _, _, e5⟩
    rw [e5 _ _ ep]
    rfl
  · rintro x xs st A' N ⟨done, rest, o2, o3, o4, o5, o6, er, ei, rfl, e3, e4⟩ kN
    cases rest with
    | nil => cases ei
    | cons l rest =>
      have ei2 : x = .tup [.int (done.length : Nat), lnS l] ∧ xs = enumK (done.length + 1) rest := by
        simp only [enumK, List.map_cons, List.zipIdx_cons, List.cons.injEq] at ei
        exact ei
      obtain ⟨rfl, rfl⟩ := ei2
      have hl : l ∈ dd.ls := by rw [er]; simp
      have hdl : done.length + (rest.length + 1) = dd.ls.length := by rw [er]; simp
      simp [s_tyL _ _ _ e3]
      refine ⟨q, done, rfl, e3, by omega, fun A2 e5 => ?_⟩
      simp
      refine ⟨l, headsD done, rfl, rfl, heads_ok ok er, lok l hl, fun A3 e6 => ?_⟩
      have eq3 := e6 _ _ (e5 _ _ e3)
      show mAppend (.ref q) [l.d] A3 _
      rw [s_append _ _ _ _ _ eq3]
      refine ⟨Nat.lt_of_le_of_lt (show _ ≤ 22 by simp; omega) (Nat.lt_of_lt_of_le (by omega) (big (n := 30))), kN _ _ ⟨done ++ [l], rest, none, none, _, _, none, by simp [er], by simp, rfl, ?_, ?_⟩⟩
      · rw [AH.upd_same]
        simp
      · intro a o ha
        rw [AH.upd_ne (AH.ne ha hq)]
        exact e6 _ _ (e5 _ _ (e4 _ _ ha))
  · rintro st A' ⟨done, rest, o2, o3, o4, o5, o6, er, ei, rfl, e3, e4⟩
    cases rest with
    | cons c rest => cases ei
    | nil =>
    rw [List.append_nil] at er
    subst er
    obtain ⟨m, z, ez⟩ : ∃ m z, dd.ss = m ++ [z] := ⟨dd.ss.dropLast, dd.ss.getLast (by intro e; rw [e] at hss; simp at hss), (List.dropLast_concat_getLast _).symm⟩
    have hat : atI (dd.ls.map Ln.d) (-1) = some (seatL z).d := by
      unfold Deed.ls
      rw [ez, List.map_append, List.map_singleton, ← List.append_assoc, ← List.cons_append, ← List.cons_append, List.map_append]
      exact atI_last _ _
    simp
    refine fun q2 hq2 => ?_
    have e5 : A'.upd q2 (.lst []) q = some (.lst (dd.ls.map Ln.d)) := by rw [AH.upd_ne (AH.ne e3 hq2)]; exact e3
    refine eq_nil (ds := dd.ls.map Ln.d) e5 AH.upd_same hfl (by omega) ?_
    have e6 : (dd.ls.map Ln.d).isEmpty = false := by
      unfold Deed.ls
      rfl
    simp only [e6, id, onB_bl, s_var, s_c]
    simp [e5, hat]
    rw [show (seatL z).d = .tup [.str (Str.ofString "seat"), .str (S z.1), .int (z.2 : Nat)] from rfl]
    simp [e5]
    have step : ∀ (hd : Str) (ds : DSt) (A0 : AH) (p9 : Addr) (Q9 : DK), A0 p9 = none → A0 q = some (.lst (dd.ls.map Ln.d)) → (∀ A9, AExt A0 A9 → A9 p9 = some (.lst (dd.ls.filterMap (gPl hd))) → Q9 (.ref p9) A9) →
        compL (fun A => seqA (A q) = some (dd.ls.map Ln.d)) (stepL (dgName 6) (dTest (dOp opEq (dOp opIx (dVar 6) (dC (.int 0))) (dC (.str hd)))) (dSl (dVar 6) (dPart (dC (.int 1))) dNoPart) [some (.ref p), some (.ref q), ds.getD 0 none, ds.getD 1 none, ds.getD 2 none, ds.getD 3 none, none]) p9 Q9 (dd.ls.map Ln.d) (A0.upd p9 (.lst [])) := by
      intro hd ds A0 p9 Q9 h9 hq9 hend
      refine comp_filtA Ln.d (gPl hd) dd.ls A0 h9 (big (by omega)) (fun A9 e9 => ?_) ?_ hend
      · rw [e9 _ _ hq9]
        rfl
      · intro l A9 Z hl e9 kz
        simp [Ln.d]
        by_cases c : l.h = hd
        · have := kz A9 (.refl _)
          simp [gPl, c] at this
          simpa [c] using this
        · have := kz A9 (.refl _)
          simp [gPl, c] at this
          simpa [c] using this
    refine fun p9 hp9 => step (Str.ofString "place") [none, none, o4, o5] _ p9 _ hp9 e5 fun A9 e9 ea9 => ?_
    rw [ls_places] at ea9
    have eq9 := e9 _ _ e5
    simp [ea9, eq9]
    refine fun p8 hp8 => step (Str.ofString "seat") [some (.tup (dd.ps.map placeD)), none, o4, o5] _ p8 _ hp8 eq9 fun A8 e8 ea8 => ?_
    rw [ls_seats] at ea8
    have eq8 := e8 _ _ eq9
    have h0 : dd.ls.map Ln.d = (founderL dd).d :: (termsL dd).d :: (dd.ps.map placeL ++ dd.ss.map seatL).map Ln.d := rfl
    rw [h0] at eq8
    simp [ea8, eq8]
    rw [show (founderL dd).d = .tup [.str (Str.ofString "founder"), .str (S dd.f)] from rfl]
    simp [eq8]
    rw [show (termsL dd).d = .tup [.str (Str.ofString "terms"), .int (dd.t1 : Nat), .int (dd.t2 : Nat), .int (dd.t3 : Nat), .int (dd.t4 : Nat)] from rfl]
    simp
    exact k A8 (e4.trans ((AExt.new hq2).trans (e9.trans e8)))
end K82

/-! what the law draws -/
namespace K82
open PySem PySem.Spec PyProof.Rows L2 PD SX

/-- one of a few, at a place that is drawn -/
theorem at_mem {xs : List D} {i : Int} (h0 : 0 ≤ i) (h1 : i < xs.length) : ∃ d ∈ xs, atI xs i = some d := by
  obtain ⟨j, rfl⟩ : ∃ j : Nat, i = j := ⟨i.toNat, by omega⟩
  have hj : j < xs.length := by omega
  exact ⟨xs[j], List.getElem_mem hj, atI_nat (List.getElem?_eq_getElem hj)⟩
theorem pick {xs : List D} {i : Int} {P : D → Prop} (h0 : 0 ≤ i) (h1 : i < xs.length) (k : ∀ d ∈ xs, P d) : onS (atI xs i) P := by
  obtain ⟨d, hd, e⟩ := at_mem h0 h1
  rw [e]
  exact k d hd
theorem pickR {xs : List D} {p : Addr} {i : Int} {A : AH} {Q : DK} (e : A p = some (.lst xs)) (h0 : 0 ≤ i) (h1 : i < xs.length) (k : ∀ d ∈ xs, Q d A) : opIx (.ref p) (.int i) A Q := by
  rw [s_ixR, e]
  exact pick h0 h1 k
theorem _root_.PD.Feed.new {f s : Addr} {l : List Int} {c : Nat} {A : AH} {p : Addr} {o : AO} (h : Feed f s l c A) (hp : A p = none) : Feed f s l c (A.upd p o) := h.upd (h.ne1 hp) (h.ne2 hp)
theorem extNew {f p : Addr} {A : AH} {o : AO} (hp : A p = none) : AExtB (· = f) A (A.upd p o) := (AExt.new hp).b
def DrawF (cost : Nat) (G : D → Prop) (x : D) (A : AH) (Q : DK) : Prop := ∃ f s l c, x = .ref f ∧ Feed f s l c A ∧ c + cost ≤ 1000000 ∧ ∀ d A', AExtB (· = f) A A' → Feed f s l (c + cost) A' → G d → Q d A'

def LitG (d : D) : Prop := ∃ l : Lit, d = l.d ∧ l.ok = true
def okT (d : D) : Prop := ∃ ws, d = .tup ((ws.map S).map D.str) ∧ okws ws = true
theorem okT_of (zs : List Str) (h : okws (zs.map tl) = true) : okT (.tup (zs.map D.str)) := ⟨zs.map tl, by rw [List.map_map, List.map_map]; congr 1, h⟩
theorem litG_plc {k : Str} {t : D} (h : okT t) (hk : k = Str.ofString "town" ∨ k = Str.ofString "out") : LitG (.tup [.str k, t]) := by
  obtain ⟨ws, rfl, h⟩ := h
  rcases hk with rfl | rfl
  · exact ⟨.plc false ws, rfl, h⟩
  · exact ⟨.plc true ws, rfl, h⟩
theorem litG_tie {k : Str} {n : Int} (h0 : 0 ≤ n) (h1 : n < 1000000) (hk : k = Str.ofString "kin" ∨ k = Str.ofString "far") : LitG (.tup [.str k, .int n]) := by
  obtain ⟨j, rfl⟩ : ∃ j : Nat, n = j := ⟨n.toNat, by omega⟩
  rcases hk with rfl | rfl
  · exact ⟨.tie false j, rfl, by simp [Lit.ok]; omega⟩
  · exact ⟨.tie true j, rfl, by simp [Lit.ok]; omega⟩
theorem litG_age {n : Int} {d : D} (h0 : 0 ≤ n) (h1 : n < 1000000) (hd : d = .non ∨ ∃ m : Int, d = .int m ∧ n < m ∧ m < 2000000) : LitG (.tup [.str (Str.ofString "age"), .int n, d]) := by
  obtain ⟨j, rfl⟩ : ∃ j : Nat, n = j := ⟨n.toNat, by omega⟩
  rcases hd with rfl | ⟨m, rfl, h2, h3⟩
  · exact ⟨.age j none, rfl, by simp [Lit.ok]; omega⟩
  · obtain ⟨m', rfl⟩ : ∃ m' : Nat, m = m' := ⟨m.toNat, by omega⟩
    exact ⟨.age j (some m'), rfl, by simp [Lit.ok]; omega⟩
def F__law_literal := DrawF 4 LitG
abbrev sp__law_literal : DSp := sp1 F__law_literal
def t__law_literal : DTS := dSeq (dAsg (dCall sp__law_draw (dCons (dVar 0) (dCons (dC (.int 5)) (dNil)))) (dgName 1)) (dSeq (dIfS (dTest (dOp (opLt) (dVar 1) (dC (.int 2)))) (dSeq (dAsg (dOp opIx (dLst (dCons (dTup (dCons (dC (.str "ely")) (dNil))) (dCons (dTup (dCons (dC (.str "ely")) (dCons (dC (.str "york")) (dNil)))) (dCons (dTup (dCons (dC (.str "york")) (dNil))) (dCons (dTup (dCons (dC (.str "bath")) (dCons (dC (.str "ely")) (dNil)))) (dNil)))))) (dCall sp__law_draw (dCons (dVar 0) (dCons (dC (.int 4)) (dNil))))) (dgName 2)) (dRet (dTup (dCons (dOp opIx (dLst (dCons (dC (.str "town")) (dCons (dC (.str "out")) (dNil)))) (dVar 1)) (dCons (dVar 2) (dNil)))))) (dNext)) (dSeq (dIfS (dTest (dOp (opEq) (dVar 1) (dC (.int 2)))) (dSeq (dAsg (dOp opAdd (dC (.int 30)) (dCall sp__law_draw (dCons (dVar 0) (dCons (dC (.int 40)) (dNil))))) (dgName 3)) (dRet (dTup (dCons (dC (.str "age")) (dCons (dVar 3) (dCons (dOp opIx (dLst (dCons (dC .non) (dCons (dOp opAdd (dOp opAdd (dVar 3) (dC (.int 1))) (dCall sp__law_draw (dCons (dVar 0) (dCons (dC (.int 30)) (dNil))))) (dNil)))) (dCall sp__law_draw (dCons (dVar 0) (dCons (dC (.int 2)) (dNil))))) (dNil))))))) (dNext)) (dRet (dTup (dCons (dOp opIx (dLst (dCons (dC (.str "kin")) (dCons (dC (.str "far")) (dNil)))) (dOp opSub (dVar 1) (dC (.int 3)))) (dCons (dCall sp__law_draw (dCons (dVar 0) (dCons (dC (.int 4)) (dNil)))) (dNil)))))))
theorem r__law_literal : ∀ x A Q, F__law_literal x A Q → t__law_literal { nx := fun _ A' => Q .non A', rt := Q } (some x :: List.replicate 3 none) A := by
  rintro _ A Q ⟨f, s, l, c, rfl, F, hc, k⟩
  simp only [t__law_literal, s_seq, s_asg, s_op, s_sl, s_var, s_c, s_noPart, s_part, List.replicate]
  simp
  refine draw_use F (by omega) (by omega) (by omega) fun A1 i h0 h1 e1 F1 => ?_
  simp
  by_cases c2 : i < 2
  · simp [c2]
    refine fun p hp => draw_use (F1.new hp) (by omega) (by omega) (by omega) fun A2 j j0 j1 e2 F2 => ?_
    have ep := e2 p _ (F1.ne1 hp) AH.upd_same
    refine pickR ep j0 (by simpa using j1) fun d hd q hq => pick h0 (by simpa using c2) fun d2 hd2 => k _ _ (e1.trans ((extNew hp).trans (e2.trans (extNew hq)))) ((F2.new hq).mono (by omega)) ?_
    have ht : okT d := by
      simp only [List.mem_cons, List.not_mem_nil, or_false] at hd
      rcases hd with rfl | rfl | rfl | rfl
      · exact okT_of ["ely"] (by decide +kernel)
      · exact okT_of ["ely", "york"] (by decide +kernel)
      · exact okT_of ["york"] (by decide +kernel)
      · exact okT_of ["bath", "ely"] (by decide +kernel)
    simp only [List.mem_cons, List.not_mem_nil, or_false] at hd2
    rcases hd2 with rfl | rfl
    · exact litG_plc ht (.inl rfl)
    · exact litG_plc ht (.inr rfl)
  · simp [c2]
    by_cases c3 : i = 2
    · simp [c3]
      refine draw_use F1 (by omega) (by omega) (by omega) fun A2 j j0 j1 e2 F2 => ?_
      simp
      refine draw_use F2 (by omega) (by omega) (by omega) fun A3 m m0 m1 e3 F3 => ?_
      simp
      refine fun p hp => draw_use (F3.new hp) (by omega) (by omega) (by omega) fun A4 n n0 n1 e4 F4 => ?_
      have ep := e4 p _ (F3.ne1 hp) AH.upd_same
      refine pickR ep n0 (by simpa using n1) fun d hd => k _ _ (e1.trans (e2.trans (e3.trans ((extNew hp).trans e4)))) (F4.mono (by omega)) (litG_age (by omega) (by omega) ?_)
      simp only [List.mem_cons, List.not_mem_nil, or_false] at hd
      rcases hd with rfl | rfl
      · exact .inl rfl
      · exact .inr ⟨_, rfl, by omega, by omega⟩
    · simp [c3]
      refine fun p hp => pick (by omega) (by simp; omega) fun d hd => draw_use (F1.new hp) (by omega) (by omega) (by omega) fun A2 j j0 j1 e2 F2 => ?_
      refine k _ _ (e1.trans ((extNew hp).trans e2)) (F2.mono (by omega)) ?_
      simp only [List.mem_cons, List.not_mem_nil, or_false] at hd
      rcases hd with rfl | rfl
      · exact litG_tie (by omega) (by omega) (.inl rfl)
      · exact litG_tie (by omega) (by omega) (.inr rfl)

def F__law_great_literal := DrawF 5 LitG
abbrev sp__law_great_literal : DSp := sp1 F__law_great_literal
def t__law_great_literal : DTS := dSeq (dAsg (dLst (dCons (dC (.str "a")) (dCons (dC (.str "aa")) (dCons (dC (.str "aaaaaaaa")) (dCons (dC (.str "b")) (dCons (dC (.str "ely")) (dCons (dC (.str "zz")) (dCons (dC (.str "zzzzzzzz")) (dNil))))))))) (dgName 1)) (dSeq (dPar 4 5 (dCons (dCall sp__law_draw (dCons (dVar 0) (dCons (dC (.int 4)) (dNil)))) (dCons (dOp opAdd (dC (.int 1)) (dCall sp__law_draw (dCons (dVar 0) (dCons (dC (.int 4)) (dNil))))) (dNil)))) (dSeq (dAsg (dCall sp__law_draw (dCons (dVar 0) (dCons (dC (.int 6)) (dNil)))) (dgName 2)) (dSeq (dIfS (dTest (dOp (opLt) (dVar 2) (dC (.int 2)))) (dRet (dTup (dCons (dOp opIx (dLst (dCons (dC (.str "town")) (dCons (dC (.str "out")) (dNil)))) (dVar 2)) (dCons (dCB cTuple (dCons (dSl (dVar 1) (dPart (dVar 4)) (dPart (dOp opAdd (dVar 4) (dVar 5)))) (dNil))) (dNil))))) (dNext)) (dSeq (dIfS (dTest (dOp (opLt) (dVar 2) (dC (.int 4)))) (dRet (dTup (dCons (dOp opIx (dLst (dCons (dC (.str "kin")) (dCons (dC (.str "far")) (dNil)))) (dOp opSub (dVar 2) (dC (.int 2)))) (dCons (dOp opIx (dLst (dCons (dC (.int 0)) (dCons (dC (.int 1)) (dCons (dC (.int 199)) (dCons (dC (.int 200)) (dNil)))))) (dCall sp__law_draw (dCons (dVar 0) (dCons (dC (.int 4)) (dNil))))) (dNil))))) (dNext)) (dSeq (dAsg (dOp opIx (dLst (dCons (dC (.int 0)) (dCons (dC (.int 1)) (dCons (dC (.int 60)) (dCons (dC (.int 199)) (dNil)))))) (dCall sp__law_draw (dCons (dVar 0) (dCons (dC (.int 4)) (dNil))))) (dgName 3)) (dRet (dTup (dCons (dC (.str "age")) (dCons (dVar 3) (dCons (dOp opIx (dLst (dCons (dC .non) (dCons (dOp opAdd (dVar 3) (dC (.int 1))) (dCons (dC (.int 200)) (dNil))))) (dCall sp__law_draw (dCons (dVar 0) (dCons (dC (.int 3)) (dNil))))) (dNil)))))))))))
def towns7 : List Str := ["a", "aa", "aaaaaaaa", "b", "ely", "zz", "zzzzzzzz"]
theorem cuts_ok : ∀ i ∈ List.range 4, ∀ j ∈ List.range 4, okws (((towns7.drop i).take (1 + j)).map tl) = true := by decide +kernel
theorem cut_towns {i j : Int} (h0 : 0 ≤ i) (h1 : i < 4) (h2 : 0 ≤ j) (h3 : j < 4) : okT (.tup (cutD (towns7.map D.str) (some i) (some (i + (1 + j))))) := by
  obtain ⟨a, rfl⟩ : ∃ a : Nat, i = a := ⟨i.toNat, by omega⟩
  obtain ⟨b, rfl⟩ : ∃ b : Nat, j = b := ⟨j.toNat, by omega⟩
  rw [show (a : Int) + (1 + (b : Int)) = ((a + (1 + b) : Nat) : Int) by omega, cut_mid, ← List.map_drop, ← List.map_take, show a + (1 + b) - a = 1 + b by omega]
  exact okT_of _ (cuts_ok a (List.mem_range.mpr (by omega)) b (List.mem_range.mpr (by omega)))
theorem r__law_great_literal : ∀ x A Q, F__law_great_literal x A Q → t__law_great_literal { nx := fun _ A' => Q .non A', rt := Q } (some x :: List.replicate 5 none) A := by
  rintro _ A Q ⟨f, s, l, c, rfl, F, hc, k⟩
  simp only [t__law_great_literal, s_seq, s_asg, s_op, s_sl, s_var, s_c, s_noPart, s_part, List.replicate]
  simp
  refine fun p0 hp0 => draw_use (F.new hp0) (by omega) (by omega) (by omega) fun A1 i h0 h1 e1 F1 => ?_
  simp
  refine draw_use F1 (by omega) (by omega) (by omega) fun A2 j j0 j1 e2 F2 => ?_
  simp
  refine draw_use F2 (by omega) (by omega) (by omega) fun A3 w w0 w1 e3 F3 => ?_
  simp
  have ep1 := e1 p0 _ (F.ne1 hp0) AH.upd_same
  have ep3 := e3 p0 _ (F.ne1 hp0) (e2 p0 _ (F.ne1 hp0) ep1)
  have ex3 : AExtB (· = f) A A3 := (extNew hp0).trans (e1.trans (e2.trans e3))
  by_cases c2 : w < 2
  · simp [c2]
    refine fun p hp => pick w0 (by simpa using c2) fun d hd => ?_
    have ep4 : (A3.upd p (.lst [.str (Str.ofString "town"), .str (Str.ofString "out")])) p0 = some (.lst (towns7.map D.str)) := by
      rw [AH.upd_ne (AH.ne ep3 hp)]
      exact ep3
    simp [ep4]
    refine fun q hq => k _ _ (ex3.trans ((extNew hp).trans (extNew hq))) (((F3.new hp).new hq).mono (by omega)) ?_
    have ht := cut_towns h0 h1 j0 j1
    simp only [List.mem_cons, List.not_mem_nil, or_false] at hd
    rcases hd with rfl | rfl
    · exact litG_plc ht (.inl rfl)
    · exact litG_plc ht (.inr rfl)
  · simp [c2]
    by_cases c4 : w < 4
    · simp [c4]
      refine fun p hp => pick (by omega) (by simp; omega) fun d hd q hq => draw_use ((F3.new hp).new hq) (by omega) (by omega) (by omega) fun A4 m m0 m1 e4 F4 => ?_
      have eq4 := e4 q _ ((F3.new hp).ne1 hq) AH.upd_same
      refine pickR eq4 m0 (by simpa using m1) fun d2 hd2 => ?_
      refine k _ _ (ex3.trans ((extNew hp).trans ((extNew hq).trans e4))) (F4.mono (by omega)) ?_
      simp only [List.mem_cons, List.not_mem_nil, or_false] at hd hd2
      rcases hd with rfl | rfl <;> rcases hd2 with rfl | rfl | rfl | rfl <;> first
        | exact litG_tie (by omega) (by omega) (.inl rfl)
        | exact litG_tie (by omega) (by omega) (.inr rfl)
    · simp [c4]
      refine fun p hp => draw_use (F3.new hp) (by omega) (by omega) (by omega) fun A4 m m0 m1 e4 F4 => ?_
      have ep4 := e4 p _ (F3.ne1 hp) AH.upd_same
      refine pickR ep4 m0 (by simpa using m1) fun d hd => ?_
      have hd' : ∃ n : Int, d = .int n ∧ 0 ≤ n ∧ n ≤ 199 := by
        simp only [List.mem_cons, List.not_mem_nil, or_false] at hd
        rcases hd with rfl | rfl | rfl | rfl <;> exact ⟨_, rfl, by omega, by omega⟩
      obtain ⟨n, rfl, n0, n1⟩ := hd'
      simp
      refine fun q hq => draw_use (F4.new hq) (by omega) (by omega) (by omega) fun A5 m2 m20 m21 e5 F5 => ?_
      have eq5 := e5 q _ (F4.ne1 hq) AH.upd_same
      refine pickR eq5 m20 (by simpa using m21) fun d hd => ?_
      refine k _ _ (ex3.trans ((extNew hp).trans (e4.trans ((extNew hq).trans e5)))) (F5.mono (by omega)) (litG_age n0 (by omega) ?_)
      simp only [List.mem_cons, List.not_mem_nil, or_false] at hd
      rcases hd with rfl | rfl | rfl
      · exact .inl rfl
      · exact .inr ⟨_, rfl, by omega, by omega⟩
      · exact .inr ⟨_, rfl, by omega, by omega⟩
end K82

/-! what the law draws -/
namespace K82
open PySem PySem.Spec PyProof.Rows L2 PD SX

def F__law_people (x y : D) (A : AH) (Q : DK) : Prop := ∃ f s l c m, x = .ref f ∧ y = .int m ∧ 1 ≤ m ∧ m ≤ 20 ∧ Feed f s l c A ∧ c + 2 ≤ 1000000 ∧ ∀ (p : Addr) (ws : List (List Nat)) A', AExtB (· = f) A A' → Feed f s l (c + 2) A' → A p = none → A' p = some (.lst ((ws.map S).map D.str)) → (ws.length : Int) = m → (∀ w ∈ ws, isW w = true) → Q (.ref p) A'
abbrev sp__law_people : DSp := sp2 F__law_people
def t__law_people : DTS := dSeq (dAsg (dLst (dCons (dC (.str "ann")) (dCons (dC (.str "an")) (dCons (dC (.str "bea")) (dCons (dC (.str "bo")) (dCons (dC (.str "cy")) (dCons (dC (.str "cyrus")) (dCons (dC (.str "dora")) (dCons (dC (.str "eli")) (dCons (dC (.str "fay")) (dCons (dC (.str "gus")) (dCons (dC (.str "hal")) (dCons (dC (.str "ida")) (dCons (dC (.str "jo")) (dCons (dC (.str "kit")) (dCons (dC (.str "lou")) (dNil))))))))))))))))) (dgName 2)) (dSeq (dDrop (dM "list" mAppend (dVar 2) (dCons (dC (.str "zzzzzzzz")) (dNil)))) (dSeq (dAsg (dTup (dCons (dCall sp__law_draw (dCons (dVar 0) (dCons (dC (.int 16)) (dNil)))) (dCons (dOp opAdd (dC (.int 1)) (dOp opMul (dC (.int 2)) (dCall sp__law_draw (dCons (dVar 0) (dCons (dC (.int 8)) (dNil)))))) (dNil)))) (dgTup 2 (dgCons (dgName 3) (dgCons (dgName 4) (dgNil))))) (dRet (dLc (iRange1 (dCons (dVar 1) (dNil))) (dgName 5) (dYes) (dOp opIx (dVar 2) (dOp opMod (dOp opAdd (dVar 3) (dOp opMul (dVar 4) (dVar 5))) (dC (.int 16)))) [5]))))
def pool16 : List Str := ["ann", "an", "bea", "bo", "cy", "cyrus", "dora", "eli", "fay", "gus", "hal", "ida", "jo", "kit", "lou", "zzzzzzzz"]
theorem pool_ok : ∀ z ∈ pool16, isW (tl z) = true := by decide +kernel
def WordG (d : D) : Prop := ∃ w, d = .str (S w) ∧ isW w = true
theorem words_of : ∀ {ds : List D}, (∀ d ∈ ds, WordG d) → ∃ ws : List (List Nat), ds = (ws.map S).map D.str ∧ ∀ w ∈ ws, isW w = true
  | [], _ => ⟨[], rfl, fun _ h => nomatch h⟩
  | d :: ds, h => by
    obtain ⟨w, rfl, hw⟩ := h d List.mem_cons_self
    obtain ⟨ws, rfl, hws⟩ := words_of fun x hx => h x (List.mem_cons_of_mem _ hx)
    refine ⟨w :: ws, rfl, fun x hx => ?_⟩
    rcases List.mem_cons.mp hx with rfl | hx
    · exact hw
    · exact hws x hx
theorem r__law_people : ∀ x y A Q, F__law_people x y A Q → t__law_people { nx := fun _ A' => Q .non A', rt := Q } (some x :: some y :: List.replicate 4 none) A := by
  rintro _ _ A Q ⟨f, s, l, c, m, rfl, rfl, m0, m1, F, hc, k⟩
  simp only [t__law_people, s_seq, s_asg, s_op, s_sl, s_var, s_c, s_noPart, s_part, List.replicate]
  have z15 : (14 : Nat) < sizeLine := by decide
  simp
  refine fun p hp => ?_
  refine ⟨s_tyL _ _ _ AH.upd_same, ?_⟩
  rw [s_append _ _ _ _ _ AH.upd_same]
  refine ⟨by decide, ?_⟩
  simp
  have F0 : Feed f s l c ((A.upd p (.lst [.str "ann", .str "an", .str "bea", .str "bo", .str "cy", .str "cyrus", .str "dora", .str "eli", .str "fay", .str "gus", .str "hal", .str "ida", .str "jo", .str "kit", .str "lou"])).upd p (.lst (pool16.map D.str))) := (F.new hp).upd (F.ne1 hp) (F.ne2 hp)
  refine draw_use F0 (by omega) (by omega) (by omega) fun A1 i h0 h1 e1 F1 => ?_
  refine draw_use F1 (by omega) (by omega) (by omega) fun A2 j j0 j1 e2 F2 => ?_
  have ep1 := e1 p _ (F.ne1 hp) AH.upd_same
  have ep2 := e2 p _ (F.ne1 hp) ep1
  have cm : CMul 2 j := .inl (by omega)
  simp [cm]
  have ex : AExtB (· = f) A A2 := fun a o n ha => e2 a o n (e1 a o n (by
    rw [AH.upd_ne (AH.ne ha hp), AH.upd_ne (AH.ne ha hp)]
    exact ha))
  refine ⟨by omega, fun q hq => ?_⟩
  have hlen : (rangeD 0 m.toNat).length = m.toNat := rangeD_length
  refine comp_gen (S := fun a => a = f) (I := fun _ A => Feed f s l (c + 2) A) (G := WordG) (rangeD 0 m.toNat) A2 0 hq (F2.ne1 hq) F2 (fun k A o h => ?_) (by rw [hlen]; exact big) (fun _ _ => trivial) ?_ ?_
  · exact h.upd (F2.ne1 hq) (F2.ne2 hq)
  · intro k' x A3 Z hx hk e3 F3 kz
    obtain ⟨t, ht, rfl⟩ := List.mem_map.mp hx
    have ht2 := List.mem_range.mp ht
    have htn : t < m.toNat := ht2
    have cm2 : CMul (1 + 2 * j) ((t : Nat) : Int) := .inl ⟨by omega, by omega⟩
    simp [cm2]
    have ep3 := e3 p _ (F.ne1 hp) ep2
    rw [ep3, s_seqL, s_onS]
    refine pick (Int.emod_nonneg _ (show (16 : Int) ≠ 0 by omega)) (by
      have := Int.emod_lt_of_pos (i + (1 + 2 * j) * (t : Int)) (show (0 : Int) < 16 by omega)
      simpa [pool16] using this) fun d hd => kz d A3 (.refl _) F3 ?_
    obtain ⟨z, hz, rfl⟩ := List.mem_map.mp (show d ∈ pool16.map D.str from hd)
    exact ⟨tl z, by rw [tick], pool_ok z hz⟩
  · intro ds A3 e3 F3 hl3 hg eq3
    obtain ⟨ws, rfl, hw⟩ := words_of hg
    have hAq : A q = none := by
      cases h : A q with
      | none => rfl
      | some o =>
        rw [ex q o (F2.ne1 hq) h] at hq
        cases hq
    refine k q ws A3 (ex.trans e3) F3 hAq eq3 ?_ hw
    rw [List.length_map, List.length_map, hlen] at hl3
    rw [hl3]
    omega
def RulesG (d : D) : Prop := ∃ r, d = rsD r ∧ okR r = true
def F__law_rules := DrawF 19 RulesG
abbrev sp__law_rules : DSp := sp1 F__law_rules
def t__law_rules : DTS := dSeq (dAsg (dLst (dNil)) (dgName 1)) (dSeq (dFor (iRange1 (dCons (dCall sp__law_draw (dCons (dVar 0) (dCons (dC (.int 3)) (dNil)))) (dNil))) (dgName 2) (dDrop (dM "list" mAppend (dVar 1) (dCons (dCB cTuple (dCons (dLc (iRange1 (dCons (dOp opAdd (dC (.int 1)) (dCall sp__law_draw (dCons (dVar 0) (dCons (dC (.int 2)) (dNil))))) (dNil))) (dgName 3) (dYes) (dCall sp__law_literal (dCons (dVar 0) (dNil))) [3]) (dNil))) (dNil))))) (dRet (dCB cTuple (dCons (dVar 1) (dNil)))))
theorem range_cons (k n : Nat) : (List.range' k (n + 1)) = k :: List.range' (k + 1) n := rfl
theorem rangeD_eq (n : Nat) : rangeD 0 n = (List.range' 0 n).map fun i => D.int (0 + (i : Nat)) := by
  unfold rangeD
  rw [List.range_eq_range']
theorem lits_of : ∀ {ds : List D}, (∀ d ∈ ds, LitG d) → ∃ c : List Lit, ds = c.map Lit.d ∧ c.all Lit.ok = true
  | [], _ => ⟨[], rfl, rfl⟩
  | d :: ds, h => by
    obtain ⟨w, rfl, hw⟩ := h d List.mem_cons_self
    obtain ⟨ws, rfl, hws⟩ := lits_of fun x hx => h x (List.mem_cons_of_mem _ hx)
    exact ⟨w :: ws, rfl, by rw [List.all_cons, hw, hws]; rfl⟩
theorem r__law_rules : ∀ x A Q, F__law_rules x A Q → t__law_rules { nx := fun _ A' => Q .non A', rt := Q } (some x :: List.replicate 3 none) A := by
  rintro _ A Q ⟨f, s, l, c, rfl, F, hc, k⟩
  simp only [t__law_rules, s_seq, s_asg, s_op, s_sl, s_var, s_c, s_noPart, s_part, List.replicate]
  simp
  refine fun q hq => draw_use (F.new hq) (by omega) (by omega) (by omega) fun A1 i h0 h1 e1 F1 => ?_
  simp
  refine ⟨by omega, ?_⟩
  have eq1 := e1 q _ (F.ne1 hq) AH.upd_same
  have ex1 : AExtB (· = f) A A1 := (extNew hq).trans e1
  refine for_ok (fun items st A' => ∃ (done : Rules) (o2 o3 : Option D), done.length + items.length ≤ 2 ∧ st = [some (.ref f), some (.ref q), o2, o3] ∧ A' q = some (.lst (done.map clD)) ∧ okR done = true ∧ AExtB (· = f) A A' ∧ Feed f s l (c + 1 + 9 * done.length) A')
    (fun _ _ _ _ => trivial) ?_ ?_ _ _ _ ⟨[], none, none, by rw [rangeD_length]; simp; omega, rfl, eq1, rfl, ex1, F1⟩
  · rintro x xs st A' N ⟨done, o2, o3, hl, rfl, e3, okr, ex, F2⟩ kN
    rw [List.length_cons] at hl
    simp [s_tyL _ _ _ e3]
    refine draw_use F2 (by omega) (by omega) (by omega) fun A3 j j0 j1 e4 F3 => ?_
    simp
    refine ⟨by omega, fun p hp => ?_⟩
    have hlen : (rangeD 0 (1 + j).toNat).length = (1 + j).toNat := rangeD_length
    have eq3 := e4 q _ (F.ne1 hq) e3
    refine comp_gen (S := fun a => a = f) (I := fun k A => Feed f s l (c + 1 + 9 * done.length + 1 + 4 * k) A) (G := LitG) (rangeD 0 (1 + j).toNat) A3 0 hp (F3.ne1 hp) F3 (fun k A o h => h.upd (F3.ne1 hp) (F3.ne2 hp)) (by rw [hlen]; exact big) (fun _ _ => trivial) ?_ ?_
    · intro k' y A4 Z hy hk e5 F4 kz
      simp
      rw [hlen] at hk
      refine ⟨f, s, l, _, rfl, F4, by omega, fun d A5 e6 F5 g => kz d A5 e6 (F5.mono (by omega)) g⟩
    · intro ds A4 e5 F4 hl4 hg eds
      rw [hlen] at hl4 F4
      obtain ⟨cl, rfl, hcl⟩ := lits_of hg
      rw [List.length_map] at hl4
      have eq4 := e5 q _ (F.ne1 hq) eq3
      simp [eds, s_append _ _ _ _ _ eq4]
      refine ⟨Nat.lt_of_lt_of_le (by omega) (big (n := 30)), kN _ _ ⟨done ++ [cl], _, _, by simp; omega, rfl, ?_, ?_, ?_, ?_⟩⟩
      · rw [AH.upd_same, List.map_append]
        rfl
      · obtain ⟨r1, r2⟩ := okR_of okr
        unfold okR
        simp
        refine ⟨by omega, r2, ?_⟩
        unfold okC
        simp
        rw [List.all_eq_true] at hcl
        exact ⟨by omega, hcl⟩
      · intro a o n ha
        have hne : a ≠ q := AH.ne ha hq
        rw [AH.upd_ne hne]
        exact e5 a o n (e4 a o n (ex a o n ha))
      · refine (F4.upd (F.ne1 hq) (F.ne2 hq)).mono ?_
        rw [List.length_append, List.length_singleton]
        omega
  · rintro st A' ⟨done, o2, o3, hl, rfl, e3, okr, ex, F2⟩
    simp [e3]
    simp at hl
    exact k _ A' ex (F2.mono (by omega)) ⟨done, rfl, okr⟩
def DeedG (d : D) : Prop := ∃ dd : Deed, d = dd.d ∧ dd.Ok ∧ dd.ss.length ≤ 9
def F__law_deed (x y : D) (A : AH) (Q : DK) : Prop := ∃ f s l c p ws, x = .ref f ∧ y = .ref p ∧ p ≠ f ∧ A p = some (.lst (((ws : List (List Nat)).map S).map D.str)) ∧ 3 ≤ ws.length ∧ ws.length ≤ 20 ∧ (∀ w ∈ ws, isW w = true) ∧ Feed f s l c A ∧ c + 200 ≤ 1000000 ∧ ∀ d A', AExtB (· = f) A A' → Feed f s l (c + 200) A' → DeedG d → Q d A'
abbrev sp__law_deed : DSp := sp2 F__law_deed
def t__law_deed : DTS := dSeq (dAsg (dLst (dNil)) (dgName 2)) (dSeq (dFor (iRange1 (dCons (dOp opAdd (dC (.int 1)) (dCall sp__law_draw (dCons (dVar 0) (dCons (dC (.int 8)) (dNil))))) (dNil))) (dgName 3) (dDrop (dM "list" mAppend (dVar 2) (dCons (dTup (dCons (dOp opIx (dLst (dCons (dC (.str "row")) (dCons (dC (.str "row")) (dCons (dC (.str "row")) (dCons (dC (.str "turn")) (dNil)))))) (dCall sp__law_draw (dCons (dVar 0) (dCons (dC (.int 4)) (dNil))))) (dCons (dOp opAdd (dC (.int 1)) (dCall sp__law_draw (dCons (dVar 0) (dCons (dC (.int 30)) (dNil))))) (dCons (dCall sp__law_rules (dCons (dVar 0) (dNil))) (dNil))))) (dNil))))) (dSeq (dAsg (dOp opAdd (dSl (dVar 1) (dNoPart) (dPart (dC (.int 2)))) (dLst (dCons (dC (.str "heir")) (dCons (dC (.str "abbey")) (dNil))))) (dgName 4)) (dSeq (dAsg (dLc (iRange1 (dCons (dOp opAdd (dC (.int 1)) (dCall sp__law_draw (dCons (dVar 0) (dCons (dC (.int 3)) (dNil))))) (dNil))) (dgName 3) (dYes) (dTup (dCons (dOp opIx (dVar 4) (dCall sp__law_draw (dCons (dVar 0) (dCons (dC (.int 4)) (dNil))))) (dCons (dOp opAdd (dC (.int 1)) (dCall sp__law_draw (dCons (dVar 0) (dCons (dC (.int 4)) (dNil))))) (dNil)))) [3]) (dgName 5)) (dSeq (dAsg (dTup (dCons (dOp opAdd (dC (.int 1)) (dCall sp__law_draw (dCons (dVar 0) (dCons (dC (.int 4)) (dNil))))) (dCons (dOp opAdd (dC (.int 1)) (dCall sp__law_draw (dCons (dVar 0) (dCons (dC (.int 3)) (dNil))))) (dCons (dCall sp__law_draw (dCons (dVar 0) (dCons (dC (.int 5)) (dNil)))) (dCons (dOp opAdd (dC (.int 1)) (dCall sp__law_draw (dCons (dVar 0) (dCons (dC (.int 3)) (dNil))))) (dNil)))))) (dgName 6)) (dRet (dTup (dCons (dOp opIx (dVar 1) (dCall sp__law_draw (dCons (dVar 0) (dCons (dCB cLen (dCons (dVar 1) (dNil))) (dNil))))) (dCons (dCB cTuple (dCons (dVar 2) (dNil))) (dCons (dCB cTuple (dCons (dVar 5) (dNil))) (dCons (dVar 6) (dNil)))))))))))
theorem placeG {x : Str} {n : Int} {d : D} (hx : x = Str.ofString "row" ∨ x = Str.ofString "turn") (h0 : 1 ≤ n) (h1 : n < 100000) (g : RulesG d) : ∃ pl : Place, D.tup [.str x, .int n, d] = placeD pl ∧ okP pl := by
  obtain ⟨r, rfl, okr⟩ := g
  obtain ⟨j, rfl⟩ : ∃ j : Nat, n = j := ⟨n.toNat, by omega⟩
  rcases hx with rfl | rfl
  · exact ⟨(false, j, r), rfl, ⟨show 1 ≤ j by omega, show j < 10 ^ 12 by omega⟩, okr⟩
  · exact ⟨(true, j, r), rfl, ⟨show 1 ≤ j by omega, show j < 10 ^ 12 by omega⟩, okr⟩
def SeatG (d : D) : Prop := ∃ st : Seat, d = seatD st ∧ okS st
theorem seats_of : ∀ {ds : List D}, (∀ d ∈ ds, SeatG d) → ∃ ss : List Seat, ds = ss.map seatD ∧ ∀ x ∈ ss, okS x
  | [], _ => ⟨[], rfl, fun _ h => nomatch h⟩
  | d :: ds, h => by
    obtain ⟨w, rfl, hw⟩ := h d List.mem_cons_self
    obtain ⟨ws, rfl, hws⟩ := seats_of fun x hx => h x (List.mem_cons_of_mem _ hx)
    refine ⟨w :: ws, rfl, fun x hx => ?_⟩
    rcases List.mem_cons.mp hx with rfl | hx
    · exact hw
    · exact hws x hx
theorem r__law_deed : ∀ x y A Q, F__law_deed x y A Q → t__law_deed { nx := fun _ A' => Q .non A', rt := Q } (some x :: some y :: List.replicate 5 none) A := by
  rintro _ _ A Q ⟨f, s, l, c, pp, ws, rfl, rfl, hpf, ep, hw3, hw20, hws, F, hc, k⟩
  simp only [t__law_deed, s_seq, s_asg, s_op, s_sl, s_var, s_c, s_noPart, s_part, List.replicate]
  simp
  refine fun q hq => draw_use (F.new hq) (by omega) (by omega) (by omega) fun A1 i h0 h1 e1 F1 => ?_
  simp
  refine ⟨by omega, ?_⟩
  have eq1 := e1 q _ (F.ne1 hq) AH.upd_same
  have ex1 : AExtB (· = f) A A1 := (extNew hq).trans e1
  refine for_ok (fun items st A' => ∃ (done : List Place) (o3 o4 o5 o6 : Option D), 1 ≤ done.length + items.length ∧ done.length + items.length ≤ 8 ∧ st = [some (.ref f), some (.ref pp), some (.ref q), o3, none, none, none] ∧ A' q = some (.lst (done.map placeD)) ∧ (∀ x ∈ done, okP x) ∧ AExtB (· = f) A A' ∧ Feed f s l (c + 1 + 21 * done.length) A')
    (fun _ _ _ _ => trivial) ?_ ?_ _ _ _ ⟨[], none, none, none, none, by rw [rangeD_length]; simp; omega, by rw [rangeD_length]; simp; omega, rfl, eq1, fun _ h => (nomatch h), ex1, F1⟩
  · rintro x xs st A' N ⟨done, o3, o4, o5, o6, hl1, hl, rfl, e3, okd, ex, F2⟩ kN
    rw [List.length_cons] at hl
    simp [s_tyL _ _ _ e3]
    refine fun p2 hp2 => draw_use (F2.new hp2) (by omega) (by omega) (by omega) fun A3 j j0 j1 e4 F3 => ?_
    have ep3 := e4 p2 _ (F2.ne1 hp2) AH.upd_same
    have eq3 := e4 q _ (F.ne1 hq) ((AExt.new hp2) _ _ e3)
    refine pickR ep3 j0 (by simpa using j1) fun d hd => ?_
    refine draw_use F3 (by omega) (by omega) (by omega) fun A4 m m0 m1 e5 F4 => ?_
    simp
    refine ⟨f, s, l, _, rfl, F4, by omega, fun d2 A5 e6 F5 g => ?_⟩
    have eq5 := e6 q _ (F.ne1 hq) (e5 q _ (F.ne1 hq) eq3)
    have hd' : ∃ z : Str, d = .str z ∧ (z = Str.ofString "row" ∨ z = Str.ofString "turn") := by
      simp only [List.mem_cons, List.not_mem_nil, or_false] at hd
      rcases hd with rfl | rfl | rfl | rfl
      · exact ⟨_, rfl, .inl rfl⟩
      · exact ⟨_, rfl, .inl rfl⟩
      · exact ⟨_, rfl, .inl rfl⟩
      · exact ⟨_, rfl, .inr rfl⟩
    obtain ⟨z, rfl, hz⟩ := hd'
    obtain ⟨pl, epl, okpl⟩ := placeG hz (show 1 ≤ 1 + m by omega) (by omega) g
    simp [s_append _ _ _ _ _ eq5, epl]
    refine ⟨Nat.lt_of_lt_of_le (by omega) (big (n := 30)), kN _ _ ⟨done ++ [pl], _, none, none, none, by simp; omega, by simp; omega, rfl, ?_, ?_, ?_, ?_⟩⟩
    · rw [AH.upd_same, List.map_append]
      rfl
    · intro x hx
      rcases List.mem_append.mp hx with hx | hx
      · exact okd x hx
      · rw [List.mem_singleton.mp hx]
        exact okpl
    · intro a o n ha
      rw [AH.upd_ne (AH.ne ha hq)]
      exact e6 a o n (e5 a o n (e4 a o n ((AExt.new hp2) _ _ (ex a o n ha))))
    · refine (F5.upd (F.ne1 hq) (F.ne2 hq)).mono ?_
      rw [List.length_append, List.length_singleton]
      omega
  · rintro st A' ⟨done, o3, o4, o5, o6, hl1, hl, rfl, e3, okd, ex, F2⟩
    simp at hl1 hl
    have ep' := ex pp _ hpf ep
    simp [ep']
    refine fun p2 hp2 p3 hp3 => ?_
    have hne23 : p2 ≠ p3 := AH.ne AH.upd_same hp3
    rw [s_addL _ _ _ _ _ _ (by rw [AH.upd_ne hne23]; exact AH.upd_same) AH.upd_same]
    have hlen4 : (List.take 2 (List.map (D.str ∘ S) ws) ++ [D.str (Str.ofString "heir"), D.str (Str.ofString "abbey")]).length = 4 := by simp; omega
    refine ⟨by rw [← List.length_append, hlen4]; simp, fun p4 hp4 => ?_⟩
    have hwg : ∀ d ∈ (List.take 2 (List.map (D.str ∘ S) ws) ++ [D.str (Str.ofString "heir"), D.str (Str.ofString "abbey")]), WordG d := by
      intro d hd
      rcases List.mem_append.mp hd with hd | hd
      · obtain ⟨w, hw, rfl⟩ := List.mem_map.mp (List.mem_of_mem_take hd)
        exact ⟨w, rfl, hws w hw⟩
      · simp only [List.mem_cons, List.not_mem_nil, or_false] at hd
        rcases hd with rfl | rfl
        · exact ⟨tl (Str.ofString "heir"), by rw [tick], by decide +kernel⟩
        · exact ⟨tl (Str.ofString "abbey"), by rw [tick], by decide +kernel⟩
    generalize hB : ((A'.upd p2 (.lst (List.take 2 (List.map (D.str ∘ S) ws)))).upd p3 (.lst [D.str (Str.ofString "heir"), D.str (Str.ofString "abbey")])) = B at hp4 ⊢
    have xB : AExt A' B := by rw [← hB]; exact (AExt.new hp2).trans (.new hp3)
    have FB : Feed f s l (c + 1 + 21 * done.length) B := F2.ext xB
    generalize (List.take 2 (List.map (D.str ∘ S) ws) ++ [D.str (Str.ofString "heir"), D.str (Str.ofString "abbey")]) = hs at hwg hlen4 ⊢
    refine draw_use (FB.new hp4) (by omega) (by omega) (by omega) fun A2 n n0 n1 e4 F3 => ?_
    have ep4 := e4 p4 _ (FB.ne1 hp4) AH.upd_same
    have exA2 : AExtB (· = f) A A2 := ex.trans (xB.b.trans ((extNew hp4).trans e4))
    have eq2 : A2 q = some (.lst (done.map placeD)) := e4 q _ (F.ne1 hq) ((AExt.new hp4) _ _ (xB _ _ e3))
    have epp2 : A2 pp = some (.lst ((ws.map S).map D.str)) := exA2 pp _ hpf ep
    simp
    refine ⟨by omega, fun p5 hp5 => ?_⟩
    have hlen : (rangeD 0 (1 + n).toNat).length = (1 + n).toNat := rangeD_length
    refine comp_gen (S := fun a => a = f) (I := fun k A => Feed f s l (c + 1 + 21 * done.length + 1 + 2 * k) A) (G := SeatG) (rangeD 0 (1 + n).toNat) A2 0 hp5 (F3.ne1 hp5) F3 (fun k A o h => h.upd (F3.ne1 hp5) (F3.ne2 hp5)) (by rw [hlen]; exact big) (fun _ _ => trivial) ?_ ?_
    · intro k' y A4 Z hy hk e5 F4 kz
      rw [hlen] at hk
      simp
      refine draw_use F4 (by omega) (by omega) (by omega) fun A5 j j0 j1 e6 F5 => ?_
      have ep5 := e6 p4 _ (FB.ne1 hp4) (e5 p4 _ (FB.ne1 hp4) ep4)
      refine pickR ep5 j0 (by rw [hlen4]; exact j1) fun d hd => ?_
      refine draw_use F5 (by omega) (by omega) (by omega) fun A6 m m0 m1 e7 F6 => ?_
      simp
      obtain ⟨w, rfl, hw⟩ := hwg d hd
      refine kz _ A6 (e6.trans e7) (F6.mono (by omega)) ?_
      obtain ⟨j', hj'⟩ : ∃ j' : Nat, 1 + m = j' := ⟨(1 + m).toNat, by omega⟩
      rw [hj']
      exact ⟨(w, j'), rfl, hw, show 1 ≤ j' by omega, show j' < 10 ^ 12 by omega⟩
    · intro ds A4 e5 F4 hl4 hg eds
      rw [hlen] at hl4 F4
      obtain ⟨ss, rfl, hss⟩ := seats_of hg
      rw [List.length_map] at hl4
      refine draw_use F4 (by omega) (by omega) (by omega) fun A5 a a0 a1 e6 F5 => ?_
      simp
      refine draw_use F5 (by omega) (by omega) (by omega) fun A6 b b0 b1 e7 F6 => ?_
      simp
      refine draw_use F6 (by omega) (by omega) (by omega) fun A7 c' c0 c1 e8 F7 => ?_
      refine draw_use F7 (by omega) (by omega) (by omega) fun A8 d d0 d1 e9 F8 => ?_
      simp
      have ex8 : AExtB (· = f) A2 A8 := e5.trans (e6.trans (e7.trans (e8.trans e9)))
      have epp8 := ex8 pp _ hpf epp2
      rw [s_lenL _ _ _ _ epp8]
      have hwl : (((ws.map S).map D.str).length : Int) = (ws.length : Int) := by simp
      refine draw_use F8 (by rw [hwl]; omega) (by rw [hwl]; omega) (by omega) fun A9 g g0 g1 e10 F9 => ?_
      have ex9 := ex8.trans e10
      have epp9 := ex9 pp _ hpf epp2
      have eq9 := ex9 q _ (F.ne1 hq) eq2
      have e59 := (e6.trans (e7.trans (e8.trans (e9.trans e10)))) p5 _ (F3.ne1 hp5) eds
      refine pickR epp9 g0 g1 fun fd hfd => ?_
      rw [List.map_map] at hfd
      obtain ⟨fw, hfw, rfl⟩ := List.mem_map.mp hfd
      simp [eq9, e59]
      obtain ⟨a', ha'⟩ : ∃ a' : Nat, 1 + a = a' := ⟨(1 + a).toNat, by omega⟩
      obtain ⟨b', hb'⟩ : ∃ a' : Nat, 1 + b = a' := ⟨(1 + b).toNat, by omega⟩
      obtain ⟨c2, hc2⟩ : ∃ a' : Nat, c' = a' := ⟨c'.toNat, by omega⟩
      obtain ⟨d', hd'⟩ : ∃ a' : Nat, 1 + d = a' := ⟨(1 + d).toNat, by omega⟩
      rw [ha', hb', hc2, hd']
      refine k _ A9 (exA2.trans ex9) (F9.mono (by omega)) ⟨⟨fw, done, ss, a', b', c2, d'⟩, rfl, ?_, by show ss.length ≤ 9; omega⟩
      exact ⟨hws fw hfw, ⟨hl1, hl⟩, okd, ⟨by show 1 ≤ ss.length; omega, by show ss.length ≤ 10; omega⟩, hss, ⟨by show 1 ≤ a'; omega, by show a' < 10 ^ 12; omega⟩, ⟨by show 1 ≤ b'; omega, by show b' < 10 ^ 12; omega⟩, by show c2 < 10 ^ 12; omega, ⟨by show 1 ≤ d'; omega, by show d' < 10 ^ 12; omega⟩⟩
def F__law_great_deed := DrawF 800 DeedG
abbrev sp__law_great_deed : DSp := sp1 F__law_great_deed
def t__law_great_deed : DTS := dSeq (dAsg (dLst (dNil)) (dgName 1)) (dSeq (dFor (iRange1 (dCons (dC (.int 8)) (dNil))) (dgName 2) (dSeq (dAsg (dCB cTuple (dCons (dLc (iRange1 (dCons (dC (.int 6)) (dNil))) (dgName 6) (dYes) (dCB cTuple (dCons (dLc (iRange1 (dCons (dC (.int 3)) (dNil))) (dgName 7) (dYes) (dCall sp__law_great_literal (dCons (dVar 0) (dNil))) [7]) (dNil))) [6]) (dNil))) (dgName 5)) (dDrop (dM "list" mAppend (dVar 1) (dCons (dTup (dCons (dOp opIx (dLst (dCons (dC (.str "row")) (dCons (dC (.str "turn")) (dNil)))) (dCall sp__law_draw (dCons (dVar 0) (dCons (dC (.int 2)) (dNil))))) (dCons (dOp opIx (dLst (dCons (dC (.int 1)) (dCons (dC (.int 1000)) (dNil)))) (dCall sp__law_draw (dCons (dVar 0) (dCons (dC (.int 2)) (dNil))))) (dCons (dVar 5) (dNil))))) (dNil)))))) (dSeq (dAsg (dCB cTuple (dCons (dLc (iRange1 (dCons (dC (.int 6)) (dNil))) (dgName 2) (dYes) (dTup (dCons (dOp opMul (dOp opIx (dC (.str "abcdef")) (dVar 2)) (dOp opAdd (dC (.int 3)) (dVar 2))) (dCons (dOp opIx (dLst (dCons (dC (.int 1)) (dCons (dC (.int 20)) (dNil)))) (dCall sp__law_draw (dCons (dVar 0) (dCons (dC (.int 2)) (dNil))))) (dNil)))) [2]) (dNil))) (dgName 3)) (dSeq (dAsg (dOp opIx (dLst (dCons (dTup (dCons (dC (.int 1)) (dCons (dC (.int 1)) (dCons (dC (.int 0)) (dCons (dC (.int 1)) (dNil)))))) (dCons (dTup (dCons (dC (.int 30)) (dCons (dC (.int 3)) (dCons (dC (.int 60)) (dCons (dC (.int 9)) (dNil)))))) (dNil)))) (dCall sp__law_draw (dCons (dVar 0) (dCons (dC (.int 2)) (dNil))))) (dgName 4)) (dRet (dTup (dCons (dC (.str "zzzzzzzz")) (dCons (dCB cTuple (dCons (dVar 1) (dNil))) (dCons (dVar 3) (dCons (dVar 4) (dNil))))))))))
def ClG (d : D) : Prop := ∃ c, d = clD c ∧ okC c = true
theorem cls_of : ∀ {ds : List D}, (∀ d ∈ ds, ClG d) → ∃ r : Rules, ds = r.map clD ∧ ∀ c ∈ r, okC c = true
  | [], _ => ⟨[], rfl, fun _ h => nomatch h⟩
  | d :: ds, h => by
    obtain ⟨w, rfl, hw⟩ := h d List.mem_cons_self
    obtain ⟨ws, rfl, hws⟩ := cls_of fun x hx => h x (List.mem_cons_of_mem _ hx)
    refine ⟨w :: ws, rfl, fun x hx => ?_⟩
    rcases List.mem_cons.mp hx with rfl | hx
    · exact hw
    · exact hws x hx
theorem abc_at : ∀ k ∈ List.range 6, (Str.ofString "abcdef").cps.toList[k]? = some (97 + k) := by decide +kernel
theorem abc_ok : ∀ k ∈ List.range 6, isW (tl (repS ⟨#[97 + k]⟩ (3 + (k : Int)))) = true := by decide +kernel
theorem abc_len : (Str.ofString "abcdef").length ≤ sizeLine := by decide +kernel
theorem r__law_great_deed : ∀ x A Q, F__law_great_deed x A Q → t__law_great_deed { nx := fun _ A' => Q .non A', rt := Q } (some x :: List.replicate 7 none) A := by
  rintro _ A Q ⟨f, s, l, c, rfl, F, hc, k⟩
  simp only [t__law_great_deed, s_seq, s_asg, s_op, s_sl, s_var, s_c, s_noPart, s_part, List.replicate]
  simp
  refine fun q hq => ?_
  have hr8 : (rangeD 0 8).length = 8 := rangeD_length
  have hr6 : (rangeD 0 6).length = 6 := rangeD_length
  have hr3 : (rangeD 0 3).length = 3 := rangeD_length
  refine for_ok (fun items st A' => ∃ (done : List Place) (o2 o5 : Option D), done.length + items.length = 8 ∧ st = [some (.ref f), some (.ref q), o2, none, none, o5, none, none] ∧ A' q = some (.lst (done.map placeD)) ∧ (∀ x ∈ done, okP x) ∧ AExtB (· = f) A A' ∧ Feed f s l (c + 92 * done.length) A')
    (fun _ _ _ _ => trivial) ?_ ?_ _ _ _ ⟨[], none, none, by rw [hr8]; rfl, rfl, AH.upd_same, fun _ h => (nomatch h), extNew hq, F.new hq⟩
  · rintro x xs st A' N ⟨done, o2, o5, hl, rfl, e3, okd, ex, F2⟩ kN
    rw [List.length_cons] at hl
    simp
    refine fun p hp => comp_gen (S := fun a => a = f) (I := fun k A => Feed f s l (c + 92 * done.length + 15 * k) A) (G := ClG) (rangeD 0 6) A' 0 hp (F2.ne1 hp) F2 (fun k A o h => h.upd (F2.ne1 hp) (F2.ne2 hp)) (by rw [hr6]; exact big) (fun _ _ => trivial) ?_ ?_
    · intro k' y A3 Z hy hk e4 F3 kz
      rw [hr6] at hk
      simp
      refine fun p2 hp2 => comp_gen (S := fun a => a = f) (I := fun k A => Feed f s l (c + 92 * done.length + 15 * (0 + k') + 5 * k) A) (G := LitG) (rangeD 0 3) A3 0 hp2 (F3.ne1 hp2) F3 (fun k A o h => h.upd (F3.ne1 hp2) (F3.ne2 hp2)) (by rw [hr3]; exact big) (fun _ _ => trivial) ?_ ?_
      · intro k2 y2 A4 Z2 hy2 hk2 e5 F4 kz2
        rw [hr3] at hk2
        simp
        refine ⟨f, s, l, _, rfl, F4, by omega, fun d A5 e6 F5 g => kz2 d A5 e6 (F5.mono (by omega)) g⟩
      · intro ds A4 e5 F4 hl4 hg eds
        rw [hr3] at hl4 F4
        obtain ⟨cl, rfl, hcl⟩ := lits_of hg
        rw [List.length_map] at hl4
        simp [eds]
        refine kz _ A4 e5 (F4.mono (by omega)) ⟨cl, rfl, ?_⟩
        rw [List.all_eq_true] at hcl
        unfold okC
        simp
        exact ⟨by omega, hcl⟩
    · intro ds A3 e4 F3 hl3 hg eds
      rw [hr6] at hl3 F3
      obtain ⟨r, rfl, hcr⟩ := cls_of hg
      rw [List.length_map] at hl3
      have eq3 := e4 q _ (F.ne1 hq) e3
      simp [eds, s_tyL _ _ _ eq3]
      refine fun p2 hp2 => draw_use (F3.new hp2) (by omega) (by omega) (by omega) fun A4 j j0 j1 e5 F4 => ?_
      have ep4 := e5 p2 _ (F3.ne1 hp2) AH.upd_same
      refine pickR ep4 j0 (by simpa using j1) fun d hd p3 hp3 => ?_
      refine draw_use (F4.new hp3) (by omega) (by omega) (by omega) fun A5 m m0 m1 e6 F5 => ?_
      have ep5 := e6 p3 _ (F4.ne1 hp3) AH.upd_same
      refine pickR ep5 m0 (by simpa using m1) fun d2 hd2 => ?_
      have hd' : ∃ z : Str, d = .str z ∧ (z = Str.ofString "row" ∨ z = Str.ofString "turn") := by
        simp only [List.mem_cons, List.not_mem_nil, or_false] at hd
        rcases hd with rfl | rfl
        · exact ⟨_, rfl, .inl rfl⟩
        · exact ⟨_, rfl, .inr rfl⟩
      have hd2' : ∃ n : Int, d2 = .int n ∧ 1 ≤ n ∧ n < 100000 := by
        simp only [List.mem_cons, List.not_mem_nil, or_false] at hd2
        rcases hd2 with rfl | rfl <;> exact ⟨_, rfl, by omega, by omega⟩
      obtain ⟨z, rfl, hz⟩ := hd'
      obtain ⟨n, rfl, n0, n1⟩ := hd2'
      obtain ⟨pl, epl, okpl⟩ := placeG hz n0 n1 ⟨r, rfl, by
        unfold okR
        simp
        exact ⟨by omega, hcr⟩⟩
      have eq5 := e6 q _ (F.ne1 hq) ((AExt.new (o := .lst [.int 1, .int 1000]) hp3) _ _ (e5 q _ (F.ne1 hq) ((AExt.new hp2) _ _ eq3)))
      rw [show D.tup (List.map clD r) = rsD r from rfl, epl, s_append _ _ _ _ _ eq5]
      refine ⟨Nat.lt_of_le_of_lt (show _ ≤ 22 by simp; omega) (Nat.lt_of_lt_of_le (by omega) (big (n := 30))), kN _ _ ⟨done ++ [pl], _, _, by simp; omega, rfl, ?_, ?_, ?_, ?_⟩⟩
      · rw [AH.upd_same, List.map_append]
        rfl
      · intro x hx
        rcases List.mem_append.mp hx with hx | hx
        · exact okd x hx
        · rw [List.mem_singleton.mp hx]
          exact okpl
      · intro a o n ha
        rw [AH.upd_ne (AH.ne ha hq)]
        exact e6 a o n ((AExt.new hp3) _ _ (e5 a o n ((AExt.new hp2) _ _ (e4 a o n (ex a o n ha)))))
      · refine (F5.upd (F.ne1 hq) (F.ne2 hq)).mono ?_
        rw [List.length_append, List.length_singleton]
        omega
  · rintro st A' ⟨done, o2, o5, hl, rfl, e3, okd, ex, F2⟩
    simp at hl
    simp
    refine fun p hp => comp_gen (S := fun a => a = f) (I := fun k A => Feed f s l (c + 92 * done.length + 1 * k) A) (G := SeatG) (rangeD 0 6) A' 0 hp (F2.ne1 hp) F2 (fun k A o h => h.upd (F2.ne1 hp) (F2.ne2 hp)) (by rw [hr6]; exact big) (fun _ _ => trivial) ?_ ?_
    · intro k' y A3 Z hy hk e4 F3 kz
      rw [hr6] at hk
      obtain ⟨t, ht, rfl⟩ := List.mem_map.mp hy
      have ht6 : t < 6 := List.mem_range.mp ht
      have hat : atI (Str.ofString "abcdef").cps.toList (t : Int) = some (97 + t) := atI_nat (abc_at t ht)
      simp [hat, abc_len]
      refine ⟨⟨by omega, by omega⟩, fun p3 hp3 => draw_use (F3.new hp3) (by omega) (by omega) (by omega) fun A5 m m0 m1 e6 F5 => ?_⟩
      have ep5 := e6 p3 _ (F3.ne1 hp3) AH.upd_same
      refine pickR ep5 m0 (by simpa using m1) fun d2 hd2 => ?_
      refine kz _ A5 ((extNew hp3).trans e6) (F5.mono (by omega)) ?_
      simp only [List.mem_cons, List.not_mem_nil, or_false] at hd2
      rcases hd2 with rfl | rfl
      · exact ⟨(tl (repS ⟨#[97 + t]⟩ (3 + (t : Int))), 1), rfl, abc_ok t ht, by show 1 ≤ 1; omega, by show 1 < 10 ^ 12; omega⟩
      · exact ⟨(tl (repS ⟨#[97 + t]⟩ (3 + (t : Int))), 20), rfl, abc_ok t ht, by show 1 ≤ 20; omega, by show 20 < 10 ^ 12; omega⟩
    · intro ds A3 e4 F3 hl3 hg eds
      rw [hr6] at hl3 F3
      obtain ⟨ss, rfl, hss⟩ := seats_of hg
      rw [List.length_map] at hl3
      have eq3 := e4 q _ (F.ne1 hq) e3
      simp [eds]
      refine fun p2 hp2 => draw_use (F3.new hp2) (by omega) (by omega) (by omega) fun A4 j j0 j1 e5 F4 => ?_
      have ep4 := e5 p2 _ (F3.ne1 hp2) AH.upd_same
      have eq4 := e5 q _ (F.ne1 hq) ((AExt.new hp2) _ _ eq3)
      refine pickR ep4 j0 (by simpa using j1) fun d hd => ?_
      simp [eq4]
      have hzz : isW (tl (Str.ofString "zzzzzzzz")) = true := by decide +kernel
      have fin : ∀ a b c' d' : Nat, 1 ≤ a → a < 100 → 1 ≤ b → b < 100 → c' < 100 → 1 ≤ d' → d' < 100 → DeedG (.tup [.str (Str.ofString "zzzzzzzz"), .tup (done.map placeD), .tup (ss.map seatD), .tup [.int (a : Nat), .int (b : Nat), .int (c' : Nat), .int (d' : Nat)]]) := fun a b c' d' h1 h2 h3 h4 h5 h6 h7 =>
        ⟨⟨tl (Str.ofString "zzzzzzzz"), done, ss, a, b, c', d'⟩, rfl, ⟨hzz, ⟨by show 1 ≤ done.length; omega, by show done.length ≤ 8; omega⟩, okd, ⟨by show 1 ≤ ss.length; omega, by show ss.length ≤ 10; omega⟩, hss, ⟨h1, by show a < 10 ^ 12; omega⟩, ⟨h3, by show b < 10 ^ 12; omega⟩, by show c' < 10 ^ 12; omega, ⟨h6, by show d' < 10 ^ 12; omega⟩⟩, by show ss.length ≤ 9; omega⟩
      refine k _ A4 (ex.trans (e4.trans ((extNew hp2).trans e5))) (F4.mono (by omega)) ?_
      simp only [List.mem_cons, List.not_mem_nil, or_false] at hd
      rcases hd with rfl | rfl
      · exact fin 1 1 0 1 (by omega) (by omega) (by omega) (by omega) (by omega) (by omega) (by omega)
      · exact fin 30 3 60 9 (by omega) (by omega) (by omega) (by omega) (by omega) (by omega) (by omega)
end K82

/-! the law -/
namespace K82
open PySem PySem.Spec PyProof.Rows L2 PD SX

theorem parts_len2 {l : Lit} (h : l.ok = true) : ∀ p ∈ l.parts, p.length ≤ 36 := by
  cases l with
  | plc o ws =>
    obtain ⟨⟨h1, h2⟩, h3, _⟩ := okws_of h
    intro p hp
    simp only [Lit.parts, List.mem_cons, List.not_mem_nil, or_false] at hp
    rcases hp with rfl | rfl
    · rcases tlP o with e | e <;> (rw [e]; simp)
    · have := join_len (c := 44) (b := 8) (ps := ws) fun p hp => (isW_len (h3 p hp)).2
      omega
  | age lo hi =>
    intro p hp
    simp only [Lit.parts, List.mem_cons, List.not_mem_nil, or_false] at hp
    have hlo : lo < 10 ^ 12 := by
      cases hi <;> simp [Lit.ok] at h <;> omega
    rcases hp with rfl | rfl | rfl
    · rw [tlA]; simp
    · have := num_len hlo
      omega
    · cases hi with
      | none => simp [hiW]
      | some n =>
        simp [Lit.ok] at h
        have := num_len (n := n) (by omega)
        simp only [hiW]
        omega
  | tie f n =>
    intro p hp
    simp only [Lit.parts, List.mem_cons, List.not_mem_nil, or_false] at hp
    simp [Lit.ok] at h
    rcases hp with rfl | rfl
    · rcases tlK f with e | e <;> (rw [e]; simp)
    · have := num_len (n := n) (by omega)
      omega
theorem litw_len2 {l : Lit} (h : l.ok = true) : l.w.length ≤ 111 := by
  have h1 := (parts_len h).1
  have := join_len (c := 58) (parts_len2 h)
  have h3 : l.parts.length * (36 + 1) ≤ 3 * 37 := Nat.mul_le_mul_right _ h1
  unfold Lit.w
  omega
theorem clW_len2 {c : List Lit} (h : okC c = true) : (clW c).length ≤ 336 := by
  obtain ⟨⟨_, h1⟩, h2⟩ := okC_of h
  have := join_len (c := 124) (b := 111) (ps := c.map Lit.w) fun p hp => by
    obtain ⟨l, hl, rfl⟩ := List.mem_map.mp hp
    exact litw_len2 (h2 l hl)
  rw [List.length_map] at this
  unfold clW
  omega
theorem rsW_len2 {r : Rules} (h : okR r = true) : (rsW r).length ≤ 2022 := by
  obtain ⟨h1, h2⟩ := okR_of h
  unfold rsW
  split
  · simp
  · have := join_len (c := 59) (b := 336) (ps := r.map clW) fun p hp => by
      obtain ⟨l, hl, rfl⟩ := List.mem_map.mp hp
      exact clW_len2 (h2 l hl)
    rw [List.length_map] at this
    omega
theorem rsw_small {r : Rules} (h : okR r = true) : ∀ c ∈ rsW r, c < 0x110000 := fun c hc => by
  have := rsw_c h hc
  unfold okc at this
  omega
theorem rsw_fit {r : Rules} (h : okR r = true) : Fit (.str (S (rsW r))) 0 2022 := Fit.txt (rsw_small h) (rsW_len2 h)
theorem num_c {n c : Nat} (hc : c ∈ TL.numL n) : c < 0x110000 := by
  have h : ¬ (c < 48 ∨ 57 < c) := fun q => TL.numL_free q hc
  omega
theorem ThingOk.len2 {f : Str} {w : List Nat} {d : D} (h : ThingOk f w d) : w.length ≤ 2022 ∧ ∀ c ∈ w, c < 0x110000 := by
  cases h with
  | name w h => exact ⟨by have := isW_len h; omega, fun c hc => by have := isW_c h hc; omega⟩
  | number n h => exact ⟨by have := num_len h; omega, fun c hc => num_c hc⟩
  | above n h h2 => exact ⟨by have := num_len h2; omega, fun c hc => num_c hc⟩
  | rules r h => exact ⟨rsW_len2 h, rsw_small h⟩
  | sort b => cases b <;> decide +kernel
theorem ThAll.mem2 {fs : List Str} {ws : List (List Nat)} {ds : List D} (h : ThAll fs ws ds) : ∀ w ∈ ws, w.length ≤ 2022 ∧ ∀ c ∈ w, c < 0x110000 := by
  induction h with
  | nil => intro w h; cases h
  | cons h1 _ ih =>
    intro w hw
    rcases List.mem_cons.mp hw with rfl | hw
    · exact h1.len2
    · exact ih w hw
theorem ln_fit {l : Ln} (h : l.Ok) : Fit (lnS l) 0 10115 := by
  obtain ⟨fs, _, h2, h3⟩ := h.th
  have hall : ∀ p ∈ tl l.h :: l.ws, p.length ≤ 2022 ∧ ∀ c ∈ p, c < 0x110000 := by
    intro p hp
    rcases List.mem_cons.mp hp with rfl | hp
    · refine ⟨?_, fun c hc => ?_⟩
      · have := h.ln.1
        have e : l.h.length = (tl l.h).length := TL.len_tl l.h
        omega
      · have hs : (l.h.cps.all (· < 0x110000)) = true := h.ln.2
        rw [← Array.all_toList, List.all_eq_true] at hs
        exact of_decide_eq_true (hs c hc)
    · exact h2.mem2 p hp
  have := join_len (c := 32) (b := 2022) (ps := tl l.h :: l.ws) fun p hp => (hall p hp).1
  rw [List.length_cons, h2.lens.1] at this
  have h4 : (fs.length + 1) * (2022 + 1) ≤ 5 * 2023 := Nat.mul_le_mul_right _ (by omega)
  refine Fit.txt (fun c hc => ?_) (by unfold Ln.w; omega)
  rcases join_mem hc with rfl | ⟨p, hp, hc⟩
  · omega
  · exact (hall p hp).2 c hc
theorem ls_fit {dd : Deed} (h : dd.Ok) : FitL (dd.ls.map lnS) 0 300000 := by
  refine (FitL.all (a := 0) (b := 10115) fun d hd => ?_).mono (Nat.le_refl _) ?_
  · obtain ⟨l, hl, rfl⟩ := List.mem_map.mp hd
    exact ln_fit (ls_ok h l hl)
  · rw [List.length_map, ls_len]
    have := h.pn.2
    have := h.sn.2
    have : (dd.ps.length + dd.ss.length + 2) * (10115 + 1) ≤ 20 * 10116 := Nat.mul_le_mul_right _ (by omega)
    omega
def Deed.more (dd : Deed) : Deed := { dd with ss := dd.ss ++ [([97], 1)] }
theorem more_ok {dd : Deed} (h : dd.Ok) (h9 : dd.ss.length ≤ 9) : dd.more.Ok :=
  ⟨h.f, h.pn, h.po, ⟨by show 1 ≤ (dd.ss ++ [([97], 1)]).length; simp, by show (dd.ss ++ [([97], 1)]).length ≤ 10; simp; omega⟩, fun x hx => by
    rcases List.mem_append.mp (show x ∈ dd.ss ++ [([97], 1)] from hx) with hx | hx
    · exact h.so x hx
    · rw [List.mem_singleton.mp hx]
      exact ⟨by decide, by show 1 ≤ 1; omega, by show 1 < 10 ^ 12; omega⟩, h.a, h.b, h.c, h.e⟩
theorem more_txt : lnS (seatL ([97], 1)) = .str (Str.ofString "seat a 1") := by
  unfold lnS
  rw [show S (seatL ([97], 1)).w = Str.ofString "seat a 1" by decide +kernel]
theorem more_ls (dd : Deed) : dd.more.ls.map lnS = dd.ls.map lnS ++ [.str (Str.ofString "seat a 1")] := by
  rw [← more_txt]
  simp [Deed.more, Deed.ls, founderL, termsL]
theorem more_d (dd : Deed) : dd.more.d = .tup [.str (S dd.f), .tup (dd.ps.map placeD), .tup (dd.ss.map seatD ++ [.tup [.str (Str.ofString "a"), .int 1]]), .tup [.int (dd.t1 : Nat), .int (dd.t2 : Nat), .int (dd.t3 : Nat), .int (dd.t4 : Nat)]] := by
  have e : S [97] = Str.ofString "a" := by decide +kernel
  simp [Deed.more, Deed.d, seatD, e]

def F_law (x : D) (A : AH) (Q : DK) : Prop := ∃ l, ScriptIs x l A ∧ ∀ A', Q (.bl true) A'
abbrev sp_law : DSp := sp1 F_law
def t_law : DTS := dSeq (dAsg (dCall sp__law_feed (dCons (dVar 0) (dNil))) (dgName 1)) (dSeq (dAsg (dOp opAdd (dLc (iRange1 (dCons (dC (.int 3)) (dNil))) (dgName 10) (dYes) (dCall sp__law_deed (dCons (dVar 1) (dCons (dCall sp__law_people (dCons (dVar 1) (dCons (dOp opAdd (dC (.int 3)) (dCall sp__law_draw (dCons (dVar 1) (dCons (dC (.int 6)) (dNil))))) (dNil)))) (dNil)))) [10]) (dLst (dCons (dCall sp__law_great_deed (dCons (dVar 1) (dNil))) (dNil)))) (dgName 2)) (dSeq (dFor (iSeq (dOp opAdd (dVar 2) (dSl (dVar 2) (dNoPart) (dPart (dC (.int 1)))))) (dgName 3) (dSeq (dAsg (dCB cRepr (dCons (dVar 3) (dNil))) (dgName 4)) (dSeq (dFor (iSeq (dOp opIx (dVar 3) (dC (.int 1)))) (dgTup 3 (dgCons (dgName 6) (dgCons (dgName 7) (dgCons (dgName 8) (dgNil))))) (dSeq (dAsg (dCall sp_rules_word (dCons (dVar 8) (dNil))) (dgName 9)) (dIfS (dOr (dTest (dOp (opNe) (dCB cRepr (dCons (dVar 9) (dNil))) (dCB cRepr (dCons (dCall sp__law_rules_word (dCons (dVar 8) (dNil))) (dNil))))) (dTest (dOp (opNe) (dCB cRepr (dCons (dCall sp_read_rules (dCons (dVar 9) (dNil))) (dNil))) (dCB cRepr (dCons (dVar 8) (dNil)))))) (dRet (dC (.bl false))) (dNext)))) (dSeq (dAsg (dCall sp_deed_lines (dCons (dVar 3) (dNil))) (dgName 5)) (dSeq (dIfS (dOr (dTest (dOp (opNe) (dCB cRepr (dCons (dVar 5) (dNil))) (dCB cRepr (dCons (dCall sp__law_deed_lines (dCons (dVar 3) (dNil))) (dNil))))) (dTest (dOp (opNe) (dCB cRepr (dCons (dCall sp_read_deed (dCons (dVar 5) (dNil))) (dNil))) (dCB cRepr (dCons (dVar 3) (dNil)))))) (dRet (dC (.bl false))) (dNext)) (dSeq (dDrop (dM "list" mAppend (dVar 5) (dCons (dC (.str "seat a 1")) (dNil)))) (dSeq (dIfS (dOr (dTest (dOp (opNe) (dCB cRepr (dCons (dCall sp_deed_lines (dCons (dVar 3) (dNil))) (dNil))) (dCB cRepr (dCons (dCall sp__law_deed_lines (dCons (dVar 3) (dNil))) (dNil))))) (dTest (dOp (opNe) (dCB cRepr (dCons (dVar 3) (dNil))) (dVar 4)))) (dRet (dC (.bl false))) (dNext)) (dIfS (dTest (dOp (opNe) (dCB cRepr (dCons (dCall sp_read_deed (dCons (dVar 5) (dNil))) (dNil))) (dCB cRepr (dCons (dOp opAdd (dOp opAdd (dSl (dVar 3) (dNoPart) (dPart (dC (.int 2)))) (dTup (dCons (dOp opAdd (dOp opIx (dVar 3) (dC (.int 2))) (dTup (dCons (dTup (dCons (dC (.str "a")) (dCons (dC (.int 1)) (dNil)))) (dNil)))) (dNil)))) (dSl (dVar 3) (dPart (dC (.int 3))) (dNoPart))) (dNil))))) (dRet (dC (.bl false))) (dNext))))))))) (dRet (dC (.bl true)))))
theorem r_law : ∀ x A Q, F_law x A Q → t_law { nx := fun _ A' => Q .non A', rt := Q } (some x :: List.replicate 10 none) A := by
  rintro x A Q ⟨l, hx, k⟩
  simp only [t_law, s_seq, s_asg, s_op, s_sl, s_var, s_c, s_noPart, s_part, List.replicate]
  try simp
  refine ⟨l, hx, fun A1 f s e1 hf F => ?_⟩
  have hr3 : (rangeD 0 3).length = 3 := rangeD_length
  refine fun p hp => comp_gen (S := fun a => a = f) (I := fun k A => Feed f s (l.take 63) (203 * k) A) (G := DeedG) (rangeD 0 3) A1 0 hp (F.ne1 hp) F (fun k A o h => h.upd (F.ne1 hp) (F.ne2 hp)) (by rw [hr3]; exact big) (fun _ _ => trivial) ?_ ?_
  · intro k' y A2 Z hy hk e2 F2 kz
    rw [hr3] at hk
    try simp
    refine draw_use F2 (by omega) (by omega) (by omega) fun A3 i h0 h1 e3 F3 => ?_
    try simp
    refine ⟨f, s, _, _, 3 + i, rfl, rfl, by omega, by omega, F3, by omega, fun pp ws A4 e4 F4 hpp epp hwl hws => ?_⟩
    refine ⟨f, s, _, _, pp, ws, rfl, rfl, F3.ne1 hpp, epp, by omega, by omega, hws, F4, by omega, fun d A5 e5 F5 g => ?_⟩
    exact kz d A5 (e3.trans (e4.trans e5)) (F5.mono (by omega)) g
  · intro ds A2 e2 F2 hl2 hg eds
    rw [hr3] at hl2 F2
    refine ⟨f, s, _, _, rfl, F2, by omega, fun d A3 e3 F3 g => ?_⟩
    have eds3 := e3 p _ (F.ne1 hp) eds
    refine fun p2 hp2 => ?_
    have hne : p ≠ p2 := AH.ne eds3 hp2
    rw [s_addL _ _ _ _ _ _ (by rw [AH.upd_ne hne]; exact eds3) AH.upd_same]
    refine ⟨by simp [hl2], fun p3 hp3 => ?_⟩
    have hfour : ∀ z ∈ ds ++ [d], DeedG z := by
      intro z hz
      rcases List.mem_append.mp hz with hz | hz
      · exact hg z hz
      · rw [List.mem_singleton.mp hz]
        exact g
    have hl4 : (ds ++ [d]).length = 4 := by simp [hl2]
    generalize ds ++ [d] = es at hfour hl4 ⊢
    generalize A3.upd p2 (.lst [d]) = B3 at hp3 ⊢
    rw [s_slR, AH.upd_same, s_seqL, s_onS, cutT1]
    refine fun p4 hp4 => ?_
    have hne4 : p3 ≠ p4 := AH.ne AH.upd_same hp4
    rw [s_addL _ _ _ _ _ _ (by rw [AH.upd_ne hne4]; exact AH.upd_same) AH.upd_same]
    refine ⟨by simp [hl4], fun p5 hp5 => ?_⟩
    have hfive : ∀ z ∈ es ++ es.take 1, DeedG z := by
      intro z hz
      rcases List.mem_append.mp hz with hz | hz
      · exact hfour z hz
      · exact hfour z (List.mem_of_mem_take hz)
    generalize es ++ es.take 1 = fs at hfive ⊢
    generalize (B3.upd p3 (.lst es)).upd p4 (.lst (es.take 1)) = B4 at hp5 ⊢
    show onS (seqA ((B4.upd p5 (.lst fs)) p5)) _
    rw [AH.upd_same, s_seqL, s_onS]
    refine for_ok (fun items st A' => ∃ (o3 o4 o5 o6 o7 o8 o9 : Option D), (∀ z ∈ items, DeedG z) ∧ st = [some x, some (.ref f), some (.ref p3), o3, o4, o5, o6, o7, o8, o9, none] ∧ A' p5 = some (.lst fs))
      ?_ ?_ ?_ _ _ _ ⟨none, none, none, none, none, none, none, hfive, rfl, AH.upd_same⟩
    · rintro xs st A' ⟨o3, o4, o5, o6, o7, o8, o9, _, _, e5⟩
      rw [e5]
      rfl
    · rintro z xs st A' N ⟨o3, o4, o5, o6, o7, o8, o9, hz, rfl, e5⟩ kN
      obtain ⟨dd, rfl, ok, h9⟩ := hz _ List.mem_cons_self
      have dfit := deed_fit ok
      have lfit := ls_fit ok
      try simp
      refine repr_fit dfit (by omega) (by omega) ?_
      show opIx dd.d (.int 1) A' _
      rw [show dd.d = .tup [.str (S dd.f), .tup (dd.ps.map placeD), .tup (dd.ss.map seatD), .tup [.int (dd.t1 : Nat), .int (dd.t2 : Nat), .int (dd.t3 : Nat), .int (dd.t4 : Nat)]] from rfl, s_ixT, at1, s_onS, ← show dd.d = .tup [.str (S dd.f), .tup (dd.ps.map placeD), .tup (dd.ss.map seatD), .tup [.int (dd.t1 : Nat), .int (dd.t2 : Nat), .int (dd.t3 : Nat), .int (dd.t4 : Nat)]] from rfl]
      refine for_ok (fun items st A2 => ∃ (rest : List Place) (o6 o7 o8 o9 : Option D), items = rest.map placeD ∧ (∀ x ∈ rest, okP x) ∧ st = [some x, some (.ref f), some (.ref p3), some dd.d, some (.str dd.d.py.shown), o5, o6, o7, o8, o9, none] ∧ AExt A' A2)
        (fun _ _ _ _ => trivial) ?_ ?_ _ _ _ ⟨dd.ps, _, _, _, _, rfl, ok.po, rfl, .refl _⟩
      · rintro y ys st A2 N2 ⟨rest, o6, o7, o8, o9, ei, hok, rfl, ex⟩ kN2
        cases rest with
        | nil => cases ei
        | cons c rest =>
          simp only [List.map_cons, List.cons.injEq] at ei
          obtain ⟨rfl, rfl⟩ := ei
          have okc := hok c List.mem_cons_self
          simp only [placeD, s_gTup, s_gCons, s_gName, s_gNil, List.length_cons, List.length_nil, true_and]
          try simp
          refine ⟨c.2.2, rfl, okc.2, fun A3 e3 => ?_⟩
          refine repr_fit (rsw_fit okc.2) (by omega) (by omega) ?_
          try simp
          refine ⟨c.2.2, rfl, okc.2, fun A4 e4 => ?_⟩
          refine repr_fit (rsw_fit okc.2) (by omega) (by omega) ?_
          try simp
          refine ⟨c.2.2, rfl, okc.2, fun A5 e5 => ?_⟩
          refine repr_fit (rs_fit okc.2) (by omega) (by omega) ?_
          try simp
          refine repr_fit (rs_fit okc.2) (by omega) (by omega) ?_
          try simp
          exact kN2 _ _ ⟨rest, _, _, _, _, rfl, fun x hx => hok x (List.mem_cons_of_mem _ hx), rfl, ex.trans (e3.trans (e4.trans e5))⟩
      · rintro st A2 ⟨rest, o6, o7, o8, o9, ei, hok, rfl, ex⟩
        cases rest with
        | cons c rest => cases ei
        | nil =>
        have e52 := ex _ _ e5
        try simp
        refine ⟨dd, rfl, ok, fun A3 q e3 hq eq3 => ?_⟩
        have e53 := e3 _ _ e52
        have hq5 : p5 ≠ q := AH.ne e52 hq
        refine repr_lst eq3 lfit (by omega) (by omega) ?_
        try simp
        refine ⟨dd, rfl, ok, fun A4 q2 e4 hq2 eq4 => ?_⟩
        refine repr_lst eq4 lfit (by omega) (by omega) ?_
        try simp
        refine ⟨q, dd, rfl, e4 _ _ eq3, ok, fun A5 e5' => ?_⟩
        refine repr_fit dfit (by omega) (by omega) ?_
        try simp
        refine repr_fit dfit (by omega) (by omega) ?_
        try simp
        have eq5 := e5' _ _ (e4 _ _ eq3)
        have e55 := e5' _ _ (e4 _ _ e53)
        refine ⟨s_tyL _ _ _ eq5, ?_⟩
        rw [s_append _ _ _ _ _ eq5]
        have hpn := ok.pn.2
        refine ⟨Nat.lt_of_le_of_lt (show _ ≤ 22 by rw [List.length_map, ls_len]; omega) (Nat.lt_of_lt_of_le (by omega) (big (n := 30))), ?_⟩
        have e56 : (A5.upd q (.lst (dd.ls.map lnS ++ [.str (Str.ofString "seat a 1")]))) p5 = some (.lst fs) := by rw [AH.upd_ne hq5]; exact e55
        have eq6 : (A5.upd q (.lst (dd.ls.map lnS ++ [.str (Str.ofString "seat a 1")]))) q = some (.lst (dd.more.ls.map lnS)) := by rw [AH.upd_same, more_ls]
        generalize A5.upd q (.lst (dd.ls.map lnS ++ [.str (Str.ofString "seat a 1")])) = A6 at e56 eq6 ⊢
        refine ⟨dd, rfl, ok, fun A7 q7 e7 hq7 eq7 => ?_⟩
        refine repr_lst eq7 lfit (by omega) (by omega) ?_
        try simp
        refine ⟨dd, rfl, ok, fun A8 q8 e8 hq8 eq8 => ?_⟩
        refine repr_lst eq8 lfit (by omega) (by omega) ?_
        try simp
        refine repr_fit dfit (by omega) (by omega) ?_
        try simp
        refine ⟨q, dd.more, rfl, e8 _ _ (e7 _ _ eq6), more_ok ok h9, fun A9 e9 => ?_⟩
        refine repr_fit (deed_fit (more_ok ok h9)) (by omega) (by omega) ?_
        rw [show dd.d = .tup [.str (S dd.f), .tup (dd.ps.map placeD), .tup (dd.ss.map seatD), .tup [.int (dd.t1 : Nat), .int (dd.t2 : Nat), .int (dd.t3 : Nat), .int (dd.t4 : Nat)]] from rfl]
        have hsz : dd.ss.length + 1 ≤ sizeLine := big (by omega)
        simp [hsz]
        rw [← more_d dd]
        refine repr_fit (deed_fit (more_ok ok h9)) (by omega) (by omega) ?_
        try simp
        exact kN _ _ ⟨_, _, _, _, _, _, _, fun x hx => hz x (List.mem_cons_of_mem _ hx), rfl, e9 _ _ (e8 _ _ (e7 _ _ e56))⟩
    · rintro st A' ⟨o3, o4, o5, o6, o7, o8, o9, _, rfl, e5⟩
      try simp
      exact k A'
theorem law_sp (x : D) (ns : List Int) (A : AH) (sc : ScriptIs x ns A) : F_law x A fun d _ => d = .bl true := ⟨ns, sc, fun _ => rfl⟩
end K82

/-! ### the head -/
namespace K82
open PySem PySem.Spec PyProof.Rows L2 PD
def top (i : Nat) : Stmt := PySem.Challenge.pw_almsrow_k82_deeds_as_texts.main.body.getD i (.Pass ⟨0, 0, 0, 0⟩)
def h_literal_word : He.DefD := ⟨("literal_word", none), "literal_word", "literal_word", defArgs (top 1), defBody (top 1), defScope (top 1), [], []⟩
def h_rules_word : He.DefD := ⟨("rules_word", none), "rules_word", "rules_word", defArgs (top 2), defBody (top 2), defScope (top 2), [], []⟩
def h_deed_lines : He.DefD := ⟨("deed_lines", none), "deed_lines", "deed_lines", defArgs (top 3), defBody (top 3), defScope (top 3), [], []⟩
def h_is_word : He.DefD := ⟨("is_word", none), "is_word", "is_word", defArgs (top 10), defBody (top 10), defScope (top 10), [], []⟩
def h_rises : He.DefD := ⟨("rises", none), "rises", "rises", defArgs (top 11), defBody (top 11), defScope (top 11), [], []⟩
def h_are_words : He.DefD := ⟨("are_words", none), "are_words", "are_words", defArgs (top 12), defBody (top 12), defScope (top 12), [], []⟩
def h_number_in : He.DefD := ⟨("number_in", none), "number_in", "number_in", defArgs (top 22), defBody (top 22), defScope (top 22), [], []⟩
def h_stretch_in : He.DefD := ⟨("stretch_in", none), "stretch_in", "stretch_in", defArgs (top 23), defBody (top 23), defScope (top 23), [], []⟩
def h_literal_in : He.DefD := ⟨("literal_in", none), "literal_in", "literal_in", defArgs (top 24), defBody (top 24), defScope (top 24), [], []⟩
def h_rules_in : He.DefD := ⟨("rules_in", none), "rules_in", "rules_in", defArgs (top 25), defBody (top 25), defScope (top 25), [], []⟩
def h_name_in : He.DefD := ⟨("name_in", none), "name_in", "name_in", defArgs (top 26), defBody (top 26), defScope (top 26), [], []⟩
def h_thing_in : He.DefD := ⟨("thing_in", none), "thing_in", "thing_in", defArgs (top 27), defBody (top 27), defScope (top 27), [], []⟩
def h_things_in : He.DefD := ⟨("things_in", none), "things_in", "things_in", defArgs (top 28), defBody (top 28), defScope (top 28), [], []⟩
def h_ended : He.DefD := ⟨("ended", none), "ended", "ended", defArgs (top 29), defBody (top 29), defScope (top 29), [], []⟩
def h_read_rules : He.DefD := ⟨("read_rules", none), "read_rules", "read_rules", defArgs (top 30), defBody (top 30), defScope (top 30), [], []⟩
def h_line_in : He.DefD := ⟨("line_in", none), "line_in", "line_in", defArgs (top 31), defBody (top 31), defScope (top 31), [], []⟩
def h_heads_behind : He.DefD := ⟨("heads_behind", none), "heads_behind", "heads_behind", defArgs (top 32), defBody (top 32), defScope (top 32), [], []⟩
def h_read_deed : He.DefD := ⟨("read_deed", none), "read_deed", "read_deed", defArgs (top 33), defBody (top 33), defScope (top 33), [], []⟩
def h__law_feed : He.DefD := ⟨("_law_feed", none), "_law_feed", "_law_feed", defArgs (top 35), defBody (top 35), defScope (top 35), [], []⟩
def h__law_draw : He.DefD := ⟨("_law_draw", none), "_law_draw", "_law_draw", defArgs (top 36), defBody (top 36), defScope (top 36), [], []⟩
def h__law_people : He.DefD := ⟨("_law_people", none), "_law_people", "_law_people", defArgs (top 37), defBody (top 37), defScope (top 37), [], []⟩
def h__law_literal : He.DefD := ⟨("_law_literal", none), "_law_literal", "_law_literal", defArgs (top 38), defBody (top 38), defScope (top 38), [], []⟩
def h__law_rules : He.DefD := ⟨("_law_rules", none), "_law_rules", "_law_rules", defArgs (top 39), defBody (top 39), defScope (top 39), [], []⟩
def h__law_deed : He.DefD := ⟨("_law_deed", none), "_law_deed", "_law_deed", defArgs (top 40), defBody (top 40), defScope (top 40), [], []⟩
def h__law_literal_word : He.DefD := ⟨("_law_literal_word", none), "_law_literal_word", "_law_literal_word", defArgs (top 41), defBody (top 41), defScope (top 41), [], []⟩
def h__law_rules_word : He.DefD := ⟨("_law_rules_word", none), "_law_rules_word", "_law_rules_word", defArgs (top 42), defBody (top 42), defScope (top 42), [], []⟩
def h__law_deed_lines : He.DefD := ⟨("_law_deed_lines", none), "_law_deed_lines", "_law_deed_lines", defArgs (top 43), defBody (top 43), defScope (top 43), [], []⟩
def h__law_great_literal : He.DefD := ⟨("_law_great_literal", none), "_law_great_literal", "_law_great_literal", defArgs (top 44), defBody (top 44), defScope (top 44), [], []⟩
def h__law_great_deed : He.DefD := ⟨("_law_great_deed", none), "_law_great_deed", "_law_great_deed", defArgs (top 45), defBody (top 45), defScope (top 45), [], []⟩
def h_law : He.DefD := ⟨("law", none), "law", "law", defArgs (top 46), defBody (top 46), defScope (top 46), [], []⟩
def fn_0 : List He.DefD := [h_literal_word, h_rules_word, h_deed_lines, h_is_word, h_rises, h_are_words, h_number_in, h_stretch_in, h_literal_in, h_rules_in, h_name_in, h_thing_in, h_things_in, h_ended, h_read_rules, h_line_in, h_heads_behind, h_read_deed, h__law_feed, h__law_draw, h__law_people, h__law_literal, h__law_rules, h__law_deed, h__law_literal_word, h__law_rules_word, h__law_deed_lines, h__law_great_literal, h__law_great_deed, h_law]
def fn : List He.DefD := fn_0
def fa_0 : List He.Fa := [.glo "literal_word", .glo "rules_word", .glo "deed_lines", .glo "is_word", .glo "rises", .glo "are_words", .glo "number_in", .glo "stretch_in", .glo "literal_in", .glo "rules_in", .glo "name_in", .glo "thing_in", .glo "things_in", .glo "ended", .glo "read_rules", .glo "line_in", .glo "heads_behind", .glo "read_deed", .glo "_law_feed", .glo "_law_draw", .glo "_law_people", .glo "_law_literal", .glo "_law_rules", .glo "_law_deed", .glo "_law_literal_word", .glo "_law_rules_word", .glo "_law_deed_lines", .glo "_law_great_literal", .glo "_law_great_deed", .glo "law"]
def fa_1 : List He.Fa := [.str "LETTERS" "abcdefghijklmnopqrstuvwxyz", .int "LONGEST" 8, .glo "SORTS", .int "MOST_DAY" 99999, .int "MOST_NUMBER" 999, .str "FIGURES" "0123456789", .int "MOST_FIGURES" 12, .int "GREATEST" 999999999999, .glo "LINES", .free "ValueError", .free "all", .free "enumerate", .free "int", .free "isinstance", .free "len", .free "range", .free "repr", .free "str", .free "tuple"]
def fa : List He.Fa := fa_0 ++ fa_1
def frees : List PySem.Str := ["ValueError", "all", "enumerate", "int", "isinstance", "len", "range", "repr", "str", "tuple"]
def names_0 : List PySem.Str := ["__name__", "literal_word", "rules_word", "deed_lines", "AlmsError", "NoText", "LETTERS", "LONGEST", "is_word", "rises", "are_words", "SORTS", "MOST_DAY", "MOST_NUMBER", "FIGURES", "MOST_FIGURES", "GREATEST", "PAGES", "LINES", "number_in", "stretch_in", "literal_in", "rules_in", "name_in", "thing_in", "things_in", "ended", "read_rules", "line_in", "heads_behind"]
def names_1 : List PySem.Str := ["read_deed", "_law_feed", "_law_draw", "_law_people", "_law_literal", "_law_rules", "_law_deed", "_law_literal_word", "_law_rules_word", "_law_deed_lines", "_law_great_literal", "_law_great_deed"]
def names : List PySem.Str := names_0 ++ names_1
def tabs : List He.Tab := [((fun K => He.ga K "LINES"), tbLines.map (·.1))]
def extra (K : PySem.W.Frag) : Bool := tabB K (He.ga K "LINES") tbLines && (tupS K (He.ga K "SORTS") tpSorts)
abbrev R : PySem.W.OpenRow := PySem.W.OpenLaw.row PySem.Challenge.rw_almsrow_k82_deeds_as_texts
abbrev hk : PySem.W.Hook := He.hookX 6 fa fn tabs [] extra
def ob (s : PySem.W.SharedT) : He.AlX := He.obsX 6 fa fn tabs [] extra (HandSHeadRun.getT s)
theorem ob_eq (s : PySem.W.SharedT) : ob s = hk.obs s.abs := He.obsX_eq (HandSHeadRun.getT_eq s)
theorem runF (w : World) : HandSHeadRun.RunEq R (PySem.W.view R.prog [46]) hk ob 4000 names (w.withFollow "special-get-raises" false) := by
  intro os
  kernel_rfl
theorem runT (w : World) : HandSHeadRun.RunEq R (PySem.W.view R.prog [46]) hk ob 4000 names (w.withFollow "special-get-raises" true) := by
  intro os
  kernel_rfl
theorem run (w : World) : HandSHeadRun.RunEq R (PySem.W.view R.prog [46]) hk ob 4000 names w := PySem.W.byRow2 "special-get-raises" (P := fun w => HandSHeadRun.RunEq R (PySem.W.view R.prog [46]) hk ob 4000 names w) runF runT w
def freeB (x : PySem.Str) : Bool := fa.any fun q => match q with
  | .free y => decide (y = x)
  | _ => false
/-- what the text's names stand for -/
structure Txt (K : PySem.W.Frag) (mg : Str → Option Value) (w : World) : Prop where
  ex : ∃ (h h0 : Heap), K.In h ∧ h.Ns mainGlobals mg ∧ He.SaysX fa fn tabs [] extra w h0 K
section
variable {K : PySem.W.Frag} {mg : Str → Option Value} {w : World}
theorem Txt.free (E : Txt K mg w) {x : Str} (hx : freeB x = true) : mg x = none := by
  obtain ⟨q, hq, e⟩ := List.any_eq_true.mp hx
  have h : (He.Fa.free x) ∈ fa := by
    cases q with
    | free y =>
      have e2 : y = x := of_decide_eq_true e
      rw [← e2]
      exact hq
    | _ => cases e
  obtain ⟨h1, h0, X, G, S⟩ := E.ex
  exact He.free_ok X G (S.t.d.facts h)
theorem Txt.glo (E : Txt K mg w) {x : Str} (h : (He.Fa.glo x) ∈ fa) : mg x = some (.ref (He.ga K x)) := by
  obtain ⟨h1, h0, X, G, S⟩ := E.ex
  exact He.glo_ok X G (S.t.d.facts h)
theorem Txt.def_ (E : Txt K mg w) {d : He.DefD} (h : d ∈ fn) : ∃ fd, FunD K d.name d.qual d.params d.body d.scope (d.dvs K) (d.kws K) (He.fAd K d.at_) fd := by
  obtain ⟨h1, h0, X, G, S⟩ := E.ex
  exact S.t.d.defs h
theorem Txt.more (E : Txt K mg w) : extra K = true := by
  obtain ⟨h1, h0, X, G, S⟩ := E.ex
  exact S.more
theorem Txt.g_LETTERS (E : Txt K mg w) : ∃ t, mg "LETTERS" = some (.str "abcdefghijklmnopqrstuvwxyz" t) := by
  obtain ⟨h1, h0, X, G, S⟩ := E.ex
  exact He.str_ok X G (S.t.d.fact 30 rfl)
theorem Txt.g_LONGEST (E : Txt K mg w) : ∃ t, mg "LONGEST" = some (.int 8 t) := by
  obtain ⟨h1, h0, X, G, S⟩ := E.ex
  exact He.int_ok X G (S.t.d.fact 31 rfl)
theorem Txt.g_SORTS (E : Txt K mg w) : mg "SORTS" = some (.ref (He.ga K "SORTS")) := by
  obtain ⟨h1, h0, X, G, S⟩ := E.ex
  exact He.glo_ok X G (S.t.d.fact 32 rfl)
theorem Txt.g_MOST_DAY (E : Txt K mg w) : ∃ t, mg "MOST_DAY" = some (.int 99999 t) := by
  obtain ⟨h1, h0, X, G, S⟩ := E.ex
  exact He.int_ok X G (S.t.d.fact 33 rfl)
theorem Txt.g_MOST_NUMBER (E : Txt K mg w) : ∃ t, mg "MOST_NUMBER" = some (.int 999 t) := by
  obtain ⟨h1, h0, X, G, S⟩ := E.ex
  exact He.int_ok X G (S.t.d.fact 34 rfl)
theorem Txt.g_FIGURES (E : Txt K mg w) : ∃ t, mg "FIGURES" = some (.str "0123456789" t) := by
  obtain ⟨h1, h0, X, G, S⟩ := E.ex
  exact He.str_ok X G (S.t.d.fact 35 rfl)
theorem Txt.g_MOST_FIGURES (E : Txt K mg w) : ∃ t, mg "MOST_FIGURES" = some (.int 12 t) := by
  obtain ⟨h1, h0, X, G, S⟩ := E.ex
  exact He.int_ok X G (S.t.d.fact 36 rfl)
theorem Txt.g_GREATEST (E : Txt K mg w) : ∃ t, mg "GREATEST" = some (.int 999999999999 t) := by
  obtain ⟨h1, h0, X, G, S⟩ := E.ex
  exact He.int_ok X G (S.t.d.fact 37 rfl)
theorem Txt.g_LINES (E : Txt K mg w) : mg "LINES" = some (.ref (He.ga K "LINES")) := by
  obtain ⟨h1, h0, X, G, S⟩ := E.ex
  exact He.glo_ok X G (S.t.d.fact 38 rfl)
theorem Txt.b_LINES (E : Txt K mg w) : Tab K w (He.ga K "LINES") tbLines := by
  have h := E.more
  obtain ⟨h1, h0, X, G, S⟩ := E.ex
  exact tab_of (S.t.tab 0 rfl) (He.ba h).1
theorem Txt.b_SORTS (E : Txt K mg w) : tupS K (He.ga K "SORTS") tpSorts = true := by
  have h := E.more
  exact (He.ba h).2
end
/-! ### the derivations -/
section
variable {P : Program} {w : World} {K : PySem.W.Frag} {mg : Str → Option Value} {base : Heap}
theorem sc_literal_word : FnScope ["literal", "thing"] ["literal"] (defScope (top 1)) := ⟨rfl, rfl, rfl, by decide +kernel, rfl, by decide +kernel, by decide +kernel⟩
theorem c_literal_word (E : Txt K mg w) : Cal P w K mg base "literal_word" 1 sp_literal_word := by
  obtain ⟨fd, F⟩ := E.def_ (d := h_literal_word) (by simp [fn, fn_0])
  exact cal_of (N := ["literal", "thing"]) (ps := ["literal"]) (t := t_literal_word) F (E.glo (x := "literal_word") (by simp [fa, fa_0, fa_1])) sc_literal_word (fun _ _ _ _ _ _ _ _ _ us hl => match us, hl with | [_], _ => rfl) (fun _ _ _ _ h => sp1_len h)
    (fun cdv A outer s H hr => (qss_cons (qs_if (qt_cmp oq_in (q_ix (q_var 0) q_int (fun _ _ => rfl)) (q_tup (qa_cons q_str (qa_cons q_str qa_nil))) rfl) (qss_one (qs_ret (q_op oq_add (q_op oq_add (q_ix (q_var 0) q_int (fun _ _ => rfl)) q_str) (q_m PySem.F.plainAttrs_str PySem.F.slot_str_join PySem.F.type_str_join mq_join (.inl rfl) q_str (qa_cons (q_ix (q_var 0) q_int (fun _ _ => rfl)) qa_nil))))) qss_nil) (qss_one (qs_ret (q_m PySem.F.plainAttrs_str PySem.F.slot_str_join PySem.F.type_str_join mq_join (.inl rfl) q_str (qa_cons (q_lc rfl sc_literal_word.nd (blkOk_by (own := [("thing", 1)]) (by kernel_rfl)) (qi_seq (q_var 0)) (fun _ _ _ _ _ => (qgv_name 1 sc_literal_word.nd)) (fun _ _ _ _ _ => qts_nil) (fun _ _ _ _ _ => (q_if (qt_cmp oq_isN (q_var 1) q_non (nomark _)) q_str (q_callTy cq_str rfl (E.free (by decide +kernel)) (by decide +kernel) (qa_cons (q_var 1) qa_nil))))) qa_nil))))))
    (sp1_read r_literal_word rfl)
theorem sc_rules_word : FnScope ["rules", "clause", "literal"] ["rules"] (defScope (top 2)) := ⟨rfl, rfl, rfl, by decide +kernel, rfl, by decide +kernel, by decide +kernel⟩
theorem c_rules_word (E : Txt K mg w) (C_literal_word : Cal P w K mg base "literal_word" 1 sp_literal_word) : Cal P w K mg base "rules_word" 2 sp_rules_word := by
  obtain ⟨fd, F⟩ := E.def_ (d := h_rules_word) (by simp [fn, fn_0])
  exact cal_of (N := ["rules", "clause", "literal"]) (ps := ["rules"]) (t := t_rules_word) F (E.glo (x := "rules_word") (by simp [fa, fa_0, fa_1])) sc_rules_word (fun _ _ _ _ _ _ _ _ _ us hl => match us, hl with | [_], _ => rfl) (fun _ _ _ _ h => sp1_len h)
    (fun cdv A outer s H hr => (qss_cons (qs_if (qt_cmp (oq_eq hr.r.units) (q_var 0) (q_tup qa_nil) (nomark _)) (qss_one (qs_ret q_str)) qss_nil) (qss_one (qs_ret (q_m PySem.F.plainAttrs_str PySem.F.slot_str_join PySem.F.type_str_join mq_join (.inl rfl) q_str (qa_cons (q_lc rfl sc_rules_word.nd (blkOk_by (own := [("clause", 1)]) (by kernel_rfl)) (qi_seq (q_var 0)) (fun _ _ _ _ _ => (qgv_name 1 sc_rules_word.nd)) (fun _ _ _ _ _ => qts_nil) (fun _ _ _ _ _ => (q_m PySem.F.plainAttrs_str PySem.F.slot_str_join PySem.F.type_str_join mq_join (.inl rfl) q_str (qa_cons (q_lc rfl sc_rules_word.nd (blkOk_by (own := [("literal", 2)]) (by kernel_rfl)) (qi_seq (q_var 1)) (fun _ _ _ _ _ => (qgv_name 2 sc_rules_word.nd)) (fun _ _ _ _ _ => qts_nil) (fun _ _ _ _ _ => (q_call C_literal_word (hr.mono (by decide)) rfl (qa_cons (q_var 2) qa_nil)))) qa_nil)))) qa_nil))))))
    (sp1_read r_rules_word rfl)
theorem sc_deed_lines : FnScope ["deed", "found", "founder", "places", "seats", "terms", "sort", "rate", "rules", "holder", "weight", "term"] ["deed"] (defScope (top 3)) := ⟨rfl, rfl, rfl, by decide +kernel, rfl, by decide +kernel, by decide +kernel⟩
theorem c_deed_lines (E : Txt K mg w) (C_rules_word : Cal P w K mg base "rules_word" 2 sp_rules_word) : Cal P w K mg base "deed_lines" 3 sp_deed_lines := by
  obtain ⟨fd, F⟩ := E.def_ (d := h_deed_lines) (by simp [fn, fn_0])
  exact cal_of (N := ["deed", "found", "founder", "places", "seats", "terms", "sort", "rate", "rules", "holder", "weight", "term"]) (ps := ["deed"]) (t := t_deed_lines) F (E.glo (x := "deed_lines") (by simp [fa, fa_0, fa_1])) sc_deed_lines (fun _ _ _ _ _ _ _ _ _ us hl => match us, hl with | [_], _ => rfl) (fun _ _ _ _ h => sp1_len h)
    (fun cdv A outer s H hr => (qss_cons (qs_asg (q_var 0) (qg_tup rfl (qgs_cons (qg_name 2 sc_deed_lines.nd) (qgs_cons (qg_name 3 sc_deed_lines.nd) (qgs_cons (qg_name 4 sc_deed_lines.nd) (qgs_cons (qg_name 5 sc_deed_lines.nd) qgs_nil)))))) (qss_cons (qs_set 1 sc_deed_lines.nd (q_lst (qa_cons (q_op oq_add q_str (q_var 2)) (qa_cons (q_m PySem.F.plainAttrs_str PySem.F.slot_str_join PySem.F.type_str_join mq_join (.inl rfl) q_str (qa_cons (q_op oq_add (q_lst (qa_cons q_str qa_nil)) (q_lc rfl sc_deed_lines.nd (blkOk_by (own := [("term", 11)]) (by kernel_rfl)) (qi_seq (q_var 5)) (fun _ _ _ _ _ => (qgv_name 11 sc_deed_lines.nd)) (fun _ _ _ _ _ => qts_nil) (fun _ _ _ _ _ => (q_callTy cq_str rfl (E.free (by decide +kernel)) (by decide +kernel) (qa_cons (q_var 11) qa_nil))))) qa_nil)) qa_nil)))) (qss_cons (qs_for PassesOwn.never rfl (qi_seq (q_var 3)) (qg_tup rfl (qgs_cons (qg_name 6 sc_deed_lines.nd) (qgs_cons (qg_name 7 sc_deed_lines.nd) (qgs_cons (qg_name 8 sc_deed_lines.nd) qgs_nil)))) (qss_one (qs_expr (q_m PySem.F.plainAttrs_list PySem.F.slot_list_append PySem.F.type_list_append mq_append (.inr (.inl rfl)) (q_var 1) (qa_cons (q_m PySem.F.plainAttrs_str PySem.F.slot_str_join PySem.F.type_str_join mq_join (.inl rfl) q_str (qa_cons (q_lst (qa_cons q_str (qa_cons (q_var 6) (qa_cons (q_callTy cq_str rfl (E.free (by decide +kernel)) (by decide +kernel) (qa_cons (q_var 7) qa_nil)) (qa_cons (q_call C_rules_word (hr.mono (by decide)) rfl (qa_cons (q_var 8) qa_nil)) qa_nil))))) qa_nil)) qa_nil))))) (qss_cons (qs_for PassesOwn.never rfl (qi_seq (q_var 4)) (qg_tup rfl (qgs_cons (qg_name 9 sc_deed_lines.nd) (qgs_cons (qg_name 10 sc_deed_lines.nd) qgs_nil))) (qss_one (qs_expr (q_m PySem.F.plainAttrs_list PySem.F.slot_list_append PySem.F.type_list_append mq_append (.inr (.inl rfl)) (q_var 1) (qa_cons (q_m PySem.F.plainAttrs_str PySem.F.slot_str_join PySem.F.type_str_join mq_join (.inl rfl) q_str (qa_cons (q_lst (qa_cons q_str (qa_cons (q_var 9) (qa_cons (q_callTy cq_str rfl (E.free (by decide +kernel)) (by decide +kernel) (qa_cons (q_var 10) qa_nil)) qa_nil)))) qa_nil)) qa_nil))))) (qss_one (qs_ret (q_var 1))))))))
    (sp1_read r_deed_lines rfl)
theorem sc_is_word : FnScope ["thing", "sign"] ["thing"] (defScope (top 10)) := ⟨rfl, rfl, rfl, by decide +kernel, rfl, by decide +kernel, by decide +kernel⟩
theorem c_is_word (E : Txt K mg w) : Cal P w K mg base "is_word" 1 sp_is_word := by
  obtain ⟨fd, F⟩ := E.def_ (d := h_is_word) (by simp [fn, fn_0])
  exact cal_of (N := ["thing", "sign"]) (ps := ["thing"]) (t := t_is_word) F (E.glo (x := "is_word") (by simp [fa, fa_0, fa_1])) sc_is_word (fun _ _ _ _ _ _ _ _ _ us hl => match us, hl with | [_], _ => rfl) (fun _ _ _ _ h => sp1_len h)
    (fun cdv A outer s H hr => (qss_cons (qs_if (qt_w (qw_or (qt_not (qt_val (q_isi (T := "str") (q_var 0) rfl (E.free (by decide +kernel)) rfl (E.free (by decide +kernel)) (by decide) (by decide +kernel) (by decide) (by decide)))) (qw_or1 (qt_not (qt_chain oq_le oq_le q_int (q_callB cq_len rfl (E.free (by decide +kernel)) PySem.boot_len (qa_cons (q_var 0) qa_nil)) (q_gint E.g_LONGEST rfl)))))) (qss_one (qs_ret q_bl)) qss_nil) (qss_one (qs_ret (q_callB (cq_all rfl) rfl (E.free (by decide +kernel)) (by decide +kernel) (qa_cons (q_lc rfl sc_is_word.nd (blkOk_by (own := [("sign", 1)]) (by kernel_rfl)) (qi_seq (q_var 0)) (fun _ _ _ _ _ => (qgv_name 1 sc_is_word.nd)) (fun _ _ _ _ _ => qts_nil) (fun _ _ _ _ _ => (q_cmp oq_in (q_var 1) (q_gstr E.g_LETTERS rfl) rfl))) qa_nil))))))
    (sp1_read r_is_word rfl)
theorem sc_rises : FnScope ["some", "k"] ["some"] (defScope (top 11)) := ⟨rfl, rfl, rfl, by decide +kernel, rfl, by decide +kernel, by decide +kernel⟩
theorem c_rises (E : Txt K mg w) : Cal P w K mg base "rises" 1 sp_rises := by
  obtain ⟨fd, F⟩ := E.def_ (d := h_rises) (by simp [fn, fn_0])
  exact cal_of (N := ["some", "k"]) (ps := ["some"]) (t := t_rises) F (E.glo (x := "rises") (by simp [fa, fa_0, fa_1])) sc_rises (fun _ _ _ _ _ _ _ _ _ us hl => match us, hl with | [_], _ => rfl) (fun _ _ _ _ h => sp1_len h)
    (fun cdv A outer s H hr => (qss_one (qs_ret (q_callB (cq_all rfl) rfl (E.free (by decide +kernel)) (by decide +kernel) (qa_cons (q_lc rfl sc_rises.nd (blkOk_by (own := [("k", 1)]) (by kernel_rfl)) (qi_range2 rfl (E.free (by decide +kernel)) (qa_cons q_int (qa_cons (q_callB cq_len rfl (E.free (by decide +kernel)) PySem.boot_len (qa_cons (q_var 0) qa_nil)) qa_nil))) (fun _ _ _ _ _ => (qgv_name 1 sc_rises.nd)) (fun _ _ _ _ _ => qts_nil) (fun _ _ _ _ _ => (q_cmp oq_lt (q_ix (q_var 0) (q_op oq_sub (q_var 1) q_int) (fun _ _ => rfl)) (q_ix (q_var 0) (q_var 1) (fun _ _ => rfl)) (nomark _)))) qa_nil)))))
    (sp1_read r_rises rfl)
theorem sc_are_words : FnScope ["thing", "one"] ["thing"] (defScope (top 12)) := ⟨rfl, rfl, rfl, by decide +kernel, rfl, by decide +kernel, by decide +kernel⟩
theorem c_are_words (E : Txt K mg w) (C_is_word : Cal P w K mg base "is_word" 1 sp_is_word) (C_rises : Cal P w K mg base "rises" 1 sp_rises) : Cal P w K mg base "are_words" 2 sp_are_words := by
  obtain ⟨fd, F⟩ := E.def_ (d := h_are_words) (by simp [fn, fn_0])
  exact cal_of (N := ["thing", "one"]) (ps := ["thing"]) (t := t_are_words) F (E.glo (x := "are_words") (by simp [fa, fa_0, fa_1])) sc_are_words (fun _ _ _ _ _ _ _ _ _ us hl => match us, hl with | [_], _ => rfl) (fun _ _ _ _ h => sp1_len h)
    (fun cdv A outer s H hr => (qss_cons (qs_if (qt_w (qw_or (qt_not (qt_val (q_isi (T := "tuple") (q_var 0) rfl (E.free (by decide +kernel)) rfl (E.free (by decide +kernel)) (by decide) (by decide +kernel) (by decide) (by decide)))) (qw_or (qt_cmp (oq_eq hr.r.units) (q_callB cq_len rfl (E.free (by decide +kernel)) PySem.boot_len (qa_cons (q_var 0) qa_nil)) q_int (nomark _)) (qw_or1 (qt_not (qt_val (q_callB (cq_all rfl) rfl (E.free (by decide +kernel)) (by decide +kernel) (qa_cons (q_lc rfl sc_are_words.nd (blkOk_by (own := [("one", 1)]) (by kernel_rfl)) (qi_seq (q_var 0)) (fun _ _ _ _ _ => (qgv_name 1 sc_are_words.nd)) (fun _ _ _ _ _ => qts_nil) (fun _ _ _ _ _ => (q_call C_is_word (hr.mono (by decide)) rfl (qa_cons (q_var 1) qa_nil)))) qa_nil)))))))) (qss_one (qs_ret q_bl)) qss_nil) (qss_one (qs_ret (q_call C_rises (hr.mono (by decide)) rfl (qa_cons (q_var 0) qa_nil))))))
    (sp1_read r_are_words rfl)
theorem sc_number_in : FnScope ["word", "least", "most", "below", "figures", "sign"] ["word", "least", "most"] (defScope (top 22)) := ⟨rfl, rfl, rfl, by decide +kernel, rfl, by decide +kernel, by decide +kernel⟩
theorem c_number_in (E : Txt K mg w) : Cal P w K mg base "number_in" 1 sp_number_in := by
  obtain ⟨fd, F⟩ := E.def_ (d := h_number_in) (by simp [fn, fn_0])
  exact cal_of (N := ["word", "least", "most", "below", "figures", "sign"]) (ps := ["word", "least", "most"]) (t := t_number_in) F (E.glo (x := "number_in") (by simp [fa, fa_0, fa_1])) sc_number_in (fun _ _ _ _ _ _ _ _ _ us hl => match us, hl with | [_, _, _], _ => rfl) (fun _ _ _ _ h => sp3_len h)
    (fun cdv A outer s H hr => (qss_cons (qs_set 3 sc_number_in.nd (q_cmp (oq_eq hr.r.units) (q_slice (q_var 0) qpo_none (qpo_some q_int)) q_str (nomark _))) (qss_cons (qs_set 4 sc_number_in.nd (q_if (qt_val (q_var 3)) (q_slice (q_var 0) (qpo_some q_int) qpo_none) (q_var 0))) (qss_cons (qs_if (qt_w (qw_or (qt_not (qt_chain oq_le oq_le q_int (q_callB cq_len rfl (E.free (by decide +kernel)) PySem.boot_len (qa_cons (q_var 4) qa_nil)) (q_gint E.g_MOST_FIGURES rfl))) (qw_or1 (qt_not (qt_val (q_callB (cq_all rfl) rfl (E.free (by decide +kernel)) (by decide +kernel) (qa_cons (q_lc rfl sc_number_in.nd (blkOk_by (own := [("sign", 5)]) (by kernel_rfl)) (qi_seq (q_var 4)) (fun _ _ _ _ _ => (qgv_name 5 sc_number_in.nd)) (fun _ _ _ _ _ => qts_nil) (fun _ _ _ _ _ => (q_cmp oq_in (q_var 5) (q_gstr E.g_FIGURES rfl) rfl))) qa_nil))))))) (qss_one (qs_ret q_non)) qss_nil) (qss_cons (qs_if (qt_w (qw_or (qt_w (qw_and (qt_cmp (oq_eq hr.r.units) (q_ix (q_var 4) q_int (fun _ _ => rfl)) q_str (nomark _)) (qw_and1 (qt_cmp (oq_ne hr.r.units) (q_var 0) q_str (nomark _))))) (qw_or1 (qt_not (qt_chain oq_le oq_le (q_var 1) (q_callTy cq_int rfl (E.free (by decide +kernel)) (by decide +kernel) (qa_cons (q_var 0) qa_nil)) (q_var 2)))))) (qss_one (qs_ret q_non)) qss_nil) (qss_one (qs_ret (q_callTy cq_int rfl (E.free (by decide +kernel)) (by decide +kernel) (qa_cons (q_var 0) qa_nil)))))))))
    (sp3_read r_number_in rfl)
theorem sc_stretch_in : FnScope ["first", "behind", "least", "most"] ["first", "behind"] (defScope (top 23)) := ⟨rfl, rfl, rfl, by decide +kernel, rfl, by decide +kernel, by decide +kernel⟩
theorem c_stretch_in (E : Txt K mg w) (C_number_in : Cal P w K mg base "number_in" 1 sp_number_in) : Cal P w K mg base "stretch_in" 2 sp_stretch_in := by
  obtain ⟨fd, F⟩ := E.def_ (d := h_stretch_in) (by simp [fn, fn_0])
  exact cal_of (N := ["first", "behind", "least", "most"]) (ps := ["first", "behind"]) (t := t_stretch_in) F (E.glo (x := "stretch_in") (by simp [fa, fa_0, fa_1])) sc_stretch_in (fun _ _ _ _ _ _ _ _ _ us hl => match us, hl with | [_, _], _ => rfl) (fun _ _ _ _ h => sp2_len h)
    (fun cdv A outer s H hr => (qss_cons (qs_set 2 sc_stretch_in.nd (q_call C_number_in (hr.mono (by decide)) rfl (qa_cons (q_var 0) (qa_cons q_int (qa_cons (q_gint E.g_GREATEST rfl) qa_nil))))) (qss_cons (qs_if (qt_cmp oq_isN (q_var 2) q_non (nomark _)) (qss_one (qs_ret q_non)) qss_nil) (qss_cons (qs_if (qt_cmp (oq_eq hr.r.units) (q_var 1) q_str (nomark _)) (qss_one (qs_ret (q_tup (qa_cons q_str (qa_cons (q_var 2) (qa_cons q_non qa_nil)))))) qss_nil) (qss_cons (qs_set 3 sc_stretch_in.nd (q_call C_number_in (hr.mono (by decide)) rfl (qa_cons (q_var 1) (qa_cons (q_op oq_add (q_var 2) q_int) (qa_cons (q_gint E.g_GREATEST rfl) qa_nil))))) (qss_one (qs_ret (q_if (qt_cmp oq_isN (q_var 3) q_non (nomark _)) q_non (q_tup (qa_cons q_str (qa_cons (q_var 2) (qa_cons (q_var 3) qa_nil))))))))))))
    (sp2_read r_stretch_in rfl)
theorem sc_literal_in : FnScope ["word", "parts", "ties", "towns"] ["word"] (defScope (top 24)) := ⟨rfl, rfl, rfl, by decide +kernel, rfl, by decide +kernel, by decide +kernel⟩
theorem c_literal_in (E : Txt K mg w) (C_stretch_in : Cal P w K mg base "stretch_in" 2 sp_stretch_in) (C_are_words : Cal P w K mg base "are_words" 2 sp_are_words) (C_number_in : Cal P w K mg base "number_in" 1 sp_number_in) : Cal P w K mg base "literal_in" 3 sp_literal_in := by
  obtain ⟨fd, F⟩ := E.def_ (d := h_literal_in) (by simp [fn, fn_0])
  exact cal_of (N := ["word", "parts", "ties", "towns"]) (ps := ["word"]) (t := t_literal_in) F (E.glo (x := "literal_in") (by simp [fa, fa_0, fa_1])) sc_literal_in (fun _ _ _ _ _ _ _ _ _ us hl => match us, hl with | [_], _ => rfl) (fun _ _ _ _ h => sp1_len h)
    (fun cdv A outer s H hr => (qss_cons (qs_set 1 sc_literal_in.nd (q_m PySem.F.plainAttrs_str PySem.F.slot_str_split PySem.F.type_str_split mq_split (.inl rfl) (q_var 0) (qa_cons q_str qa_nil))) (qss_cons (qs_if (qt_w (qw_and (qt_cmp (oq_eq hr.r.units) (q_callB cq_len rfl (E.free (by decide +kernel)) PySem.boot_len (qa_cons (q_var 1) qa_nil)) q_int (nomark _)) (qw_and1 (qt_cmp (oq_eq hr.r.units) (q_ix (q_var 1) q_int (fun _ _ => rfl)) q_str (nomark _))))) (qss_one (qs_ret (q_call C_stretch_in (hr.mono (by decide)) rfl (qa_cons (q_ix (q_var 1) q_int (fun _ _ => rfl)) (qa_cons (q_ix (q_var 1) q_int (fun _ _ => rfl)) qa_nil))))) qss_nil) (qss_cons (qs_if (qt_cmp (oq_ne hr.r.units) (q_callB cq_len rfl (E.free (by decide +kernel)) PySem.boot_len (qa_cons (q_var 1) qa_nil)) q_int (nomark _)) (qss_one (qs_ret q_non)) qss_nil) (qss_cons (qs_if (qt_cmp oq_in (q_ix (q_var 1) q_int (fun _ _ => rfl)) (q_tup (qa_cons q_str (qa_cons q_str qa_nil))) rfl) (qss_cons (qs_set 3 sc_literal_in.nd (q_callTy cq_tuple rfl (E.free (by decide +kernel)) (by decide +kernel) (qa_cons (q_m PySem.F.plainAttrs_str PySem.F.slot_str_split PySem.F.type_str_split mq_split (.inl rfl) (q_ix (q_var 1) q_int (fun _ _ => rfl)) (qa_cons q_str qa_nil)) qa_nil))) (qss_one (qs_ret (q_if (qt_val (q_call C_are_words (hr.mono (by decide)) rfl (qa_cons (q_var 3) qa_nil))) (q_tup (qa_cons (q_ix (q_var 1) q_int (fun _ _ => rfl)) (qa_cons (q_var 3) qa_nil))) q_non)))) qss_nil) (qss_cons (qs_set 2 sc_literal_in.nd (q_call C_number_in (hr.mono (by decide)) rfl (qa_cons (q_ix (q_var 1) q_int (fun _ _ => rfl)) (qa_cons q_int (qa_cons (q_gint E.g_GREATEST rfl) qa_nil))))) (qss_one (qs_ret (q_if (qt_w (qw_and (qt_cmp oq_in (q_ix (q_var 1) q_int (fun _ _ => rfl)) (q_tup (qa_cons q_str (qa_cons q_str qa_nil))) rfl) (qw_and1 (qt_cmp oq_notN (q_var 2) q_non (nomark _))))) (q_tup (qa_cons (q_ix (q_var 1) q_int (fun _ _ => rfl)) (qa_cons (q_var 2) qa_nil))) q_non)))))))))
    (sp1_read r_literal_in rfl)
theorem sc_rules_in : FnScope ["word", "found", "part", "clause", "one"] ["word"] (defScope (top 25)) := ⟨rfl, rfl, rfl, by decide +kernel, rfl, by decide +kernel, by decide +kernel⟩
theorem c_rules_in (E : Txt K mg w) (C_literal_in : Cal P w K mg base "literal_in" 3 sp_literal_in) : Cal P w K mg base "rules_in" 4 sp_rules_in := by
  obtain ⟨fd, F⟩ := E.def_ (d := h_rules_in) (by simp [fn, fn_0])
  exact cal_of (N := ["word", "found", "part", "clause", "one"]) (ps := ["word"]) (t := t_rules_in) F (E.glo (x := "rules_in") (by simp [fa, fa_0, fa_1])) sc_rules_in (fun _ _ _ _ _ _ _ _ _ us hl => match us, hl with | [_], _ => rfl) (fun _ _ _ _ h => sp1_len h)
    (fun cdv A outer s H hr => (qss_cons (qs_if (qt_cmp (oq_eq hr.r.units) (q_var 0) q_str (nomark _)) (qss_one (qs_ret (q_tup qa_nil))) qss_nil) (qss_cons (qs_set 1 sc_rules_in.nd (q_lst qa_nil)) (qss_cons (qs_for PassesOwn.never rfl (qi_seq (q_m PySem.F.plainAttrs_str PySem.F.slot_str_split PySem.F.type_str_split mq_split (.inl rfl) (q_var 0) (qa_cons q_str qa_nil))) (qg_name 2 sc_rules_in.nd) (qss_cons (qs_set 3 sc_rules_in.nd (q_callTy cq_tuple rfl (E.free (by decide +kernel)) (by decide +kernel) (qa_cons (q_lc rfl sc_rules_in.nd (blkOk_by (own := [("one", 4)]) (by kernel_rfl)) (qi_seq (q_m PySem.F.plainAttrs_str PySem.F.slot_str_split PySem.F.type_str_split mq_split (.inl rfl) (q_var 2) (qa_cons q_str qa_nil))) (fun _ _ _ _ _ => (qgv_name 4 sc_rules_in.nd)) (fun _ _ _ _ _ => qts_nil) (fun _ _ _ _ _ => (q_call C_literal_in (hr.mono (by decide)) rfl (qa_cons (q_var 4) qa_nil)))) qa_nil))) (qss_cons (qs_if (qt_cmp (oq_inT hr.u65) q_non (q_var 3) rfl) (qss_one (qs_ret q_non)) qss_nil) (qss_one (qs_expr (q_m PySem.F.plainAttrs_list PySem.F.slot_list_append PySem.F.type_list_append mq_append (.inr (.inl rfl)) (q_var 1) (qa_cons (q_var 3) qa_nil))))))) (qss_one (qs_ret (q_callTy cq_tuple rfl (E.free (by decide +kernel)) (by decide +kernel) (qa_cons (q_var 1) qa_nil))))))))
    (sp1_read r_rules_in rfl)
theorem sc_name_in : FnScope ["form", "word", "found"] ["form", "word", "found"] (defScope (top 26)) := ⟨rfl, rfl, rfl, by decide +kernel, rfl, by decide +kernel, by decide +kernel⟩
theorem c_name_in (E : Txt K mg w) (C_is_word : Cal P w K mg base "is_word" 1 sp_is_word) : Cal P w K mg base "name_in" 2 sp_name_in := by
  obtain ⟨fd, F⟩ := E.def_ (d := h_name_in) (by simp [fn, fn_0])
  exact cal_of (N := ["form", "word", "found"]) (ps := ["form", "word", "found"]) (t := t_name_in) F (E.glo (x := "name_in") (by simp [fa, fa_0, fa_1])) sc_name_in (fun _ _ _ _ _ _ _ _ _ us hl => match us, hl with | [_, _, _], _ => rfl) (fun _ _ _ _ h => sp3_len h)
    (fun cdv A outer s H hr => (qss_cons (qs_if (qt_w (qw_and (qt_cmp (oq_eq hr.r.units) (q_var 0) q_str (nomark _)) (qw_and1 (qt_cmp (oq_eq hr.r.units) (q_var 1) q_str (nomark _))))) (qss_one (qs_ret q_str)) qss_nil) (qss_cons (qs_if (qt_w (qw_or (qt_not (qt_val (q_call C_is_word (hr.mono (by decide)) rfl (qa_cons (q_var 1) qa_nil)))) (qw_or1 (qt_w (qw_and (qt_cmp oq_in (q_var 0) (q_tup (qa_cons q_str (qa_cons q_str qa_nil))) rfl) (qw_and1 (qt_cmp (oq_eq hr.r.units) (q_var 1) (q_ix (q_var 2) q_int (fun _ _ => rfl)) (nomark _)))))))) (qss_one (qs_ret q_non)) qss_nil) (qss_one (qs_ret (q_var 1))))))
    (sp3_read r_name_in rfl)
theorem sc_thing_in : FnScope ["form", "word", "found"] ["form", "word", "found"] (defScope (top 27)) := ⟨rfl, rfl, rfl, by decide +kernel, rfl, by decide +kernel, by decide +kernel⟩
theorem c_thing_in (E : Txt K mg w) (C_number_in : Cal P w K mg base "number_in" 1 sp_number_in) (C_rules_in : Cal P w K mg base "rules_in" 4 sp_rules_in) (C_name_in : Cal P w K mg base "name_in" 2 sp_name_in) : Cal P w K mg base "thing_in" 5 sp_thing_in := by
  obtain ⟨fd, F⟩ := E.def_ (d := h_thing_in) (by simp [fn, fn_0])
  exact cal_of (N := ["form", "word", "found"]) (ps := ["form", "word", "found"]) (t := t_thing_in) F (E.glo (x := "thing_in") (by simp [fa, fa_0, fa_1])) sc_thing_in (fun _ _ _ _ _ _ _ _ _ us hl => match us, hl with | [_, _, _], _ => rfl) (fun _ _ _ _ h => sp3_len h)
    (fun cdv A outer s H hr => (qss_cons (qs_if (qt_cmp (oq_eq hr.r.units) (q_var 0) q_str (nomark _)) (qss_one (qs_ret (q_call C_number_in (hr.mono (by decide)) rfl (qa_cons (q_var 1) (qa_cons q_int (qa_cons (q_gint E.g_MOST_DAY rfl) qa_nil)))))) qss_nil) (qss_cons (qs_if (qt_cmp (oq_eq hr.r.units) (q_var 0) q_str (nomark _)) (qss_one (qs_ret (q_call C_number_in (hr.mono (by decide)) rfl (qa_cons (q_var 1) (qa_cons q_int (qa_cons (q_gint E.g_MOST_NUMBER rfl) qa_nil)))))) qss_nil) (qss_cons (qs_if (qt_cmp (oq_eq hr.r.units) (q_var 0) q_str (nomark _)) (qss_one (qs_ret (q_call C_number_in (hr.mono (by decide)) rfl (qa_cons (q_var 1) (qa_cons (q_op oq_sub q_int (q_gint E.g_GREATEST rfl)) (qa_cons (q_ix (q_var 2) q_int (fun _ _ => rfl)) qa_nil)))))) qss_nil) (qss_cons (qs_if (qt_cmp oq_in (q_var 0) (q_tup (qa_cons q_str (qa_cons q_str qa_nil))) rfl) (qss_one (qs_ret (q_call C_number_in (hr.mono (by decide)) rfl (qa_cons (q_var 1) (qa_cons (q_callTy cq_int rfl (E.free (by decide +kernel)) (by decide +kernel) (qa_cons (q_cmp (oq_eq hr.r.units) (q_var 0) q_str (nomark _)) qa_nil)) (qa_cons (q_gint E.g_GREATEST rfl) qa_nil)))))) qss_nil) (qss_cons (qs_if (qt_cmp (oq_eq hr.r.units) (q_var 0) q_str (nomark _)) (qss_one (qs_ret (q_call C_rules_in (hr.mono (by decide)) rfl (qa_cons (q_var 1) qa_nil)))) qss_nil) (qss_cons (qs_if (qt_cmp (oq_eq hr.r.units) (q_var 0) q_str (nomark _)) (qss_one (qs_ret (q_if (qt_cmp oq_in (q_var 1) (q_gtup E.g_SORTS E.b_SORTS rfl) rfl) (q_var 1) q_non))) qss_nil) (qss_cons (qs_if (qt_cmp (oq_eq hr.r.units) (q_var 0) q_str (nomark _)) (qss_one qs_never) qss_nil) (qss_one (qs_ret (q_call C_name_in (hr.mono (by decide)) rfl (qa_cons (q_var 0) (qa_cons (q_var 1) (qa_cons (q_var 2) qa_nil))))))))))))))
    (sp3_read r_thing_in rfl)
theorem sc_things_in : FnScope ["row", "words", "forms", "found", "form", "at", "thing"] ["row", "words", "forms", "found"] (defScope (top 28)) := ⟨rfl, rfl, rfl, by decide +kernel, rfl, by decide +kernel, by decide +kernel⟩
theorem c_things_in (E : Txt K mg w) (C_thing_in : Cal P w K mg base "thing_in" 5 sp_thing_in) : Cal P w K mg base "things_in" 6 sp_things_in := by
  obtain ⟨fd, F⟩ := E.def_ (d := h_things_in) (by simp [fn, fn_0])
  exact cal_of (N := ["row", "words", "forms", "found", "form", "at", "thing"]) (ps := ["row", "words", "forms", "found"]) (t := t_things_in) F (E.glo (x := "things_in") (by simp [fa, fa_0, fa_1])) sc_things_in (fun _ _ _ _ _ _ _ _ _ us hl => match us, hl with | [_, _, _, _], _ => rfl) (fun _ _ _ _ h => sp4_len h)
    (fun cdv A outer s H hr => (qss_cons (qs_for PassesOwn.never rfl (qi_seq (q_var 2)) (qg_name 4 sc_things_in.nd) (qss_cons (qs_set 5 sc_things_in.nd (q_callB cq_len rfl (E.free (by decide +kernel)) PySem.boot_len (qa_cons (q_var 3) qa_nil))) (qss_cons (qs_if (qt_cmp (oq_eq hr.r.units) (q_var 5) (q_callB cq_len rfl (E.free (by decide +kernel)) PySem.boot_len (qa_cons (q_var 1) qa_nil)) (nomark _)) (qss_one qs_never) qss_nil) (qss_cons (qs_set 6 sc_things_in.nd (q_call C_thing_in (hr.mono (by decide)) rfl (qa_cons (q_var 4) (qa_cons (q_ix (q_var 1) (q_var 5) (fun _ _ => rfl)) (qa_cons (q_var 3) qa_nil))))) (qss_cons (qs_if (qt_cmp oq_isN (q_var 6) q_non (nomark _)) (qss_one qs_never) qss_nil) (qss_one (qs_expr (q_m PySem.F.plainAttrs_list PySem.F.slot_list_append PySem.F.type_list_append mq_append (.inr (.inl rfl)) (q_var 3) (qa_cons (q_var 6) qa_nil))))))))) (qss_one (qs_ret (q_var 3)))))
    (sp4_read r_things_in rfl)
theorem sc_ended : FnScope ["row", "words", "found"] ["row", "words", "found"] (defScope (top 29)) := ⟨rfl, rfl, rfl, by decide +kernel, rfl, by decide +kernel, by decide +kernel⟩
theorem c_ended (E : Txt K mg w) : Cal P w K mg base "ended" 1 sp_ended := by
  obtain ⟨fd, F⟩ := E.def_ (d := h_ended) (by simp [fn, fn_0])
  exact cal_of (N := ["row", "words", "found"]) (ps := ["row", "words", "found"]) (t := t_ended) F (E.glo (x := "ended") (by simp [fa, fa_0, fa_1])) sc_ended (fun _ _ _ _ _ _ _ _ _ us hl => match us, hl with | [_, _, _], _ => rfl) (fun _ _ _ _ h => sp3_len h)
    (fun cdv A outer s H hr => (qss_cons (qs_if (qt_cmp oq_lt (q_callB cq_len rfl (E.free (by decide +kernel)) PySem.boot_len (qa_cons (q_var 2) qa_nil)) (q_callB cq_len rfl (E.free (by decide +kernel)) PySem.boot_len (qa_cons (q_var 1) qa_nil)) (nomark _)) (qss_one qs_never) qss_nil) (qss_one (qs_ret (q_callTy cq_tuple rfl (E.free (by decide +kernel)) (by decide +kernel) (qa_cons (q_var 2) qa_nil))))))
    (sp3_read r_ended rfl)
theorem sc_read_rules : FnScope ["text", "words"] ["text"] (defScope (top 30)) := ⟨rfl, rfl, rfl, by decide +kernel, rfl, by decide +kernel, by decide +kernel⟩
theorem c_read_rules (E : Txt K mg w) (C_things_in : Cal P w K mg base "things_in" 6 sp_things_in) (C_ended : Cal P w K mg base "ended" 1 sp_ended) : Cal P w K mg base "read_rules" 7 sp_read_rules := by
  obtain ⟨fd, F⟩ := E.def_ (d := h_read_rules) (by simp [fn, fn_0])
  exact cal_of (N := ["text", "words"]) (ps := ["text"]) (t := t_read_rules) F (E.glo (x := "read_rules") (by simp [fa, fa_0, fa_1])) sc_read_rules (fun _ _ _ _ _ _ _ _ _ us hl => match us, hl with | [_], _ => rfl) (fun _ _ _ _ h => sp1_len h)
    (fun cdv A outer s H hr => (qss_cons (qs_set 1 sc_read_rules.nd (q_m PySem.F.plainAttrs_str PySem.F.slot_str_split PySem.F.type_str_split mq_split (.inl rfl) (q_var 0) (qa_cons q_str qa_nil))) (qss_one (qs_ret (q_ix (q_call C_ended (hr.mono (by decide)) rfl (qa_cons q_int (qa_cons (q_var 1) (qa_cons (q_call C_things_in (hr.mono (by decide)) rfl (qa_cons q_int (qa_cons (q_var 1) (qa_cons (q_tup (qa_cons q_str qa_nil)) (qa_cons (q_lst qa_nil) qa_nil))))) qa_nil)))) q_int (fun _ _ => rfl))))))
    (sp1_read r_read_rules rfl)
theorem sc_line_in : FnScope ["row", "line", "heads", "words"] ["row", "line", "heads"] (defScope (top 31)) := ⟨rfl, rfl, rfl, by decide +kernel, rfl, by decide +kernel, by decide +kernel⟩
theorem c_line_in (E : Txt K mg w) (C_things_in : Cal P w K mg base "things_in" 6 sp_things_in) (C_ended : Cal P w K mg base "ended" 1 sp_ended) : Cal P w K mg base "line_in" 7 sp_line_in := by
  obtain ⟨fd, F⟩ := E.def_ (d := h_line_in) (by simp [fn, fn_0])
  exact cal_of (N := ["row", "line", "heads", "words"]) (ps := ["row", "line", "heads"]) (t := t_line_in) F (E.glo (x := "line_in") (by simp [fa, fa_0, fa_1])) sc_line_in (fun _ _ _ _ _ _ _ _ _ us hl => match us, hl with | [_, _, _], _ => rfl) (fun _ _ _ _ h => sp3_len h)
    (fun cdv A outer s H hr => (qss_cons (qs_set 3 sc_line_in.nd (q_m PySem.F.plainAttrs_str PySem.F.slot_str_split PySem.F.type_str_split mq_split (.inl rfl) (q_var 1) (qa_cons q_str qa_nil))) (qss_cons (qs_if (qt_cmp oq_notIn (q_ix (q_var 3) q_int (fun _ _ => rfl)) (q_var 2) rfl) (qss_one qs_never) qss_nil) (qss_one (qs_ret (q_call C_ended (hr.mono (by decide)) rfl (qa_cons (q_var 0) (qa_cons (q_var 3) (qa_cons (q_call C_things_in (hr.mono (by decide)) rfl (qa_cons (q_var 0) (qa_cons (q_var 3) (qa_cons (q_tab E.g_LINES E.b_LINES rfl (q_ix (q_var 3) q_int (fun _ _ => rfl)) (fun _ _ => rfl)) (qa_cons (q_slice (q_var 3) qpo_none (qpo_some q_int)) qa_nil))))) qa_nil)))))))))
    (sp3_read r_line_in rfl)
theorem sc_heads_behind : FnScope ["found"] ["found"] (defScope (top 32)) := ⟨rfl, rfl, rfl, by decide +kernel, rfl, by decide +kernel, by decide +kernel⟩
theorem c_heads_behind (E : Txt K mg w) : Cal P w K mg base "heads_behind" 1 sp_heads_behind := by
  obtain ⟨fd, F⟩ := E.def_ (d := h_heads_behind) (by simp [fn, fn_0])
  exact cal_of (N := ["found"]) (ps := ["found"]) (t := t_heads_behind) F (E.glo (x := "heads_behind") (by simp [fa, fa_0, fa_1])) sc_heads_behind (fun _ _ _ _ _ _ _ _ _ us hl => match us, hl with | [_], _ => rfl) (fun _ _ _ _ h => sp1_len h)
    (fun cdv A outer s H hr => (qss_cons (qs_if (qt_cmp oq_lt (q_callB cq_len rfl (E.free (by decide +kernel)) PySem.boot_len (qa_cons (q_var 0) qa_nil)) q_int (nomark _)) (qss_one (qs_ret (q_ix (q_tup (qa_cons (q_tup (qa_cons q_str qa_nil)) (qa_cons (q_tup (qa_cons q_str qa_nil)) qa_nil))) (q_callB cq_len rfl (E.free (by decide +kernel)) PySem.boot_len (qa_cons (q_var 0) qa_nil)) (fun _ _ => rfl)))) qss_nil) (qss_cons (qs_if (qt_cmp (oq_eq hr.r.units) (q_callB cq_len rfl (E.free (by decide +kernel)) PySem.boot_len (qa_cons (q_var 0) qa_nil)) q_int (nomark _)) (qss_one (qs_ret (q_tup (qa_cons q_str qa_nil)))) qss_nil) (qss_one (qs_ret (q_if (qt_cmp (oq_eq hr.r.units) (q_ix (q_ix (q_var 0) (q_un uq_neg q_int) (fun _ _ => rfl)) q_int (fun _ _ => rfl)) q_str (nomark _)) (q_tup (qa_cons q_str qa_nil)) (q_tup (qa_cons q_str (qa_cons q_str qa_nil)))))))))
    (sp1_read r_heads_behind rfl)
theorem sc_read_deed : FnScope ["lines", "found", "places", "seats", "row", "line", "things"] ["lines"] (defScope (top 33)) := ⟨rfl, rfl, rfl, by decide +kernel, rfl, by decide +kernel, by decide +kernel⟩
theorem c_read_deed (E : Txt K mg w) (C_heads_behind : Cal P w K mg base "heads_behind" 1 sp_heads_behind) (C_line_in : Cal P w K mg base "line_in" 7 sp_line_in) : Cal P w K mg base "read_deed" 8 sp_read_deed := by
  obtain ⟨fd, F⟩ := E.def_ (d := h_read_deed) (by simp [fn, fn_0])
  exact cal_of (N := ["lines", "found", "places", "seats", "row", "line", "things"]) (ps := ["lines"]) (t := t_read_deed) F (E.glo (x := "read_deed") (by simp [fa, fa_0, fa_1])) sc_read_deed (fun _ _ _ _ _ _ _ _ _ us hl => match us, hl with | [_], _ => rfl) (fun _ _ _ _ h => sp1_len h)
    (fun cdv A outer s H hr => (qss_cons (qs_set 1 sc_read_deed.nd (q_lst qa_nil)) (qss_cons (qs_for PassesOwn.never rfl (qi_enum rfl (E.free (by decide +kernel)) (qa_cons (q_var 0) qa_nil)) (qg_tup rfl (qgs_cons (qg_name 4 sc_read_deed.nd) (qgs_cons (qg_name 5 sc_read_deed.nd) qgs_nil))) (qss_one (qs_expr (q_m PySem.F.plainAttrs_list PySem.F.slot_list_append PySem.F.type_list_append mq_append (.inr (.inl rfl)) (q_var 1) (qa_cons (q_call C_line_in (hr.mono (by decide)) rfl (qa_cons (q_var 4) (qa_cons (q_var 5) (qa_cons (q_call C_heads_behind (hr.mono (by decide)) rfl (qa_cons (q_var 1) qa_nil)) qa_nil)))) qa_nil))))) (qss_cons (qs_if (qt_w (qw_or (qt_cmp (oq_eq hr.r.units) (q_var 1) (q_lst qa_nil) (nomark _)) (qw_or1 (qt_cmp (oq_ne hr.r.units) (q_ix (q_ix (q_var 1) (q_un uq_neg q_int) (fun _ _ => rfl)) q_int (fun _ _ => rfl)) q_str (nomark _))))) (qss_one qs_never) qss_nil) (qss_cons (qs_set 2 sc_read_deed.nd (q_callTy cq_tuple rfl (E.free (by decide +kernel)) (by decide +kernel) (qa_cons (q_lc rfl sc_read_deed.nd (blkOk_by (own := [("things", 6)]) (by kernel_rfl)) (qi_seq (q_var 1)) (fun _ _ _ _ _ => (qgv_name 6 sc_read_deed.nd)) (fun _ _ _ _ _ => (qts_one (qt_cmp (oq_eq hr.r.units) (q_ix (q_var 6) q_int (fun _ _ => rfl)) q_str (nomark _)))) (fun _ _ _ _ _ => (q_slice (q_var 6) (qpo_some q_int) qpo_none))) qa_nil))) (qss_cons (qs_set 3 sc_read_deed.nd (q_callTy cq_tuple rfl (E.free (by decide +kernel)) (by decide +kernel) (qa_cons (q_lc rfl sc_read_deed.nd (blkOk_by (own := [("things", 6)]) (by kernel_rfl)) (qi_seq (q_var 1)) (fun _ _ _ _ _ => (qgv_name 6 sc_read_deed.nd)) (fun _ _ _ _ _ => (qts_one (qt_cmp (oq_eq hr.r.units) (q_ix (q_var 6) q_int (fun _ _ => rfl)) q_str (nomark _)))) (fun _ _ _ _ _ => (q_slice (q_var 6) (qpo_some q_int) qpo_none))) qa_nil))) (qss_one (qs_ret (q_tup (qa_cons (q_ix (q_ix (q_var 1) q_int (fun _ _ => rfl)) q_int (fun _ _ => rfl)) (qa_cons (q_var 2) (qa_cons (q_var 3) (qa_cons (q_slice (q_ix (q_var 1) q_int (fun _ _ => rfl)) (qpo_some q_int) qpo_none) qa_nil)))))))))))))
    (sp1_read r_read_deed rfl)
theorem sc__law_feed : FnScope ["_law_script"] ["_law_script"] (defScope (top 35)) := ⟨rfl, rfl, rfl, by decide +kernel, rfl, by decide +kernel, by decide +kernel⟩
theorem c__law_feed (E : Txt K mg w) : Cal P w K mg base "_law_feed" 1 sp__law_feed := by
  obtain ⟨fd, F⟩ := E.def_ (d := h__law_feed) (by simp [fn, fn_0])
  exact cal_of (N := ["_law_script"]) (ps := ["_law_script"]) (t := t__law_feed) F (E.glo (x := "_law_feed") (by simp [fa, fa_0, fa_1])) sc__law_feed (fun _ _ _ _ _ _ _ _ _ us hl => match us, hl with | [_], _ => rfl) (fun _ _ _ _ h => sp1_len h)
    (fun cdv A outer s H hr => (qss_one (qs_ret (q_lst (qa_cons (q_slice (q_var 0) qpo_none (qpo_some q_int)) (qa_cons q_int (qa_cons q_int (qa_cons q_int qa_nil))))))))
    (sp1_read r__law_feed rfl)
theorem sc__law_draw : FnScope ["_law_feed_here", "_law_many", "_law_at", "_law_cell", "_law_mixed", "_law_figure"] ["_law_feed_here", "_law_many"] (defScope (top 36)) := ⟨rfl, rfl, rfl, by decide +kernel, rfl, by decide +kernel, by decide +kernel⟩
theorem c__law_draw (E : Txt K mg w) : Cal P w K mg base "_law_draw" 1 sp__law_draw := by
  obtain ⟨fd, F⟩ := E.def_ (d := h__law_draw) (by simp [fn, fn_0])
  exact cal_of (N := ["_law_feed_here", "_law_many", "_law_at", "_law_cell", "_law_mixed", "_law_figure"]) (ps := ["_law_feed_here", "_law_many"]) (t := t__law_draw) F (E.glo (x := "_law_draw") (by simp [fa, fa_0, fa_1])) sc__law_draw (fun _ _ _ _ _ _ _ _ _ us hl => match us, hl with | [_, _], _ => rfl) (fun _ _ _ _ h => sp2_len h)
    (fun cdv A outer s H hr => (qss_cons (qs_asg (q_op oq_add (q_ix (q_var 0) q_int (fun _ _ => rfl)) q_int) (qg_sub (q_var 0) q_int sq_setL)) (qss_cons (qs_if (qt_cmp oq_gt (q_ix (q_var 0) q_int (fun _ _ => rfl)) q_int (nomark _)) (qss_cons (qs_set 5 sc__law_draw.nd (q_op oq_mod (q_ix (q_var 0) q_int (fun _ _ => rfl)) (q_var 1))) (qss_cons (qs_asg (q_op oq_fdiv (q_ix (q_var 0) q_int (fun _ _ => rfl)) (q_var 1)) (qg_sub (q_var 0) q_int sq_setL)) (qss_one (qs_ret (q_var 5))))) qss_nil) (qss_cons (qs_set 2 sc__law_draw.nd (q_ix (q_var 0) q_int (fun _ _ => rfl))) (qss_cons (qs_asg (q_op oq_add (q_var 2) q_int) (qg_sub (q_var 0) q_int sq_setL)) (qss_cons (qs_set 3 sc__law_draw.nd (q_if (qt_cmp (oq_ne hr.r.units) (q_ix (q_var 0) q_int (fun _ _ => rfl)) (q_lst qa_nil) (nomark _)) (q_ix (q_ix (q_var 0) q_int (fun _ _ => rfl)) (q_op oq_mod (q_var 2) (q_callB cq_len rfl (E.free (by decide +kernel)) PySem.boot_len (qa_cons (q_ix (q_var 0) q_int (fun _ _ => rfl)) qa_nil))) (fun _ _ => rfl)) q_int)) (qss_cons (qs_if (qt_w (qw_and (qt_cmp oq_ge (q_var 3) (q_op oq_pow q_int q_int) (nomark _)) (qw_and1 (qt_cmp oq_lt (q_var 2) (q_callB cq_len rfl (E.free (by decide +kernel)) PySem.boot_len (qa_cons (q_ix (q_var 0) q_int (fun _ _ => rfl)) qa_nil)) (nomark _))))) (qss_cons (qs_asg (q_op oq_fdiv (q_var 3) (q_var 1)) (qg_sub (q_var 0) q_int sq_setL)) (qss_one (qs_ret (q_op oq_mod (q_var 3) (q_var 1))))) qss_nil) (qss_cons (qs_set 4 sc__law_draw.nd (q_op oq_mod (q_op oq_pow (q_op oq_add (q_op oq_add (q_op oq_mod (q_var 3) q_int) (q_op oq_mul q_int (q_ix (q_var 0) q_int (fun _ _ => rfl)))) q_int) q_int) q_int)) (qss_cons (qs_set 4 sc__law_draw.nd (q_op oq_mod (q_op oq_pow (q_op oq_add (q_op oq_add (q_var 4) (q_op oq_mul (q_op oq_mul q_int (q_ix (q_var 0) q_int (fun _ _ => rfl))) (q_ix (q_var 0) q_int (fun _ _ => rfl)))) (q_var 2)) q_int) q_int)) (qss_one (qs_ret (q_op oq_mod (q_op oq_fdiv (q_var 4) q_int) (q_var 1)))))))))))))
    (sp2_read r__law_draw rfl)
theorem sc__law_people : FnScope ["_law_feed_here", "_law_many", "_law_pool", "_law_first", "_law_step", "_law_k"] ["_law_feed_here", "_law_many"] (defScope (top 37)) := ⟨rfl, rfl, rfl, by decide +kernel, rfl, by decide +kernel, by decide +kernel⟩
theorem c__law_people (E : Txt K mg w) (C__law_draw : Cal P w K mg base "_law_draw" 1 sp__law_draw) : Cal P w K mg base "_law_people" 2 sp__law_people := by
  obtain ⟨fd, F⟩ := E.def_ (d := h__law_people) (by simp [fn, fn_0])
  exact cal_of (N := ["_law_feed_here", "_law_many", "_law_pool", "_law_first", "_law_step", "_law_k"]) (ps := ["_law_feed_here", "_law_many"]) (t := t__law_people) F (E.glo (x := "_law_people") (by simp [fa, fa_0, fa_1])) sc__law_people (fun _ _ _ _ _ _ _ _ _ us hl => match us, hl with | [_, _], _ => rfl) (fun _ _ _ _ h => sp2_len h)
    (fun cdv A outer s H hr => (qss_cons (qs_set 2 sc__law_people.nd (q_lst (qa_cons q_str (qa_cons q_str (qa_cons q_str (qa_cons q_str (qa_cons q_str (qa_cons q_str (qa_cons q_str (qa_cons q_str (qa_cons q_str (qa_cons q_str (qa_cons q_str (qa_cons q_str (qa_cons q_str (qa_cons q_str (qa_cons q_str qa_nil))))))))))))))))) (qss_cons (qs_expr (q_m PySem.F.plainAttrs_list PySem.F.slot_list_append PySem.F.type_list_append mq_append (.inr (.inl rfl)) (q_var 2) (qa_cons q_str qa_nil))) (qss_cons (qs_asg (q_tup (qa_cons (q_call C__law_draw (hr.mono (by decide)) rfl (qa_cons (q_var 0) (qa_cons q_int qa_nil))) (qa_cons (q_op oq_add q_int (q_op oq_mul q_int (q_call C__law_draw (hr.mono (by decide)) rfl (qa_cons (q_var 0) (qa_cons q_int qa_nil))))) qa_nil))) (qg_tup rfl (qgs_cons (qg_name 3 sc__law_people.nd) (qgs_cons (qg_name 4 sc__law_people.nd) qgs_nil)))) (qss_one (qs_ret (q_lc rfl sc__law_people.nd (blkOk_by (own := [("_law_k", 5)]) (by kernel_rfl)) (qi_range1 rfl (E.free (by decide +kernel)) (qa_cons (q_var 1) qa_nil)) (fun _ _ _ _ _ => (qgv_name 5 sc__law_people.nd)) (fun _ _ _ _ _ => qts_nil) (fun _ _ _ _ _ => (q_ix (q_var 2) (q_op oq_mod (q_op oq_add (q_var 3) (q_op oq_mul (q_var 4) (q_var 5))) q_int) (fun _ _ => rfl))))))))))
    (sp2_read r__law_people rfl)
theorem sc__law_literal : FnScope ["_law_feed_here", "_law_way", "_law_towns", "_law_first"] ["_law_feed_here"] (defScope (top 38)) := ⟨rfl, rfl, rfl, by decide +kernel, rfl, by decide +kernel, by decide +kernel⟩
theorem c__law_literal (E : Txt K mg w) (C__law_draw : Cal P w K mg base "_law_draw" 1 sp__law_draw) : Cal P w K mg base "_law_literal" 2 sp__law_literal := by
  obtain ⟨fd, F⟩ := E.def_ (d := h__law_literal) (by simp [fn, fn_0])
  exact cal_of (N := ["_law_feed_here", "_law_way", "_law_towns", "_law_first"]) (ps := ["_law_feed_here"]) (t := t__law_literal) F (E.glo (x := "_law_literal") (by simp [fa, fa_0, fa_1])) sc__law_literal (fun _ _ _ _ _ _ _ _ _ us hl => match us, hl with | [_], _ => rfl) (fun _ _ _ _ h => sp1_len h)
    (fun cdv A outer s H hr => (qss_cons (qs_set 1 sc__law_literal.nd (q_call C__law_draw (hr.mono (by decide)) rfl (qa_cons (q_var 0) (qa_cons q_int qa_nil)))) (qss_cons (qs_if (qt_cmp oq_lt (q_var 1) q_int (nomark _)) (qss_cons (qs_set 2 sc__law_literal.nd (q_ix (q_lst (qa_cons (q_tup (qa_cons q_str qa_nil)) (qa_cons (q_tup (qa_cons q_str (qa_cons q_str qa_nil))) (qa_cons (q_tup (qa_cons q_str qa_nil)) (qa_cons (q_tup (qa_cons q_str (qa_cons q_str qa_nil))) qa_nil))))) (q_call C__law_draw (hr.mono (by decide)) rfl (qa_cons (q_var 0) (qa_cons q_int qa_nil))) (fun _ _ => rfl))) (qss_one (qs_ret (q_tup (qa_cons (q_ix (q_lst (qa_cons q_str (qa_cons q_str qa_nil))) (q_var 1) (fun _ _ => rfl)) (qa_cons (q_var 2) qa_nil)))))) qss_nil) (qss_cons (qs_if (qt_cmp (oq_eq hr.r.units) (q_var 1) q_int (nomark _)) (qss_cons (qs_set 3 sc__law_literal.nd (q_op oq_add q_int (q_call C__law_draw (hr.mono (by decide)) rfl (qa_cons (q_var 0) (qa_cons q_int qa_nil))))) (qss_one (qs_ret (q_tup (qa_cons q_str (qa_cons (q_var 3) (qa_cons (q_ix (q_lst (qa_cons q_non (qa_cons (q_op oq_add (q_op oq_add (q_var 3) q_int) (q_call C__law_draw (hr.mono (by decide)) rfl (qa_cons (q_var 0) (qa_cons q_int qa_nil)))) qa_nil))) (q_call C__law_draw (hr.mono (by decide)) rfl (qa_cons (q_var 0) (qa_cons q_int qa_nil))) (fun _ _ => rfl)) qa_nil))))))) qss_nil) (qss_one (qs_ret (q_tup (qa_cons (q_ix (q_lst (qa_cons q_str (qa_cons q_str qa_nil))) (q_op oq_sub (q_var 1) q_int) (fun _ _ => rfl)) (qa_cons (q_call C__law_draw (hr.mono (by decide)) rfl (qa_cons (q_var 0) (qa_cons q_int qa_nil))) qa_nil)))))))))
    (sp1_read r__law_literal rfl)
theorem sc__law_rules : FnScope ["_law_feed_here", "_law_found", "_law_k", "_law_j"] ["_law_feed_here"] (defScope (top 39)) := ⟨rfl, rfl, rfl, by decide +kernel, rfl, by decide +kernel, by decide +kernel⟩
theorem c__law_rules (E : Txt K mg w) (C__law_draw : Cal P w K mg base "_law_draw" 1 sp__law_draw) (C__law_literal : Cal P w K mg base "_law_literal" 2 sp__law_literal) : Cal P w K mg base "_law_rules" 3 sp__law_rules := by
  obtain ⟨fd, F⟩ := E.def_ (d := h__law_rules) (by simp [fn, fn_0])
  exact cal_of (N := ["_law_feed_here", "_law_found", "_law_k", "_law_j"]) (ps := ["_law_feed_here"]) (t := t__law_rules) F (E.glo (x := "_law_rules") (by simp [fa, fa_0, fa_1])) sc__law_rules (fun _ _ _ _ _ _ _ _ _ us hl => match us, hl with | [_], _ => rfl) (fun _ _ _ _ h => sp1_len h)
    (fun cdv A outer s H hr => (qss_cons (qs_set 1 sc__law_rules.nd (q_lst qa_nil)) (qss_cons (qs_for PassesOwn.never rfl (qi_range1 rfl (E.free (by decide +kernel)) (qa_cons (q_call C__law_draw (hr.mono (by decide)) rfl (qa_cons (q_var 0) (qa_cons q_int qa_nil))) qa_nil)) (qg_name 2 sc__law_rules.nd) (qss_one (qs_expr (q_m PySem.F.plainAttrs_list PySem.F.slot_list_append PySem.F.type_list_append mq_append (.inr (.inl rfl)) (q_var 1) (qa_cons (q_callTy cq_tuple rfl (E.free (by decide +kernel)) (by decide +kernel) (qa_cons (q_lc rfl sc__law_rules.nd (blkOk_by (own := [("_law_j", 3)]) (by kernel_rfl)) (qi_range1 rfl (E.free (by decide +kernel)) (qa_cons (q_op oq_add q_int (q_call C__law_draw (hr.mono (by decide)) rfl (qa_cons (q_var 0) (qa_cons q_int qa_nil)))) qa_nil)) (fun _ _ _ _ _ => (qgv_name 3 sc__law_rules.nd)) (fun _ _ _ _ _ => qts_nil) (fun _ _ _ _ _ => (q_call C__law_literal (hr.mono (by decide)) rfl (qa_cons (q_var 0) qa_nil)))) qa_nil)) qa_nil))))) (qss_one (qs_ret (q_callTy cq_tuple rfl (E.free (by decide +kernel)) (by decide +kernel) (qa_cons (q_var 1) qa_nil)))))))
    (sp1_read r__law_rules rfl)
theorem sc__law_deed : FnScope ["_law_feed_here", "_law_people_here", "_law_places", "_law_k", "_law_holders_here", "_law_seats", "_law_terms"] ["_law_feed_here", "_law_people_here"] (defScope (top 40)) := ⟨rfl, rfl, rfl, by decide +kernel, rfl, by decide +kernel, by decide +kernel⟩
theorem c__law_deed (E : Txt K mg w) (C__law_draw : Cal P w K mg base "_law_draw" 1 sp__law_draw) (C__law_rules : Cal P w K mg base "_law_rules" 3 sp__law_rules) : Cal P w K mg base "_law_deed" 4 sp__law_deed := by
  obtain ⟨fd, F⟩ := E.def_ (d := h__law_deed) (by simp [fn, fn_0])
  exact cal_of (N := ["_law_feed_here", "_law_people_here", "_law_places", "_law_k", "_law_holders_here", "_law_seats", "_law_terms"]) (ps := ["_law_feed_here", "_law_people_here"]) (t := t__law_deed) F (E.glo (x := "_law_deed") (by simp [fa, fa_0, fa_1])) sc__law_deed (fun _ _ _ _ _ _ _ _ _ us hl => match us, hl with | [_, _], _ => rfl) (fun _ _ _ _ h => sp2_len h)
    (fun cdv A outer s H hr => (qss_cons (qs_set 2 sc__law_deed.nd (q_lst qa_nil)) (qss_cons (qs_for PassesOwn.never rfl (qi_range1 rfl (E.free (by decide +kernel)) (qa_cons (q_op oq_add q_int (q_call C__law_draw (hr.mono (by decide)) rfl (qa_cons (q_var 0) (qa_cons q_int qa_nil)))) qa_nil)) (qg_name 3 sc__law_deed.nd) (qss_one (qs_expr (q_m PySem.F.plainAttrs_list PySem.F.slot_list_append PySem.F.type_list_append mq_append (.inr (.inl rfl)) (q_var 2) (qa_cons (q_tup (qa_cons (q_ix (q_lst (qa_cons q_str (qa_cons q_str (qa_cons q_str (qa_cons q_str qa_nil))))) (q_call C__law_draw (hr.mono (by decide)) rfl (qa_cons (q_var 0) (qa_cons q_int qa_nil))) (fun _ _ => rfl)) (qa_cons (q_op oq_add q_int (q_call C__law_draw (hr.mono (by decide)) rfl (qa_cons (q_var 0) (qa_cons q_int qa_nil)))) (qa_cons (q_call C__law_rules (hr.mono (by decide)) rfl (qa_cons (q_var 0) qa_nil)) qa_nil)))) qa_nil))))) (qss_cons (qs_set 4 sc__law_deed.nd (q_op oq_add (q_slice (q_var 1) qpo_none (qpo_some q_int)) (q_lst (qa_cons q_str (qa_cons q_str qa_nil))))) (qss_cons (qs_setLc 5 rfl sc__law_deed.nd (blkOk_by (own := [("_law_k", 3)]) (by kernel_rfl)) (qi_range1 rfl (E.free (by decide +kernel)) (qa_cons (q_op oq_add q_int (q_call C__law_draw (hr.mono (by decide)) rfl (qa_cons (q_var 0) (qa_cons q_int qa_nil)))) qa_nil)) (fun _ _ _ _ _ => (qgv_name 3 sc__law_deed.nd)) (fun _ _ _ _ _ => qts_nil) (fun _ _ _ _ _ => (q_tup (qa_cons (q_ix (q_var 4) (q_call C__law_draw (hr.mono (by decide)) rfl (qa_cons (q_var 0) (qa_cons q_int qa_nil))) (fun _ _ => rfl)) (qa_cons (q_op oq_add q_int (q_call C__law_draw (hr.mono (by decide)) rfl (qa_cons (q_var 0) (qa_cons q_int qa_nil)))) qa_nil))))) (qss_cons (qs_set 6 sc__law_deed.nd (q_tup (qa_cons (q_op oq_add q_int (q_call C__law_draw (hr.mono (by decide)) rfl (qa_cons (q_var 0) (qa_cons q_int qa_nil)))) (qa_cons (q_op oq_add q_int (q_call C__law_draw (hr.mono (by decide)) rfl (qa_cons (q_var 0) (qa_cons q_int qa_nil)))) (qa_cons (q_call C__law_draw (hr.mono (by decide)) rfl (qa_cons (q_var 0) (qa_cons q_int qa_nil))) (qa_cons (q_op oq_add q_int (q_call C__law_draw (hr.mono (by decide)) rfl (qa_cons (q_var 0) (qa_cons q_int qa_nil)))) qa_nil)))))) (qss_one (qs_ret (q_tup (qa_cons (q_ix (q_var 1) (q_call C__law_draw (hr.mono (by decide)) rfl (qa_cons (q_var 0) (qa_cons (q_callB cq_len rfl (E.free (by decide +kernel)) PySem.boot_len (qa_cons (q_var 1) qa_nil)) qa_nil))) (fun _ _ => rfl)) (qa_cons (q_callTy cq_tuple rfl (E.free (by decide +kernel)) (by decide +kernel) (qa_cons (q_var 2) qa_nil)) (qa_cons (q_callTy cq_tuple rfl (E.free (by decide +kernel)) (by decide +kernel) (qa_cons (q_var 5) qa_nil)) (qa_cons (q_var 6) qa_nil)))))))))))))
    (sp2_read r__law_deed rfl)
theorem sc__law_literal_word : FnScope ["_law_literal_here", "_law_thing"] ["_law_literal_here"] (defScope (top 41)) := ⟨rfl, rfl, rfl, by decide +kernel, rfl, by decide +kernel, by decide +kernel⟩
theorem c__law_literal_word (E : Txt K mg w) : Cal P w K mg base "_law_literal_word" 1 sp__law_literal_word := by
  obtain ⟨fd, F⟩ := E.def_ (d := h__law_literal_word) (by simp [fn, fn_0])
  exact cal_of (N := ["_law_literal_here", "_law_thing"]) (ps := ["_law_literal_here"]) (t := t__law_literal_word) F (E.glo (x := "_law_literal_word") (by simp [fa, fa_0, fa_1])) sc__law_literal_word (fun _ _ _ _ _ _ _ _ _ us hl => match us, hl with | [_], _ => rfl) (fun _ _ _ _ h => sp1_len h)
    (fun cdv A outer s H hr => (qss_cons (qs_if (qt_w (qw_or (qt_cmp (oq_eq hr.r.units) (q_ix (q_var 0) q_int (fun _ _ => rfl)) q_str (nomark _)) (qw_or1 (qt_cmp (oq_eq hr.r.units) (q_ix (q_var 0) q_int (fun _ _ => rfl)) q_str (nomark _))))) (qss_one (qs_ret (q_op oq_add (q_op oq_add (q_ix (q_var 0) q_int (fun _ _ => rfl)) q_str) (q_m PySem.F.plainAttrs_str PySem.F.slot_str_join PySem.F.type_str_join mq_join (.inl rfl) q_str (qa_cons (q_ix (q_var 0) q_int (fun _ _ => rfl)) qa_nil))))) qss_nil) (qss_one (qs_ret (q_op oq_add (q_ix (q_var 0) q_int (fun _ _ => rfl)) (q_m PySem.F.plainAttrs_str PySem.F.slot_str_join PySem.F.type_str_join mq_join (.inl rfl) q_str (qa_cons (q_lc rfl sc__law_literal_word.nd (blkOk_by (own := [("_law_thing", 1)]) (by kernel_rfl)) (qi_seq (q_slice (q_var 0) (qpo_some q_int) qpo_none)) (fun _ _ _ _ _ => (qgv_name 1 sc__law_literal_word.nd)) (fun _ _ _ _ _ => qts_nil) (fun _ _ _ _ _ => (q_if (qt_cmp oq_isN (q_var 1) q_non (nomark _)) q_str (q_op oq_add q_str (q_callTy cq_str rfl (E.free (by decide +kernel)) (by decide +kernel) (qa_cons (q_var 1) qa_nil)))))) qa_nil)))))))
    (sp1_read r__law_literal_word rfl)
theorem sc__law_rules_word : FnScope ["_law_rules_here", "_law_clauses", "_law_clause", "_law_literal_here"] ["_law_rules_here"] (defScope (top 42)) := ⟨rfl, rfl, rfl, by decide +kernel, rfl, by decide +kernel, by decide +kernel⟩
theorem c__law_rules_word (E : Txt K mg w) (C__law_literal_word : Cal P w K mg base "_law_literal_word" 1 sp__law_literal_word) : Cal P w K mg base "_law_rules_word" 2 sp__law_rules_word := by
  obtain ⟨fd, F⟩ := E.def_ (d := h__law_rules_word) (by simp [fn, fn_0])
  exact cal_of (N := ["_law_rules_here", "_law_clauses", "_law_clause", "_law_literal_here"]) (ps := ["_law_rules_here"]) (t := t__law_rules_word) F (E.glo (x := "_law_rules_word") (by simp [fa, fa_0, fa_1])) sc__law_rules_word (fun _ _ _ _ _ _ _ _ _ us hl => match us, hl with | [_], _ => rfl) (fun _ _ _ _ h => sp1_len h)
    (fun cdv A outer s H hr => (qss_cons (qs_setLc 1 rfl sc__law_rules_word.nd (blkOk_by (own := [("_law_clause", 2)]) (by kernel_rfl)) (qi_seq (q_var 0)) (fun _ _ _ _ _ => (qgv_name 2 sc__law_rules_word.nd)) (fun _ _ _ _ _ => qts_nil) (fun _ _ _ _ _ => (q_m PySem.F.plainAttrs_str PySem.F.slot_str_join PySem.F.type_str_join mq_join (.inl rfl) q_str (qa_cons (q_lc rfl sc__law_rules_word.nd (blkOk_by (own := [("_law_literal_here", 3)]) (by kernel_rfl)) (qi_seq (q_var 2)) (fun _ _ _ _ _ => (qgv_name 3 sc__law_rules_word.nd)) (fun _ _ _ _ _ => qts_nil) (fun _ _ _ _ _ => (q_call C__law_literal_word (hr.mono (by decide)) rfl (qa_cons (q_var 3) qa_nil)))) qa_nil)))) (qss_one (qs_ret (q_if (qt_cmp (oq_ne hr.r.units) (q_var 1) (q_lst qa_nil) (nomark _)) (q_m PySem.F.plainAttrs_str PySem.F.slot_str_join PySem.F.type_str_join mq_join (.inl rfl) q_str (qa_cons (q_var 1) qa_nil)) q_str)))))
    (sp1_read r__law_rules_word rfl)
theorem sc__law_deed_lines : FnScope ["_law_deed_here", "_law_found", "_law_sort", "_law_rate", "_law_rules_here", "_law_holder", "_law_weight", "_law_term"] ["_law_deed_here"] (defScope (top 43)) := ⟨rfl, rfl, rfl, by decide +kernel, rfl, by decide +kernel, by decide +kernel⟩
theorem c__law_deed_lines (E : Txt K mg w) (C__law_rules_word : Cal P w K mg base "_law_rules_word" 2 sp__law_rules_word) : Cal P w K mg base "_law_deed_lines" 3 sp__law_deed_lines := by
  obtain ⟨fd, F⟩ := E.def_ (d := h__law_deed_lines) (by simp [fn, fn_0])
  exact cal_of (N := ["_law_deed_here", "_law_found", "_law_sort", "_law_rate", "_law_rules_here", "_law_holder", "_law_weight", "_law_term"]) (ps := ["_law_deed_here"]) (t := t__law_deed_lines) F (E.glo (x := "_law_deed_lines") (by simp [fa, fa_0, fa_1])) sc__law_deed_lines (fun _ _ _ _ _ _ _ _ _ us hl => match us, hl with | [_], _ => rfl) (fun _ _ _ _ h => sp1_len h)
    (fun cdv A outer s H hr => (qss_cons (qs_set 1 sc__law_deed_lines.nd (q_lst (qa_cons (q_op oq_add q_str (q_ix (q_var 0) q_int (fun _ _ => rfl))) (qa_cons (q_op oq_add q_str (q_m PySem.F.plainAttrs_str PySem.F.slot_str_join PySem.F.type_str_join mq_join (.inl rfl) q_str (qa_cons (q_lc rfl sc__law_deed_lines.nd (blkOk_by (own := [("_law_term", 7)]) (by kernel_rfl)) (qi_seq (q_ix (q_var 0) q_int (fun _ _ => rfl))) (fun _ _ _ _ _ => (qgv_name 7 sc__law_deed_lines.nd)) (fun _ _ _ _ _ => qts_nil) (fun _ _ _ _ _ => (q_callTy cq_str rfl (E.free (by decide +kernel)) (by decide +kernel) (qa_cons (q_var 7) qa_nil)))) qa_nil))) qa_nil)))) (qss_cons (qs_set 1 sc__law_deed_lines.nd (q_op oq_add (q_var 1) (q_lc rfl sc__law_deed_lines.nd (blkOk_by (own := [("_law_sort", 2), ("_law_rate", 3), ("_law_rules_here", 4)]) (by kernel_rfl)) (qi_seq (q_ix (q_var 0) q_int (fun _ _ => rfl))) (fun _ _ _ _ _ => (qgv_tup rfl (qgsv_cons (qgv_name 2 sc__law_deed_lines.nd) (qgsv_cons (qgv_name 3 sc__law_deed_lines.nd) (qgsv_cons (qgv_name 4 sc__law_deed_lines.nd) qgsv_nil))))) (fun _ _ _ _ _ => qts_nil) (fun _ _ _ _ _ => (q_op oq_add (q_op oq_add (q_op oq_add (q_op oq_add (q_op oq_add q_str (q_var 2)) q_str) (q_callTy cq_str rfl (E.free (by decide +kernel)) (by decide +kernel) (qa_cons (q_var 3) qa_nil))) q_str) (q_call C__law_rules_word (hr.mono (by decide)) rfl (qa_cons (q_var 4) qa_nil))))))) (qss_one (qs_ret (q_op oq_add (q_var 1) (q_lc rfl sc__law_deed_lines.nd (blkOk_by (own := [("_law_holder", 5), ("_law_weight", 6)]) (by kernel_rfl)) (qi_seq (q_ix (q_var 0) q_int (fun _ _ => rfl))) (fun _ _ _ _ _ => (qgv_tup rfl (qgsv_cons (qgv_name 5 sc__law_deed_lines.nd) (qgsv_cons (qgv_name 6 sc__law_deed_lines.nd) qgsv_nil)))) (fun _ _ _ _ _ => qts_nil) (fun _ _ _ _ _ => (q_op oq_add (q_op oq_add (q_op oq_add q_str (q_var 5)) q_str) (q_callTy cq_str rfl (E.free (by decide +kernel)) (by decide +kernel) (qa_cons (q_var 6) qa_nil)))))))))))
    (sp1_read r__law_deed_lines rfl)
theorem sc__law_great_literal : FnScope ["_law_feed_here", "_law_towns", "_law_way", "_law_low", "_law_first", "_law_many"] ["_law_feed_here"] (defScope (top 44)) := ⟨rfl, rfl, rfl, by decide +kernel, rfl, by decide +kernel, by decide +kernel⟩
theorem c__law_great_literal (E : Txt K mg w) (C__law_draw : Cal P w K mg base "_law_draw" 1 sp__law_draw) : Cal P w K mg base "_law_great_literal" 2 sp__law_great_literal := by
  obtain ⟨fd, F⟩ := E.def_ (d := h__law_great_literal) (by simp [fn, fn_0])
  exact cal_of (N := ["_law_feed_here", "_law_towns", "_law_way", "_law_low", "_law_first", "_law_many"]) (ps := ["_law_feed_here"]) (t := t__law_great_literal) F (E.glo (x := "_law_great_literal") (by simp [fa, fa_0, fa_1])) sc__law_great_literal (fun _ _ _ _ _ _ _ _ _ us hl => match us, hl with | [_], _ => rfl) (fun _ _ _ _ h => sp1_len h)
    (fun cdv A outer s H hr => (qss_cons (qs_set 1 sc__law_great_literal.nd (q_lst (qa_cons q_str (qa_cons q_str (qa_cons q_str (qa_cons q_str (qa_cons q_str (qa_cons q_str (qa_cons q_str qa_nil))))))))) (qss_cons (qs_par 4 5 rfl sc__law_great_literal.nd (qa_cons (q_call C__law_draw (hr.mono (by decide)) rfl (qa_cons (q_var 0) (qa_cons q_int qa_nil))) (qa_cons (q_op oq_add q_int (q_call C__law_draw (hr.mono (by decide)) rfl (qa_cons (q_var 0) (qa_cons q_int qa_nil)))) qa_nil))) (qss_cons (qs_set 2 sc__law_great_literal.nd (q_call C__law_draw (hr.mono (by decide)) rfl (qa_cons (q_var 0) (qa_cons q_int qa_nil)))) (qss_cons (qs_if (qt_cmp oq_lt (q_var 2) q_int (nomark _)) (qss_one (qs_ret (q_tup (qa_cons (q_ix (q_lst (qa_cons q_str (qa_cons q_str qa_nil))) (q_var 2) (fun _ _ => rfl)) (qa_cons (q_callTy cq_tuple rfl (E.free (by decide +kernel)) (by decide +kernel) (qa_cons (q_slice (q_var 1) (qpo_some (q_var 4)) (qpo_some (q_op oq_add (q_var 4) (q_var 5)))) qa_nil)) qa_nil))))) qss_nil) (qss_cons (qs_if (qt_cmp oq_lt (q_var 2) q_int (nomark _)) (qss_one (qs_ret (q_tup (qa_cons (q_ix (q_lst (qa_cons q_str (qa_cons q_str qa_nil))) (q_op oq_sub (q_var 2) q_int) (fun _ _ => rfl)) (qa_cons (q_ix (q_lst (qa_cons q_int (qa_cons q_int (qa_cons q_int (qa_cons q_int qa_nil))))) (q_call C__law_draw (hr.mono (by decide)) rfl (qa_cons (q_var 0) (qa_cons q_int qa_nil))) (fun _ _ => rfl)) qa_nil))))) qss_nil) (qss_cons (qs_set 3 sc__law_great_literal.nd (q_ix (q_lst (qa_cons q_int (qa_cons q_int (qa_cons q_int (qa_cons q_int qa_nil))))) (q_call C__law_draw (hr.mono (by decide)) rfl (qa_cons (q_var 0) (qa_cons q_int qa_nil))) (fun _ _ => rfl))) (qss_one (qs_ret (q_tup (qa_cons q_str (qa_cons (q_var 3) (qa_cons (q_ix (q_lst (qa_cons q_non (qa_cons (q_op oq_add (q_var 3) q_int) (qa_cons q_int qa_nil)))) (q_call C__law_draw (hr.mono (by decide)) rfl (qa_cons (q_var 0) (qa_cons q_int qa_nil))) (fun _ _ => rfl)) qa_nil)))))))))))))
    (sp1_read r__law_great_literal rfl)
theorem sc__law_great_deed : FnScope ["_law_feed_here", "_law_places", "_law_k", "_law_seats", "_law_terms", "_law_rules_here", "_law_i", "_law_j"] ["_law_feed_here"] (defScope (top 45)) := ⟨rfl, rfl, rfl, by decide +kernel, rfl, by decide +kernel, by decide +kernel⟩
theorem c__law_great_deed (E : Txt K mg w) (C__law_great_literal : Cal P w K mg base "_law_great_literal" 2 sp__law_great_literal) (C__law_draw : Cal P w K mg base "_law_draw" 1 sp__law_draw) : Cal P w K mg base "_law_great_deed" 3 sp__law_great_deed := by
  obtain ⟨fd, F⟩ := E.def_ (d := h__law_great_deed) (by simp [fn, fn_0])
  exact cal_of (N := ["_law_feed_here", "_law_places", "_law_k", "_law_seats", "_law_terms", "_law_rules_here", "_law_i", "_law_j"]) (ps := ["_law_feed_here"]) (t := t__law_great_deed) F (E.glo (x := "_law_great_deed") (by simp [fa, fa_0, fa_1])) sc__law_great_deed (fun _ _ _ _ _ _ _ _ _ us hl => match us, hl with | [_], _ => rfl) (fun _ _ _ _ h => sp1_len h)
    (fun cdv A outer s H hr => (qss_cons (qs_set 1 sc__law_great_deed.nd (q_lst qa_nil)) (qss_cons (qs_for PassesOwn.never rfl (qi_range1 rfl (E.free (by decide +kernel)) (qa_cons q_int qa_nil)) (qg_name 2 sc__law_great_deed.nd) (qss_cons (qs_set 5 sc__law_great_deed.nd (q_callTy cq_tuple rfl (E.free (by decide +kernel)) (by decide +kernel) (qa_cons (q_lc rfl sc__law_great_deed.nd (blkOk_by (own := [("_law_i", 6)]) (by kernel_rfl)) (qi_range1 rfl (E.free (by decide +kernel)) (qa_cons q_int qa_nil)) (fun _ _ _ _ _ => (qgv_name 6 sc__law_great_deed.nd)) (fun _ _ _ _ _ => qts_nil) (fun _ _ _ _ _ => (q_callTy cq_tuple rfl (E.free (by decide +kernel)) (by decide +kernel) (qa_cons (q_lc rfl sc__law_great_deed.nd (blkOk_by (own := [("_law_j", 7)]) (by kernel_rfl)) (qi_range1 rfl (E.free (by decide +kernel)) (qa_cons q_int qa_nil)) (fun _ _ _ _ _ => (qgv_name 7 sc__law_great_deed.nd)) (fun _ _ _ _ _ => qts_nil) (fun _ _ _ _ _ => (q_call C__law_great_literal (hr.mono (by decide)) rfl (qa_cons (q_var 0) qa_nil)))) qa_nil)))) qa_nil))) (qss_one (qs_expr (q_m PySem.F.plainAttrs_list PySem.F.slot_list_append PySem.F.type_list_append mq_append (.inr (.inl rfl)) (q_var 1) (qa_cons (q_tup (qa_cons (q_ix (q_lst (qa_cons q_str (qa_cons q_str qa_nil))) (q_call C__law_draw (hr.mono (by decide)) rfl (qa_cons (q_var 0) (qa_cons q_int qa_nil))) (fun _ _ => rfl)) (qa_cons (q_ix (q_lst (qa_cons q_int (qa_cons q_int qa_nil))) (q_call C__law_draw (hr.mono (by decide)) rfl (qa_cons (q_var 0) (qa_cons q_int qa_nil))) (fun _ _ => rfl)) (qa_cons (q_var 5) qa_nil)))) qa_nil)))))) (qss_cons (qs_set 3 sc__law_great_deed.nd (q_callTy cq_tuple rfl (E.free (by decide +kernel)) (by decide +kernel) (qa_cons (q_lc rfl sc__law_great_deed.nd (blkOk_by (own := [("_law_k", 2)]) (by kernel_rfl)) (qi_range1 rfl (E.free (by decide +kernel)) (qa_cons q_int qa_nil)) (fun _ _ _ _ _ => (qgv_name 2 sc__law_great_deed.nd)) (fun _ _ _ _ _ => qts_nil) (fun _ _ _ _ _ => (q_tup (qa_cons (q_op oq_mul (q_ix q_str (q_var 2) (fun _ _ => rfl)) (q_op oq_add q_int (q_var 2))) (qa_cons (q_ix (q_lst (qa_cons q_int (qa_cons q_int qa_nil))) (q_call C__law_draw (hr.mono (by decide)) rfl (qa_cons (q_var 0) (qa_cons q_int qa_nil))) (fun _ _ => rfl)) qa_nil))))) qa_nil))) (qss_cons (qs_set 4 sc__law_great_deed.nd (q_ix (q_lst (qa_cons (q_tup (qa_cons q_int (qa_cons q_int (qa_cons q_int (qa_cons q_int qa_nil))))) (qa_cons (q_tup (qa_cons q_int (qa_cons q_int (qa_cons q_int (qa_cons q_int qa_nil))))) qa_nil))) (q_call C__law_draw (hr.mono (by decide)) rfl (qa_cons (q_var 0) (qa_cons q_int qa_nil))) (fun _ _ => rfl))) (qss_one (qs_ret (q_tup (qa_cons q_str (qa_cons (q_callTy cq_tuple rfl (E.free (by decide +kernel)) (by decide +kernel) (qa_cons (q_var 1) qa_nil)) (qa_cons (q_var 3) (qa_cons (q_var 4) qa_nil))))))))))))
    (sp1_read r__law_great_deed rfl)
theorem sc_law : FnScope ["_law_script", "_law_feed_here", "_law_deeds", "_law_deed_here", "_law_kept", "_law_lines", "_law_sort", "_law_rate", "_law_rules_here", "_law_text", "_law_k"] ["_law_script"] (defScope (top 46)) := ⟨rfl, rfl, rfl, by decide +kernel, rfl, by decide +kernel, by decide +kernel⟩
theorem l_law (E : Txt K mg w) {fd : FuncData} (F : FunD K h_law.name h_law.qual h_law.params h_law.body h_law.scope (h_law.dvs K) (h_law.kws K) (He.fAd K h_law.at_) fd) : FnG P w K mg base CX0 9 (He.fAd K h_law.at_) fd ["_law_script"] (LSp K sp_law) := by
  have C_literal_word := c_literal_word (P := P) (base := base) E
  have C_rules_word := c_rules_word (P := P) (base := base) E C_literal_word
  have C_deed_lines := c_deed_lines (P := P) (base := base) E C_rules_word
  have C_is_word := c_is_word (P := P) (base := base) E
  have C_rises := c_rises (P := P) (base := base) E
  have C_are_words := c_are_words (P := P) (base := base) E C_is_word C_rises
  have C_number_in := c_number_in (P := P) (base := base) E
  have C_stretch_in := c_stretch_in (P := P) (base := base) E C_number_in
  have C_literal_in := c_literal_in (P := P) (base := base) E C_stretch_in C_are_words C_number_in
  have C_rules_in := c_rules_in (P := P) (base := base) E C_literal_in
  have C_name_in := c_name_in (P := P) (base := base) E C_is_word
  have C_thing_in := c_thing_in (P := P) (base := base) E C_number_in C_rules_in C_name_in
  have C_things_in := c_things_in (P := P) (base := base) E C_thing_in
  have C_ended := c_ended (P := P) (base := base) E
  have C_read_rules := c_read_rules (P := P) (base := base) E C_things_in C_ended
  have C_line_in := c_line_in (P := P) (base := base) E C_things_in C_ended
  have C_heads_behind := c_heads_behind (P := P) (base := base) E
  have C_read_deed := c_read_deed (P := P) (base := base) E C_heads_behind C_line_in
  have C__law_feed := c__law_feed (P := P) (base := base) E
  have C__law_draw := c__law_draw (P := P) (base := base) E
  have C__law_people := c__law_people (P := P) (base := base) E C__law_draw
  have C__law_literal := c__law_literal (P := P) (base := base) E C__law_draw
  have C__law_rules := c__law_rules (P := P) (base := base) E C__law_draw C__law_literal
  have C__law_deed := c__law_deed (P := P) (base := base) E C__law_draw C__law_rules
  have C__law_literal_word := c__law_literal_word (P := P) (base := base) E
  have C__law_rules_word := c__law_rules_word (P := P) (base := base) E C__law_literal_word
  have C__law_deed_lines := c__law_deed_lines (P := P) (base := base) E C__law_rules_word
  have C__law_great_literal := c__law_great_literal (P := P) (base := base) E C__law_draw
  have C__law_great_deed := c__law_great_deed (P := P) (base := base) E C__law_great_literal C__law_draw
  exact fn_of (x := "law") (N := ["_law_script", "_law_feed_here", "_law_deeds", "_law_deed_here", "_law_kept", "_law_lines", "_law_sort", "_law_rate", "_law_rules_here", "_law_text", "_law_k"]) (ps := ["_law_script"]) (t := t_law) F (E.glo (x := "law") (by simp [fa, fa_0, fa_1])) sc_law (fun _ _ _ _ _ _ _ _ _ us hl => match us, hl with | [_], _ => rfl) (fun _ _ _ _ h => sp1_len h)
    (fun cdv A outer s H hr => (qss_cons (qs_set 1 sc_law.nd (q_call C__law_feed (hr.mono (by decide)) rfl (qa_cons (q_var 0) qa_nil))) (qss_cons (qs_set 2 sc_law.nd (q_op oq_add (q_lc rfl sc_law.nd (blkOk_by (own := [("_law_k", 10)]) (by kernel_rfl)) (qi_range1 rfl (E.free (by decide +kernel)) (qa_cons q_int qa_nil)) (fun _ _ _ _ _ => (qgv_name 10 sc_law.nd)) (fun _ _ _ _ _ => qts_nil) (fun _ _ _ _ _ => (q_call C__law_deed (hr.mono (by decide)) rfl (qa_cons (q_var 1) (qa_cons (q_call C__law_people (hr.mono (by decide)) rfl (qa_cons (q_var 1) (qa_cons (q_op oq_add q_int (q_call C__law_draw (hr.mono (by decide)) rfl (qa_cons (q_var 1) (qa_cons q_int qa_nil)))) qa_nil))) qa_nil))))) (q_lst (qa_cons (q_call C__law_great_deed (hr.mono (by decide)) rfl (qa_cons (q_var 1) qa_nil)) qa_nil)))) (qss_cons (qs_for PassesOwn.never rfl (qi_seq (q_op oq_add (q_var 2) (q_slice (q_var 2) qpo_none (qpo_some q_int)))) (qg_name 3 sc_law.nd) (qss_cons (qs_set 4 sc_law.nd (q_callB (cq_repr hr) rfl (E.free (by decide +kernel)) (by decide +kernel) (qa_cons (q_var 3) qa_nil))) (qss_cons (qs_for PassesOwn.never rfl (qi_seq (q_ix (q_var 3) q_int (fun _ _ => rfl))) (qg_tup rfl (qgs_cons (qg_name 6 sc_law.nd) (qgs_cons (qg_name 7 sc_law.nd) (qgs_cons (qg_name 8 sc_law.nd) qgs_nil)))) (qss_cons (qs_set 9 sc_law.nd (q_call C_rules_word (hr.mono (by decide)) rfl (qa_cons (q_var 8) qa_nil))) (qss_one (qs_if (qt_w (qw_or (qt_cmp (oq_ne hr.r.units) (q_callB (cq_repr hr) rfl (E.free (by decide +kernel)) (by decide +kernel) (qa_cons (q_var 9) qa_nil)) (q_callB (cq_repr hr) rfl (E.free (by decide +kernel)) (by decide +kernel) (qa_cons (q_call C__law_rules_word (hr.mono (by decide)) rfl (qa_cons (q_var 8) qa_nil)) qa_nil)) (nomark _)) (qw_or1 (qt_cmp (oq_ne hr.r.units) (q_callB (cq_repr hr) rfl (E.free (by decide +kernel)) (by decide +kernel) (qa_cons (q_call C_read_rules (hr.mono (by decide)) rfl (qa_cons (q_var 9) qa_nil)) qa_nil)) (q_callB (cq_repr hr) rfl (E.free (by decide +kernel)) (by decide +kernel) (qa_cons (q_var 8) qa_nil)) (nomark _))))) (qss_one (qs_ret q_bl)) qss_nil)))) (qss_cons (qs_set 5 sc_law.nd (q_call C_deed_lines (hr.mono (by decide)) rfl (qa_cons (q_var 3) qa_nil))) (qss_cons (qs_if (qt_w (qw_or (qt_cmp (oq_ne hr.r.units) (q_callB (cq_repr hr) rfl (E.free (by decide +kernel)) (by decide +kernel) (qa_cons (q_var 5) qa_nil)) (q_callB (cq_repr hr) rfl (E.free (by decide +kernel)) (by decide +kernel) (qa_cons (q_call C__law_deed_lines (hr.mono (by decide)) rfl (qa_cons (q_var 3) qa_nil)) qa_nil)) (nomark _)) (qw_or1 (qt_cmp (oq_ne hr.r.units) (q_callB (cq_repr hr) rfl (E.free (by decide +kernel)) (by decide +kernel) (qa_cons (q_call C_read_deed (hr.mono (by decide)) rfl (qa_cons (q_var 5) qa_nil)) qa_nil)) (q_callB (cq_repr hr) rfl (E.free (by decide +kernel)) (by decide +kernel) (qa_cons (q_var 3) qa_nil)) (nomark _))))) (qss_one (qs_ret q_bl)) qss_nil) (qss_cons (qs_expr (q_m PySem.F.plainAttrs_list PySem.F.slot_list_append PySem.F.type_list_append mq_append (.inr (.inl rfl)) (q_var 5) (qa_cons q_str qa_nil))) (qss_cons (qs_if (qt_w (qw_or (qt_cmp (oq_ne hr.r.units) (q_callB (cq_repr hr) rfl (E.free (by decide +kernel)) (by decide +kernel) (qa_cons (q_call C_deed_lines (hr.mono (by decide)) rfl (qa_cons (q_var 3) qa_nil)) qa_nil)) (q_callB (cq_repr hr) rfl (E.free (by decide +kernel)) (by decide +kernel) (qa_cons (q_call C__law_deed_lines (hr.mono (by decide)) rfl (qa_cons (q_var 3) qa_nil)) qa_nil)) (nomark _)) (qw_or1 (qt_cmp (oq_ne hr.r.units) (q_callB (cq_repr hr) rfl (E.free (by decide +kernel)) (by decide +kernel) (qa_cons (q_var 3) qa_nil)) (q_var 4) (nomark _))))) (qss_one (qs_ret q_bl)) qss_nil) (qss_one (qs_if (qt_cmp (oq_ne hr.r.units) (q_callB (cq_repr hr) rfl (E.free (by decide +kernel)) (by decide +kernel) (qa_cons (q_call C_read_deed (hr.mono (by decide)) rfl (qa_cons (q_var 5) qa_nil)) qa_nil)) (q_callB (cq_repr hr) rfl (E.free (by decide +kernel)) (by decide +kernel) (qa_cons (q_op oq_add (q_op oq_add (q_slice (q_var 3) qpo_none (qpo_some q_int)) (q_tup (qa_cons (q_op oq_add (q_ix (q_var 3) q_int (fun _ _ => rfl)) (q_tup (qa_cons (q_tup (qa_cons q_str (qa_cons q_int qa_nil))) qa_nil))) qa_nil))) (q_slice (q_var 3) (qpo_some q_int) qpo_none)) qa_nil)) (nomark _)) (qss_one (qs_ret q_bl)) qss_nil))))))))) (qss_one (qs_ret q_bl))))))
    (sp1_read r_law rfl)
theorem law_at (E : Txt K mg w) : mg "law" = some (.ref (He.fAd K h_law.at_)) := E.glo (x := "law") (by simp [fa, fa_0, fa_1])
end
end K82
open PySem PySem.W PySem.Calls PyProof.Rows
theorem PySem.Challenge.cw_almsrow_k82_deeds_as_texts_holds : PySem.Challenge.rw_almsrow_k82_deeds_as_texts.Holds := by
  w_on; o_law
  refine HandSHeadRun.head_any (r := OpenLaw.row PySem.Challenge.rw_almsrow_k82_deeds_as_texts) (q := view (OpenLaw.row PySem.Challenge.rw_almsrow_k82_deeds_as_texts).prog [46]) (H := K82.hk) (ob := K82.ob) (M := 4000) (loose := K82.names) (d := HandSHeadRun.topDef (OpenLaw.row PySem.Challenge.rw_almsrow_k82_deeds_as_texts).prog 46) (kwd := []) K82.ob_eq
    (by kernel_rfl) (fun s => by kernel_rfl) K82.run (by kernel_rfl) (by kernel_rfl) (by kernel_rfl) (by rfl) (by first | assumption | decide +kernel) (by decide +kernel) ⟨rfl, rfl, rfl, rfl, rfl, by decide +kernel⟩ ?hw ?hc
  case hw => w_witness2
  case hc =>
    refine PD.lawG (l := PySem.Challenge.rw_almsrow_k82_deeds_as_texts) (n := 63) (k := 9) (x := "_law_script") rfl (by decide) (by kernel_rfl) ⟨rfl, by decide, by decide⟩ ?F
    intro w mg fa h Y G hmg0
    obtain ⟨K, KX, c⟩ := Y
    have hmg : mg ("law" : PySem.Str) = some (.ref fa) := by
      have e : (HandSHeadRun.topDef (OpenLaw.row PySem.Challenge.rw_almsrow_k82_deeds_as_texts).prog 46).name = ("law" : PySem.Str) := by kernel_rfl
      rw [← e]
      exact hmg0
    have E : K82.Txt K mg w := ⟨h, h, KX, G, c⟩
    obtain ⟨fd, F⟩ := E.def_ (d := K82.h_law) (by simp [K82.fn, K82.fn_0])
    have e := hmg.symm.trans (K82.law_at E)
    cases e
    have b := L2.FunD.bindsA (ps := ["_law_script"]) F fun _ _ _ _ _ _ us hl => match us, hl with | [_], _ => rfl
    exact ⟨K, fd, PD.LSp K K82.sp_law, KX, fun s v => b s [v] rfl, fun H a ns hl _ hS => PD.lawSp hS fun x A sc => K82.law_sp x ns A sc, fun base _ _ => K82.l_law E F⟩
