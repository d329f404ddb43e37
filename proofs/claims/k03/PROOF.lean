import PyProof.Rows.All
import Wide.All
import OpenK.AllK
import Wide.FinOn
import KE.KStateDown
import HandS.ForMost
import HandS.More
import HandS.Wide
import HandS.Conv
import HandS.WordsExc
import HandS.Defaults
import HandS.IsInst
import HandS.Flow
import HandS.RaiseMore
import HandS.Head0
import HandS.Head1
import HandS.Head2
import HandS.HeadEnd
import HandS.HeadHook1
import HandS.HeadHook2
import HandS.StrMore
import HandS.HeadHook4
import PySem.Challenge.RW_sentparts_k03_numbers_rounded
set_option Elab.async false
set_option linter.all false
set_option maxRecDepth 100000
set_option maxHeartbeats 0
namespace Cr
open PySem L2

/-! ## data: values as trees -/
inductive D where
  | non | bl (b : Bool) | int (i : Int) | str (x : Str) | ty (n : String) | raw (a : Addr)
  | lst (xs : List D) | tup (xs : List D) | dic (kvs : List (Key × D)) | ins (C : Addr) (fs : List (Str × D))
  | scr (ns : List Int)

section
variable (K : PySem.W.Frag) (H : Hp)
mutual
def Rep : D → V → Prop
  | .non, v => v = .non
  | .bl b, v => v = .bl b
  | .int i, v => v = .int i
  | .str x, v => v = .str x
  | .ty n, v => v = .ty n
  | .raw a, v => v = .ref a
  | .lst ds, v => ∃ a vs, v = .ref a ∧ H a = some (.lst vs) ∧ RepL ds vs
  | .tup ds, v => ∃ a vs, v = .ref a ∧ SqT K H a vs ∧ RepL ds vs
  | .dic kds, v => ∃ a kvs, v = .ref a ∧ Rd H a (.dK kvs) ∧ RepK kds kvs
  | .ins C fds, v => ∃ a dx fs, v = .ref a ∧ H a = some (.ins C dx fs) ∧ RepF fds fs
  | .scr ns, v => ∃ a, v = .ref a ∧ SqL K H a (ns.map V.int)
def RepL : List D → List V → Prop
  | [], vs => vs = []
  | d :: ds, vs => ∃ v r, vs = v :: r ∧ Rep d v ∧ RepL ds r
def RepK : List (Key × D) → List (Key × V) → Prop
  | [], vs => vs = []
  | (k, d) :: ds, vs => ∃ v r, vs = (k, v) :: r ∧ Rep d v ∧ RepK ds r
def RepF : List (Str × D) → List (Str × V) → Prop
  | [], vs => vs = []
  | (k, d) :: ds, vs => ∃ v r, vs = (k, v) :: r ∧ Rep d v ∧ RepF ds r
end
end
theorem same_t {K : PySem.W.Frag} {H H' : Hp} {a : Addr} {xs : List V} (e : Same H H') (h : SqT K H a xs) : SqT K H' a xs := by
  rcases h with (h | ⟨o, h⟩) | h
  · exact .inl (.inl (e _ _ h))
  · exact .inl (.inr ⟨o, e _ _ h⟩)
  · exact .inr h
theorem same_rd {H H' : Hp} {a : Addr} {u : HO} (e : Same H H') (h : Rd H a u) : Rd H' a u := by
  rcases h with h | ⟨o, h⟩
  · exact .inl (e _ _ h)
  · exact .inr ⟨o, e _ _ h⟩
section
variable {K : PySem.W.Frag} {H H' : Hp}
mutual
theorem Rep.mono (e : Same H H') : ∀ (d : D) (v : V), Rep K H d v → Rep K H' d v
  | .non, _, h => h
  | .bl _, _, h => h
  | .int _, _, h => h
  | .str _, _, h => h
  | .ty _, _, h => h
  | .raw _, _, h => h
  | .lst ds, _, ⟨a, vs, h1, h2, h3⟩ => ⟨a, vs, h1, e _ _ h2, RepL.mono e ds vs h3⟩
  | .tup ds, _, ⟨a, vs, h1, h2, h3⟩ => ⟨a, vs, h1, same_t e h2, RepL.mono e ds vs h3⟩
  | .dic ds, _, ⟨a, vs, h1, h2, h3⟩ => ⟨a, vs, h1, same_rd e h2, RepK.mono e ds vs h3⟩
  | .ins _ ds, _, ⟨a, dx, vs, h1, h2, h3⟩ => ⟨a, dx, vs, h1, e _ _ h2, RepF.mono e ds vs h3⟩
  | .scr ns, _, ⟨a, h1, h2⟩ => ⟨a, h1, e.seq h2⟩
theorem RepL.mono (e : Same H H') : ∀ (d : List D) (v : List V), RepL K H d v → RepL K H' d v
  | [], _, h => h
  | d :: ds, _, ⟨v, r, h1, h2, h3⟩ => ⟨v, r, h1, Rep.mono e d v h2, RepL.mono e ds r h3⟩
theorem RepK.mono (e : Same H H') : ∀ (d : List (Key × D)) (v : List (Key × V)), RepK K H d v → RepK K H' d v
  | [], _, h => h
  | (_, d) :: ds, _, ⟨v, r, h1, h2, h3⟩ => ⟨v, r, h1, Rep.mono e d v h2, RepK.mono e ds r h3⟩
theorem RepF.mono (e : Same H H') : ∀ (d : List (Str × D)) (v : List (Str × V)), RepF K H d v → RepF K H' d v
  | [], _, h => h
  | (_, d) :: ds, _, ⟨v, r, h1, h2, h3⟩ => ⟨v, r, h1, Rep.mono e d v h2, RepF.mono e ds r h3⟩
end
theorem RepL.length : ∀ {d : List D} {v : List V}, RepL K H d v → v.length = d.length
  | [], _, h => by rw [show _ = [] from h]; rfl
  | d :: ds, _, ⟨v, r, h1, h2, h3⟩ => by rw [h1]; simp [RepL.length h3]
theorem RepL.get : ∀ {d : List D} {v : List V} {i : Nat} {x : D}, RepL K H d v → d[i]? = some x → ∃ u, v[i]? = some u ∧ Rep K H x u
  | [], _, i, x, h, e => by simp at e
  | d :: ds, _, 0, x, ⟨v, r, h1, h2, h3⟩, e => by
    simp at e; subst e; subst h1; exact ⟨v, rfl, h2⟩
  | d :: ds, _, i + 1, x, ⟨v, r, h1, h2, h3⟩, e => by
    subst h1
    obtain ⟨u, q1, q2⟩ := RepL.get (i := i) (x := x) h3 (by simpa using e)
    exact ⟨u, by simpa using q1, q2⟩
theorem RepL.get' : ∀ {d : List D} {v : List V} {i : Nat} {u : V}, RepL K H d v → v[i]? = some u → ∃ x, d[i]? = some x ∧ Rep K H x u := fun {d v i u} h e => by
  have hl := h.length
  have hi : i < v.length := (List.getElem?_eq_some_iff.mp e).1
  have : d[i]? = some d[i] := List.getElem?_eq_getElem (by omega)
  obtain ⟨u', q1, q2⟩ := h.get this
  rw [e] at q1; cases q1
  exact ⟨_, this, q2⟩
theorem RepF.look : ∀ {d : List (Str × D)} {v : List (Str × V)} {f : Str} {x : D}, RepF K H d v → d.lookup f = some x → ∃ u, v.lookup f = some u ∧ Rep K H x u
  | [], _, f, x, h, e => by simp at e
  | (k, d) :: ds, _, f, x, ⟨v, r, h1, h2, h3⟩, e => by
    subst h1
    by_cases hk : f == k
    · simp only [List.lookup_cons, hk] at e ⊢
      cases e; exact ⟨v, rfl, h2⟩
    · simp only [List.lookup_cons, hk] at e ⊢
      exact RepF.look h3 e
theorem RepF.lookN : ∀ {d : List (Str × D)} {v : List (Str × V)} {f : Str}, RepF K H d v → d.lookup f = none → v.lookup f = none
  | [], _, f, h, e => by rw [show _ = [] from h]; rfl
  | (k, d) :: ds, _, f, ⟨v, r, h1, h2, h3⟩, e => by
    subst h1
    by_cases hk : f == k
    · simp only [List.lookup_cons, hk] at e
      cases e
    · simp only [List.lookup_cons, hk] at e ⊢
      exact RepF.lookN h3 e
end
def vD : V → D
  | .non => .non | .bl b => .bl b | .int i => .int i | .str x => .str x | .ty n => .ty n | .ref a => .raw a
  | .byt _ => .non | .flt _ => .non
def scV : V → Bool
  | .byt _ => false | .flt _ => false | _ => true
theorem rep_vD {K : PySem.W.Frag} {H : Hp} : ∀ {v : V}, scV v = true → Rep K H (vD v) v
  | .non, _ => rfl | .bl _, _ => rfl | .int _, _ => rfl | .str _, _ => rfl | .ty _, _ => rfl | .ref _, _ => rfl
  | .byt _, h => by cases h
  | .flt _, h => by cases h

/-! ## states: slots and numbered cells -/
inductive SV where
  | no | im (d : D) | cl (c : Nat)
inductive CO where
  | lst (xs : List SV) | dic (kvs : List (Key × SV)) | ins (C : Addr) (fs : List (Str × SV)) | fz (d : D) | dead
structure Sta where
  sl : List SV
  ce : List CO

section
variable (K : PySem.W.Frag) (I : Hp) (as : List Addr)
def RV : SV → V → Prop
  | .no, _ => False
  | .im d, v => Rep K I d v
  | .cl c, v => ∃ a, as[c]? = some a ∧ v = .ref a
def RVL : List SV → List V → Prop
  | [], vs => vs = []
  | s :: ss, vs => ∃ v r, vs = v :: r ∧ RV K I as s v ∧ RVL ss r
def RVK : List (Key × SV) → List (Key × V) → Prop
  | [], vs => vs = []
  | (k, s) :: ss, vs => ∃ v r, vs = (k, v) :: r ∧ RV K I as s v ∧ RVK ss r
def RVF : List (Str × SV) → List (Str × V) → Prop
  | [], vs => vs = []
  | (k, s) :: ss, vs => ∃ v r, vs = (k, v) :: r ∧ RV K I as s v ∧ RVF ss r
def CellOk (H : Hp) (a : Addr) : CO → Prop
  | .lst xs => I a = none ∧ ∃ vs, H a = some (.lst vs) ∧ RVL K I as xs vs
  | .dic kvs => I a = none ∧ ∃ vs, H a = some (.dK vs) ∧ RVK K I as kvs vs
  | .ins C fs => I a = none ∧ ∃ dx vs, H a = some (.ins C dx vs) ∧ RVF K I as fs vs
  | .fz d => Rep K I d (.ref a)
  | .dead => True
end
def CO.live : CO → Bool
  | .lst _ => true | .dic _ => true | .ins _ _ => true | _ => false
/-- what stands around: F is kept as it is, J was frozen at the entry -/
structure Frm where
  F : Hp
  J : Hp
structure R (K : PySem.W.Frag) (δ : Sta) (σ : St) (F : Frm) (I : Hp) (as : List Addr) (H : Hp) : Prop where
  fh : Same F.F H
  nf : ∀ (a : Addr) (u : HO), I a = some u → F.F a = none ∨ F.J a = some u
  cf : ∀ (c : Nat) (o : CO) (a : Addr), δ.ce[c]? = some o → as[c]? = some a → o.live = true → F.F a = none
  ih : Same I H
  len : σ.length = δ.sl.length
  slots : ∀ (i : Nat) (s : SV), δ.sl[i]? = some s → s = .no ∨ ∃ v, σ[i]? = some (some v) ∧ RV K I as s v
  clen : as.length = δ.ce.length
  cells : ∀ (c : Nat) (o : CO) (a : Addr), δ.ce[c]? = some o → as[c]? = some a → CellOk K I as H a o
  inj : ∀ (c c' : Nat) (o o' : CO) (a : Addr), δ.ce[c]? = some o → δ.ce[c']? = some o' → o.live = true → o'.live = true → as[c]? = some a → as[c']? = some a → c = c'
/-- later: more frozen things, more cells -/
structure Le (I : Hp) (as : List Addr) (I' : Hp) (as' : List Addr) : Prop where
  i : Same I I'
  a : ∀ (c : Nat) (x : Addr), as[c]? = some x → as'[c]? = some x
theorem Le.refl (I : Hp) (as : List Addr) : Le I as I as := ⟨Same.refl I, fun _ _ h => h⟩
theorem Le.trans {I I1 I2 : Hp} {as as1 as2 : List Addr} (a : Le I as I1 as1) (b : Le I1 as1 I2 as2) : Le I as I2 as2 := ⟨a.i.trans b.i, fun c x h => b.a c x (a.a c x h)⟩
section
variable {K : PySem.W.Frag} {I I' : Hp} {as as' : List Addr}
theorem RV.mono (e : Le I as I' as') : ∀ {s : SV} {v : V}, RV K I as s v → RV K I' as' s v
  | .no, _, h => h
  | .im d, v, h => Rep.mono e.i d v h
  | .cl c, v, ⟨a, h1, h2⟩ => ⟨a, e.a c a h1, h2⟩
theorem RVL.mono (e : Le I as I' as') : ∀ {s : List SV} {v : List V}, RVL K I as s v → RVL K I' as' s v
  | [], _, h => h
  | s :: ss, _, ⟨v, r, h1, h2, h3⟩ => ⟨v, r, h1, h2.mono e, h3.mono e⟩
theorem RVK.mono (e : Le I as I' as') : ∀ {s : List (Key × SV)} {v : List (Key × V)}, RVK K I as s v → RVK K I' as' s v
  | [], _, h => h
  | (_, s) :: ss, _, ⟨v, r, h1, h2, h3⟩ => ⟨v, r, h1, h2.mono e, h3.mono e⟩
theorem RVF.mono (e : Le I as I' as') : ∀ {s : List (Str × SV)} {v : List (Str × V)}, RVF K I as s v → RVF K I' as' s v
  | [], _, h => h
  | (_, s) :: ss, _, ⟨v, r, h1, h2, h3⟩ => ⟨v, r, h1, h2.mono e, h3.mono e⟩
end

/-! ## exceptions that leave -/
structure Xn where
  cls : Value
  fs : List (Str × SV)

/-! ## what is wanted behind an expression -/
structure ConE (K : PySem.W.Frag) (σ : St) (F : Frm) (I : Hp) (as : List Addr) (E : XK) (Ψ : SV → Sta → Prop) (Ξ : Xn → Sta → Prop) (Q : VK) : Prop where
  v : ∀ s δ' v I' as' H', R K δ' σ F I' as' H' → Le I as I' as' → RV K I' as' s v → Ψ s δ' → Q v H'
  x : ∀ (x : Xn) δ' d I' as' H', R K δ' σ F I' as' H' → Le I as I' as' → (∃ fs, H' d = some (.xd fs) ∧ RVF K I' as' x.fs fs) → Ξ x δ' → E x.cls (some d) H'
def WE (K : PySem.W.Frag) (E : XK) (te : TE) (Ψ : SV → Sta → Prop) (Ξ : Xn → Sta → Prop) (δ : Sta) : Prop :=
  ∀ (σ : St) (F : Frm) (I : Hp) (as : List Addr) (H : Hp) (Q : VK), R K δ σ F I as H → ConE K σ F I as E Ψ Ξ Q → te σ H Q
structure ConT (K : PySem.W.Frag) (σ : St) (F : Frm) (I : Hp) (as : List Addr) (E : XK) (Ψ : Bool → Sta → Prop) (Ξ : Xn → Sta → Prop) (Q : Bool → Hp → Prop) : Prop where
  v : ∀ b δ' I' as' H', R K δ' σ F I' as' H' → Le I as I' as' → Ψ b δ' → Q b H'
  x : ∀ (x : Xn) δ' d I' as' H', R K δ' σ F I' as' H' → Le I as I' as' → (∃ fs, H' d = some (.xd fs) ∧ RVF K I' as' x.fs fs) → Ξ x δ' → E x.cls (some d) H'
def WT (K : PySem.W.Frag) (E : XK) (t : TT) (Ψ : Bool → Sta → Prop) (Ξ : Xn → Sta → Prop) (δ : Sta) : Prop :=
  ∀ (σ : St) (F : Frm) (I : Hp) (as : List Addr) (H : Hp) (Q : Bool → Hp → Prop), R K δ σ F I as H → ConT K σ F I as E Ψ Ξ Q → t σ H Q
structure ConA (K : PySem.W.Frag) (σ : St) (F : Frm) (I : Hp) (as : List Addr) (E : XK) (Ψ : List SV → Sta → Prop) (Ξ : Xn → Sta → Prop) (Q : List V → Hp → Prop) : Prop where
  v : ∀ s δ' v I' as' H', R K δ' σ F I' as' H' → Le I as I' as' → RVL K I' as' s v → Ψ s δ' → Q v H'
  x : ∀ (x : Xn) δ' d I' as' H', R K δ' σ F I' as' H' → Le I as I' as' → (∃ fs, H' d = some (.xd fs) ∧ RVF K I' as' x.fs fs) → Ξ x δ' → E x.cls (some d) H'
def WA (K : PySem.W.Frag) (E : XK) (t : TA) (Ψ : List SV → Sta → Prop) (Ξ : Xn → Sta → Prop) (δ : Sta) : Prop :=
  ∀ (σ : St) (F : Frm) (I : Hp) (as : List Addr) (H : Hp) (Q : List V → Hp → Prop), R K δ σ F I as H → ConA K σ F I as E Ψ Ξ Q → t σ H Q
structure Post where
  nx : Sta → Prop
  rt : SV → Sta → Prop
  bk : Sta → Prop := fun _ => False
  ct : Sta → Prop := fun _ => False
  ex : Xn → Sta → Prop := fun _ _ => False
structure ConS (K : PySem.W.Frag) (F : Frm) (I : Hp) (as : List Addr) (E : XK) (Φ : Post) (D : Ends) : Prop where
  nx : ∀ δ' σ' I' as' H', R K δ' σ' F I' as' H' → Le I as I' as' → Φ.nx δ' → D.nx σ' H'
  rt : ∀ s δ' σ' v I' as' H', R K δ' σ' F I' as' H' → Le I as I' as' → RV K I' as' s v → Φ.rt s δ' → D.rt v H'
  bk : ∀ δ' σ' I' as' H', R K δ' σ' F I' as' H' → Le I as I' as' → Φ.bk δ' → D.bk σ' H'
  ct : ∀ δ' σ' I' as' H', R K δ' σ' F I' as' H' → Le I as I' as' → Φ.ct δ' → D.ct σ' H'
  x : ∀ (x : Xn) δ' σ' d I' as' H', R K δ' σ' F I' as' H' → Le I as I' as' → (∃ fs, H' d = some (.xd fs) ∧ RVF K I' as' x.fs fs) → Φ.ex x δ' → E x.cls (some d) H'
def WS (K : PySem.W.Frag) (E : XK) (t : TS) (Φ : Post) (δ : Sta) : Prop :=
  ∀ (σ : St) (F : Frm) (I : Hp) (as : List Addr) (H : Hp) (D : Ends), R K δ σ F I as H → ConS K F I as E Φ D → t D σ H
end Cr
namespace Cr
open PySem L2

/-! ## reading data off states -/
def imS (ce : List CO) : SV → Option D
  | .no => none
  | .im d => some d
  | .cl c => match ce[c]? with
    | some (.fz d) => some d
    | _ => none
def imL (ce : List CO) : List SV → Option (List D)
  | [] => some []
  | s :: ss => match imS ce s, imL ce ss with
    | some d, some ds => some (d :: ds)
    | _, _ => none
def imK (ce : List CO) : List (Key × SV) → Option (List (Key × D))
  | [] => some []
  | (k, s) :: ss => match imS ce s, imK ce ss with
    | some d, some ds => some ((k, d) :: ds)
    | _, _ => none
def imF (ce : List CO) : List (Str × SV) → Option (List (Str × D))
  | [] => some []
  | (k, s) :: ss => match imS ce s, imF ce ss with
    | some d, some ds => some ((k, d) :: ds)
    | _, _ => none
def dv (ce : List CO) : SV → Option D
  | .no => none
  | .im d => some d
  | .cl c => match ce[c]? with
    | some (.fz d) => some d
    | some (.lst xs) => (imL ce xs).map .lst
    | some (.dic kvs) => (imK ce kvs).map .dic
    | some (.ins C fs) => (imF ce fs).map (.ins C)
    | _ => none
section
variable {K : PySem.W.Frag} {δ : Sta} {σ : L2.St} {F : Frm} {I : Hp} {as : List Addr} {H : Hp}
theorem R.imS (r : R K δ σ F I as H) : ∀ {s : SV} {d : D} {v : V}, Cr.imS δ.ce s = some d → RV K I as s v → Rep K I d v
  | .no, _, _, e, _ => by cases e
  | .im d, _, _, e, h => by cases e; exact h
  | .cl c, d, v, e, ⟨a, ha, hv⟩ => by
    simp only [Cr.imS] at e
    cases q : δ.ce[c]? with
    | none => rw [q] at e; cases e
    | some o =>
      rw [q] at e
      cases o with
      | fz d' =>
        cases e
        subst hv
        exact r.cells c _ a q ha
      | _ => cases e
theorem R.imL (r : R K δ σ F I as H) : ∀ {s : List SV} {d : List D} {v : List V}, Cr.imL δ.ce s = some d → RVL K I as s v → RepL K I d v
  | [], _, _, e, h => by cases e; exact h
  | s :: ss, d, v, e, ⟨u, w, h1, h2, h3⟩ => by
    simp only [Cr.imL] at e
    cases q1 : Cr.imS δ.ce s with
    | none => rw [q1] at e; cases e
    | some x =>
      cases q2 : Cr.imL δ.ce ss with
      | none => rw [q1, q2] at e; cases e
      | some xs =>
        rw [q1, q2] at e
        cases e
        exact ⟨u, w, h1, r.imS q1 h2, r.imL q2 h3⟩
theorem R.imK (r : R K δ σ F I as H) : ∀ {s : List (Key × SV)} {d : List (Key × D)} {v : List (Key × V)}, Cr.imK δ.ce s = some d → RVK K I as s v → RepK K I d v
  | [], _, _, e, h => by cases e; exact h
  | (k, s) :: ss, d, v, e, ⟨u, w, h1, h2, h3⟩ => by
    simp only [Cr.imK] at e
    cases q1 : Cr.imS δ.ce s with
    | none => rw [q1] at e; cases e
    | some x =>
      cases q2 : Cr.imK δ.ce ss with
      | none => rw [q1, q2] at e; cases e
      | some xs =>
        rw [q1, q2] at e
        cases e
        exact ⟨u, w, h1, r.imS q1 h2, r.imK q2 h3⟩
theorem R.imF (r : R K δ σ F I as H) : ∀ {s : List (Str × SV)} {d : List (Str × D)} {v : List (Str × V)}, Cr.imF δ.ce s = some d → RVF K I as s v → RepF K I d v
  | [], _, _, e, h => by cases e; exact h
  | (k, s) :: ss, d, v, e, ⟨u, w, h1, h2, h3⟩ => by
    simp only [Cr.imF] at e
    cases q1 : Cr.imS δ.ce s with
    | none => rw [q1] at e; cases e
    | some x =>
      cases q2 : Cr.imF δ.ce ss with
      | none => rw [q1, q2] at e; cases e
      | some xs =>
        rw [q1, q2] at e
        cases e
        exact ⟨u, w, h1, r.imS q1 h2, r.imF q2 h3⟩
/-- what a cell holds, read off I with the cell's own object put in -/
theorem R.dvAt (r : R K δ σ F I as H) {c : Nat} {a : Addr} {o : CO} {d : D} (q : δ.ce[c]? = some o) (ha : as[c]? = some a) (e : Cr.dv δ.ce (.cl c) = some d) {J : Hp} (hJ : Same I J) (hJa : ∀ u, o.live = true → H a = some u → J a = some u) : Rep K J d (.ref a) := by
  simp only [Cr.dv] at e
  rw [q] at e
  have z := r.cells c o a q ha
  cases o with
  | fz d' => cases e; exact Rep.mono hJ _ _ z
  | dead => cases e
  | lst xs =>
    obtain ⟨_, vs, h1, h2⟩ := z
    cases q2 : Cr.imL δ.ce xs with
    | none => simp only [q2] at e; cases e
    | some ds =>
      simp only [q2] at e
      cases e
      exact ⟨a, vs, rfl, hJa _ rfl h1, RepL.mono hJ _ _ (r.imL q2 h2)⟩
  | dic kvs =>
    obtain ⟨_, vs, h1, h2⟩ := z
    cases q2 : Cr.imK δ.ce kvs with
    | none => simp only [q2] at e; cases e
    | some ds =>
      simp only [q2] at e
      cases e
      exact ⟨a, vs, rfl, Rd.of (hJa _ rfl h1), RepK.mono hJ _ _ (r.imK q2 h2)⟩
  | ins C fs =>
    obtain ⟨_, dx, vs, h1, h2⟩ := z
    cases q2 : Cr.imF δ.ce fs with
    | none => simp only [q2] at e; cases e
    | some ds =>
      simp only [q2] at e
      cases e
      exact ⟨a, dx, vs, rfl, hJa _ rfl h1, RepF.mono hJ _ _ (r.imF q2 h2)⟩
theorem R.dv (r : R K δ σ F I as H) : ∀ {s : SV} {d : D} {v : V}, Cr.dv δ.ce s = some d → RV K I as s v → Rep K H d v
  | .no, _, _, e, _ => by cases e
  | .im d, _, _, e, h => by cases e; exact Rep.mono r.ih _ _ h
  | .cl c, d, v, e, ⟨a, ha, hv⟩ => by
    subst hv
    cases q : δ.ce[c]? with
    | none => simp only [Cr.dv] at e; rw [q] at e; cases e
    | some o => exact r.dvAt q ha e r.ih fun _ _ h => h
theorem get_of_lt {α : Type} {l : List α} {c : Nat} (h : c < l.length) : ∃ x, l[c]? = some x := ⟨l[c], List.getElem?_eq_getElem h⟩
theorem R.adr (r : R K δ σ F I as H) {c : Nat} {o : CO} (q : δ.ce[c]? = some o) : ∃ a, as[c]? = some a := by
  have h : c < δ.ce.length := (List.getElem?_eq_some_iff.mp q).1
  exact get_of_lt (by rw [r.clen]; exact h)
theorem same_upd {I : Hp} {a : Addr} {o : HO} (h : I a = none) : Same I (upd I a o) := fun b u e => by
  rw [upd_ne (ne_of_none e h)]; exact e
theorem none_back {I H : Hp} (e : Same I H) {p : Addr} (h : H p = none) : I p = none := by
  cases q : I p with
  | none => rfl
  | some o => rw [e p o q] at h; cases h
theorem CellOk.mono {I' : Hp} {as' : List Addr} {H' : Hp} {a : Addr} : ∀ {o : CO}, CellOk K I as H a o → Le I as I' as' → (o.live = true → I' a = none) → (o.live = true → ∀ u, H a = some u → H' a = some u) → CellOk K I' as' H' a o
  | .lst xs, ⟨_, vs, h2, h3⟩, e, n, k => ⟨n rfl, vs, k rfl _ h2, h3.mono e⟩
  | .dic xs, ⟨_, vs, h2, h3⟩, e, n, k => ⟨n rfl, vs, k rfl _ h2, h3.mono e⟩
  | .ins C xs, ⟨_, dx, vs, h2, h3⟩, e, n, k => ⟨n rfl, dx, vs, k rfl _ h2, h3.mono e⟩
  | .fz d, h, e, _, _ => Rep.mono e.i _ _ h
  | .dead, _, _, _, _ => trivial
theorem CellOk.free {a : Addr} : ∀ {o : CO}, o.live = true → CellOk K I as H a o → I a = none ∧ ∃ u, H a = some u
  | .lst xs, _, ⟨h, _, h2, _⟩ => ⟨h, _, h2⟩
  | .dic xs, _, ⟨h, _, h2, _⟩ => ⟨h, _, h2⟩
  | .ins C xs, _, ⟨h, _, _, h2, _⟩ => ⟨h, _, h2⟩
  | .fz d, l, _ => by cases l
  | .dead, l, _ => by cases l
/-- a cell is frozen -/
theorem R.freeze (r : R K δ σ F I as H) {c : Nat} {d : D} (e : Cr.dv δ.ce (.cl c) = some d) :
    ∃ I', R K { δ with ce := δ.ce.set c (.fz d) } σ F I' as H ∧ Le I as I' as := by
  cases q : δ.ce[c]? with
  | none => simp only [Cr.dv] at e; rw [q] at e; cases e
  | some o =>
    obtain ⟨a, ha⟩ := r.adr q
    have hc : c < δ.ce.length := (List.getElem?_eq_some_iff.mp q).1
    by_cases hl : o.live = true
    · have z := r.cells c o a q ha
      obtain ⟨hn, u, hu⟩ := z.free hl
      have le : Le I as (upd I a u) as := ⟨same_upd hn, fun _ _ h => h⟩
      refine ⟨upd I a u, ⟨r.fh, fun b w h => ?_, fun c' o' a' h1 h2 l' => ?_, fun b w h => ?_, r.len, fun i s h => ?_, by simp [r.clen], fun c' o' a' h1 h2 => ?_, fun c1 c2 o1 o2 a1 h1 h2 l1 l2 h3 h4 => ?_⟩, le⟩
      · by_cases hb : b = a
        · subst hb; exact .inl (r.cf c o b q ha hl)
        · rw [upd_ne hb] at h; exact r.nf b w h
      · by_cases hcc : c' = c
        · subst hcc
          simp only [List.getElem?_set_self hc] at h1
          cases h1; cases l'
        · simp only [List.getElem?_set_ne (Ne.symm hcc)] at h1
          exact r.cf c' o' a' h1 h2 l'
      · by_cases hb : b = a
        · subst hb; rw [upd_same] at h; cases h; exact hu
        · rw [upd_ne hb] at h; exact r.ih b w h
      · rcases r.slots i s h with h | ⟨v, h1, h2⟩
        · exact .inl h
        · exact .inr ⟨v, h1, h2.mono le⟩
      · by_cases hcc : c' = c
        · subst hcc
          simp only [List.getElem?_set_self hc] at h1
          cases h1
          rw [ha] at h2; cases h2
          exact r.dvAt q ha e le.i fun w _ hw => by rw [upd_same]; rw [← hw]; exact hu.symm
        · simp only [List.getElem?_set_ne (Ne.symm hcc)] at h1
          refine (r.cells c' o' a' h1 h2).mono le (fun l => ?_) fun _ _ h => h
          have ne : a' ≠ a := fun ea => hcc (r.inj c' c o' o a' h1 q l hl h2 (ea ▸ ha))
          rw [upd_ne ne]
          exact ((r.cells c' o' a' h1 h2).free l).1
      · have n1 : c1 ≠ c := fun z => by subst z; simp only [List.getElem?_set_self hc] at h1; cases h1; cases l1
        have n2 : c2 ≠ c := fun z => by subst z; simp only [List.getElem?_set_self hc] at h2; cases h2; cases l2
        simp only [List.getElem?_set_ne (Ne.symm n1)] at h1
        simp only [List.getElem?_set_ne (Ne.symm n2)] at h2
        exact r.inj c1 c2 o1 o2 a1 h1 h2 l1 l2 h3 h4
    · have ed : o = .fz d := by
        simp only [Cr.dv] at e
        rw [q] at e
        cases o with
        | fz d' => cases e; rfl
        | dead => cases e
        | lst _ => exact absurd rfl hl
        | dic _ => exact absurd rfl hl
        | ins _ _ => exact absurd rfl hl
      subst ed
      have es : δ.ce.set c (.fz d) = δ.ce := by
        rw [show (CO.fz d) = δ.ce[c] from by rw [List.getElem?_eq_getElem hc] at q; exact (Option.some.inj q).symm]
        exact List.set_getElem_self hc
      rw [es]
      exact ⟨I, r, Le.refl I as⟩
theorem getElem?_snoc_lt {α : Type} {l : List α} {x : α} {c : Nat} {y : α} (h : l[c]? = some y) : (l ++ [x])[c]? = some y := by
  have : c < l.length := (List.getElem?_eq_some_iff.mp h).1
  rw [List.getElem?_append_left this]; exact h
/-- a new frozen object -/
theorem R.newF (r : R K δ σ F I as H) {p : Addr} {o : HO} (hp : H p = none) : R K δ σ F (upd I p o) as (upd H p o) ∧ Le I as (upd I p o) as := by
  have hn := none_back r.ih hp
  have le : Le I as (upd I p o) as := ⟨same_upd hn, fun _ _ h => h⟩
  refine ⟨⟨fun b w h => ?_, fun b w h => ?_, r.cf, fun b w h => ?_, r.len, fun i s h => ?_, r.clen, fun c' o' a' h1 h2 => ?_, r.inj⟩, le⟩
  · rw [upd_ne (ne_of_none (r.fh b w h) hp)]; exact r.fh b w h
  · by_cases hb : b = p
    · subst hb; exact .inl (none_back r.fh hp)
    · rw [upd_ne hb] at h; exact r.nf b w h
  · by_cases hb : b = p
    · subst hb; rw [upd_same] at h ⊢; exact h
    · rw [upd_ne hb] at h ⊢; exact r.ih b w h
  · rcases r.slots i s h with h | ⟨v, h1, h2⟩
    · exact .inl h
    · exact .inr ⟨v, h1, h2.mono le⟩
  · have z := r.cells c' o' a' h1 h2
    refine z.mono le (fun l => ?_) fun l u hu => ?_
    · obtain ⟨n, u, hu⟩ := z.free l
      rw [upd_ne (ne_of_none hu hp)]; exact n
    · rw [upd_ne (ne_of_none hu hp)]; exact hu
/-- a new cell -/
theorem R.newC (r : R K δ σ F I as H) {p : Addr} {o : HO} {co : CO} (hp : H p = none) (hc : CellOk K I as (upd H p o) p co) (hl : co.live = true) :
    R K { δ with ce := δ.ce ++ [co] } σ F I (as ++ [p]) (upd H p o) ∧ Le I as I (as ++ [p]) := by
  have le : Le I as I (as ++ [p]) := ⟨Same.refl I, fun _ _ h => getElem?_snoc_lt h⟩
  have hn := none_back r.ih hp
  have hlen : as.length = δ.ce.length := r.clen
  have cut : ∀ (c : Nat) (o' : CO) (a' : Addr), (δ.ce ++ [co])[c]? = some o' → (as ++ [p])[c]? = some a' → (δ.ce[c]? = some o' ∧ as[c]? = some a') ∨ (c = δ.ce.length ∧ o' = co ∧ a' = p) := fun c o' a' h1 h2 => by
    by_cases hcc : c < δ.ce.length
    · rw [List.getElem?_append_left hcc] at h1
      rw [List.getElem?_append_left (by omega)] at h2
      exact .inl ⟨h1, h2⟩
    · have hlt : c < (δ.ce ++ [co]).length := (List.getElem?_eq_some_iff.mp h1).1
      simp at hlt
      have : c = δ.ce.length := by omega
      subst this
      simp at h1
      rw [← hlen] at h2
      simp at h2
      exact .inr ⟨rfl, h1.symm, h2.symm⟩
  refine ⟨⟨fun b w h => ?_, r.nf, fun c' o' a' h1 h2 l' => ?_, fun b w h => ?_, r.len, fun i s h => ?_, by simp [hlen], fun c' o' a' h1 h2 => ?_, fun c1 c2 o1 o2 a1 h1 h2 l1 l2 h3 h4 => ?_⟩, le⟩
  · rw [upd_ne (ne_of_none (r.fh b w h) hp)]; exact r.fh b w h
  · rcases cut c' o' a' h1 h2 with ⟨g1, g2⟩ | ⟨_, _, z⟩
    · exact r.cf c' o' a' g1 g2 l'
    · rw [z]; exact none_back r.fh hp
  · rw [upd_ne (ne_of_none h hn)]; exact r.ih b w h
  · rcases r.slots i s h with h | ⟨v, h1, h2⟩
    · exact .inl h
    · exact .inr ⟨v, h1, h2.mono le⟩
  · rcases cut c' o' a' h1 h2 with ⟨h1, h2⟩ | ⟨_, rfl, rfl⟩
    · have z := r.cells c' o' a' h1 h2
      refine z.mono le (fun l => (z.free l).1) fun l u hu => ?_
      rw [upd_ne (ne_of_none hu hp)]; exact hu
    · exact hc.mono le (fun _ => hn) fun _ _ h => h
  · rcases cut c1 o1 a1 h1 h3 with ⟨g1, g3⟩ | ⟨e1, _, z1⟩
    · rcases cut c2 o2 a1 h2 h4 with ⟨g2, g4⟩ | ⟨e2, _, z2⟩
      · exact r.inj c1 c2 o1 o2 a1 g1 g2 l1 l2 g3 g4
      · obtain ⟨_, u, hu⟩ := (r.cells c1 o1 a1 g1 g3).free l1
        rw [z2, hp] at hu; cases hu
    · rcases cut c2 o2 a1 h2 h4 with ⟨g2, g4⟩ | ⟨e2, _, _⟩
      · obtain ⟨_, u, hu⟩ := (r.cells c2 o2 a1 g2 g4).free l2
        rw [z1, hp] at hu; cases hu
      · exact e1.trans e2.symm
/-- a cell is written -/
theorem R.setC (r : R K δ σ F I as H) {c : Nat} {o co : CO} {a : Addr} {u : HO} (q : δ.ce[c]? = some o) (hl : o.live = true) (ha : as[c]? = some a) (hc : CellOk K I as (upd H a u) a co) (hl' : co.live = true) :
    R K { δ with ce := δ.ce.set c co } σ F I as (upd H a u) := by
  have z := r.cells c o a q ha
  obtain ⟨hn, w0, hw0⟩ := z.free hl
  have hlt : c < δ.ce.length := (List.getElem?_eq_some_iff.mp q).1
  refine ⟨fun b w h => ?_, r.nf, fun c' o' a' h1 h2 l' => ?_, fun b w h => ?_, r.len, r.slots, by simp [r.clen], fun c' o' a' h1 h2 => ?_, fun c1 c2 o1 o2 a1 h1 h2 l1 l2 h3 h4 => ?_⟩
  · rw [upd_ne (ne_of_none h (r.cf c o a q ha hl))]; exact r.fh b w h
  · by_cases hcc : c' = c
    · subst hcc; exact r.cf c' o a' q h2 hl
    · simp only [List.getElem?_set_ne (Ne.symm hcc)] at h1
      exact r.cf c' o' a' h1 h2 l'
  · rw [upd_ne (ne_of_none h hn)]; exact r.ih b w h
  · by_cases hcc : c' = c
    · subst hcc
      simp only [List.getElem?_set_self hlt] at h1
      cases h1
      rw [ha] at h2; cases h2
      exact hc
    · simp only [List.getElem?_set_ne (Ne.symm hcc)] at h1
      have z' := r.cells c' o' a' h1 h2
      refine z'.mono (Le.refl I as) (fun l => (z'.free l).1) fun l w hw => ?_
      have ne : a' ≠ a := fun ea => hcc (r.inj c' c o' o a' h1 q l hl h2 (ea ▸ ha))
      rw [upd_ne ne]; exact hw
  · have g : ∀ (c1 : Nat) (o1 : CO), (δ.ce.set c co)[c1]? = some o1 → o1.live = true → ∃ o1', δ.ce[c1]? = some o1' ∧ o1'.live = true := fun c1 o1 h1 l1 => by
      by_cases hcc : c1 = c
      · subst hcc; exact ⟨o, q, hl⟩
      · simp only [List.getElem?_set_ne (Ne.symm hcc)] at h1; exact ⟨o1, h1, l1⟩
    obtain ⟨p1, g1, k1⟩ := g c1 o1 h1 l1
    obtain ⟨p2, g2, k2⟩ := g c2 o2 h2 l2
    exact r.inj c1 c2 p1 p2 a1 g1 g2 k1 k2 h3 h4
/-- a name is stored -/
theorem R.store (r : R K δ σ F I as H) {i : Nat} {s : SV} {v : V} (h : RV K I as s v) : R K { δ with sl := δ.sl.set i s } (σ.set i (some v)) F I as H := by
  refine ⟨r.fh, r.nf, r.cf, r.ih, by simp [r.len], fun j t hj => ?_, r.clen, r.cells, r.inj⟩
  by_cases hij : j = i
  · subst hij
    by_cases hlt : j < δ.sl.length
    · simp only [List.getElem?_set_self hlt] at hj
      cases hj
      exact .inr ⟨v, List.getElem?_set_self (by rw [r.len]; exact hlt), h⟩
    · have hj' : j < (δ.sl.set j s).length := (List.getElem?_eq_some_iff.mp hj).1
      simp at hj'
      exact absurd hj' hlt
  · simp only [List.getElem?_set_ne (Ne.symm hij)] at hj
    rcases r.slots j t hj with h | ⟨w, h1, h2⟩
    · exact .inl h
    · exact .inr ⟨w, by rw [List.getElem?_set_ne (Ne.symm hij)]; exact h1, h2⟩
end
section
variable {K : PySem.W.Frag} {σ : L2.St} {F : Frm} {I I1 : Hp} {as as1 : List Addr} {E : XK}
theorem ConE.later {Ψ : SV → Sta → Prop} {Ξ : Xn → Sta → Prop} {Q : VK} (c : ConE K σ F I as E Ψ Ξ Q) (e : Le I as I1 as1) : ConE K σ F I1 as1 E Ψ Ξ Q :=
  ⟨fun s δ' v I' as' H' r l => c.v s δ' v I' as' H' r (e.trans l), fun x δ' d I' as' H' r l => c.x x δ' d I' as' H' r (e.trans l)⟩
theorem ConT.later {Ψ : Bool → Sta → Prop} {Ξ : Xn → Sta → Prop} {Q : Bool → Hp → Prop} (c : ConT K σ F I as E Ψ Ξ Q) (e : Le I as I1 as1) : ConT K σ F I1 as1 E Ψ Ξ Q :=
  ⟨fun s δ' I' as' H' r l => c.v s δ' I' as' H' r (e.trans l), fun x δ' d I' as' H' r l => c.x x δ' d I' as' H' r (e.trans l)⟩
theorem ConA.later {Ψ : List SV → Sta → Prop} {Ξ : Xn → Sta → Prop} {Q : List V → Hp → Prop} (c : ConA K σ F I as E Ψ Ξ Q) (e : Le I as I1 as1) : ConA K σ F I1 as1 E Ψ Ξ Q :=
  ⟨fun s δ' v I' as' H' r l => c.v s δ' v I' as' H' r (e.trans l), fun x δ' d I' as' H' r l => c.x x δ' d I' as' H' r (e.trans l)⟩
theorem ConS.later {Φ : Post} {D : Ends} (c : ConS K F I as E Φ D) (e : Le I as I1 as1) : ConS K F I1 as1 E Φ D :=
  ⟨fun δ' σ' I' as' H' r l => c.nx δ' σ' I' as' H' r (e.trans l), fun s δ' σ' v I' as' H' r l => c.rt s δ' σ' v I' as' H' r (e.trans l),
   fun δ' σ' I' as' H' r l => c.bk δ' σ' I' as' H' r (e.trans l), fun δ' σ' I' as' H' r l => c.ct δ' σ' I' as' H' r (e.trans l),
   fun x δ' σ' d I' as' H' r l => c.x x δ' σ' d I' as' H' r (e.trans l)⟩
end
end Cr
namespace Cr
open PySem L2

section
variable {K : PySem.W.Frag} {E : XK} {Ψ : SV → Sta → Prop} {Ξ : Xn → Sta → Prop} {δ : Sta} {ta tb te tx : TE}
/-! ## expressions -/
theorem we_imp {Ψ' : SV → Sta → Prop} (h : WE K E te Ψ' Ξ δ) (k : ∀ s δ', Ψ' s δ' → Ψ s δ') : WE K E te Ψ Ξ δ := fun σ F I as H Q r c =>
  h σ F I as H Q r ⟨fun s δ' v I' as' H' r' l rv q => c.v s δ' v I' as' H' r' l rv (k s δ' q), c.x⟩
theorem we_var {i : Nat} {s : SV} (h : δ.sl[i]? = some s) (hn : s ≠ .no) (k : Ψ s δ) : WE K E (tVar i) Ψ Ξ δ := by
  intro σ F I as H Q r c
  rcases r.slots i s h with e | ⟨v, h1, h2⟩
  · exact absurd e hn
  · exact ⟨v, h1, c.v s δ v I as H r (Le.refl I as) h2 k⟩
theorem we_c {v : V} {d : D} (hd : ∀ I, Rep K I d v) (k : Ψ (.im d) δ) : WE K E (tC v) Ψ Ξ δ := fun σ F I as H Q r c => c.v (.im d) δ v I as H r (Le.refl I as) (hd I) k
theorem we_int {i : Int} (k : Ψ (.im (.int i)) δ) : WE K E (tC (.int i)) Ψ Ξ δ := we_c (d := .int i) (fun _ => rfl) k
theorem we_str {x : Str} (k : Ψ (.im (.str x)) δ) : WE K E (tC (.str x)) Ψ Ξ δ := we_c (d := .str x) (fun _ => rfl) k
theorem we_bl {b : Bool} (k : Ψ (.im (.bl b)) δ) : WE K E (tC (.bl b)) Ψ Ξ δ := we_c (d := .bl b) (fun _ => rfl) k
theorem we_non (k : Ψ (.im .non) δ) : WE K E (tC .non) Ψ Ξ δ := we_c (d := .non) (fun _ => rfl) k
theorem we_ty {n : String} (k : Ψ (.im (.ty n)) δ) : WE K E (tC (.ty n)) Ψ Ξ δ := we_c (d := .ty n) (fun _ => rfl) k
theorem we_raw {a : Addr} (k : Ψ (.im (.raw a)) δ) : WE K E (tC (.ref a)) Ψ Ξ δ := we_c (d := .raw a) (fun _ => rfl) k
/-- a cell may be frozen at any time -/
theorem we_fz {c : Nat} {d : D} (e : dv δ.ce (.cl c) = some d) (h : WE K E te Ψ Ξ { δ with ce := δ.ce.set c (.fz d) }) : WE K E te Ψ Ξ δ := fun σ F I as H Q r cc => by
  obtain ⟨I', r', l⟩ := r.freeze e
  exact h σ F I' as H Q r' (cc.later l)

/-- an operation on values that are come to -/
def OpW (K : PySem.W.Frag) (r : R2) (s1 s2 : SV) (Ψ : SV → Sta → Prop) (δ : Sta) : Prop :=
  ∀ (σ : L2.St) (F : Frm) (I : Hp) (as : List Addr) (H : Hp) (Q : VK) (v w : V), R K δ σ F I as H → RV K I as s1 v → RV K I as s2 w →
    (∀ s δ' v I' as' H', R K δ' σ F I' as' H' → Le I as I' as' → RV K I' as' s v → Ψ s δ' → Q v H') → r v w H Q
theorem we_op {r : R2} (h : WE K E ta (fun s1 δ1 => WE K E tb (fun s2 δ2 => OpW K r s1 s2 Ψ δ2) Ξ δ1) Ξ δ) : WE K E (tOp r ta tb) Ψ Ξ δ := by
  intro σ F I as H Q r c
  refine h σ F I as H _ r ⟨fun s1 δ1 v1 I1 as1 H1 r1 l1 rv1 k1 => ?_, c.x⟩
  refine k1 σ F I1 as1 H1 _ r1 ⟨fun s2 δ2 v2 I2 as2 H2 r2 l2 rv2 k2 => ?_, (c.later l1).x⟩
  exact k2 σ F I2 as2 H2 Q v1 v2 r2 (rv1.mono l2) rv2 ((c.later l1).later l2).v
/-- scalar results -/
def OpS (K : PySem.W.Frag) (r : R2) (P : D → D → D → Prop) : Prop := ∀ (H : Hp) (x y : D) (v w : V) (d : D) (Q : VK), Rep K H x v → Rep K H y w → P x y d → (∀ u, (∀ I, Rep K I d u) → Q u H) → r v w H Q
theorem ow_s {r : R2} {P : D → D → D → Prop} (hp : OpS K r P) {s1 s2 : SV} {x y d : D} (e1 : dv δ.ce s1 = some x) (e2 : dv δ.ce s2 = some y) (h : P x y d) (k : Ψ (.im d) δ) : OpW K r s1 s2 Ψ δ :=
  fun σ F I as H Q v w r h1 h2 c => hp H x y v w d Q (r.dv e1 h1) (r.dv e2 h2) h fun u hu => c (.im d) δ u I as H r (Le.refl I as) (hu I) k
theorem ow_l {r r' : R2} {s1 s2 : SV} (h : OpW K r s1 s2 Ψ δ) : OpW K (fun x y H Q => r x y H Q ∨ r' x y H Q) s1 s2 Ψ δ := fun σ F I as H Q v w r h1 h2 c => .inl (h σ F I as H Q v w r h1 h2 c)
theorem ow_r {r r' : R2} {s1 s2 : SV} (h : OpW K r' s1 s2 Ψ δ) : OpW K (fun x y H Q => r x y H Q ∨ r' x y H Q) s1 s2 Ψ δ := fun σ F I as H Q v w r h1 h2 c => .inr (h σ F I as H Q v w r h1 h2 c)
/-- ints -/
theorem ow_i0 {g : Int → Int → V} {s1 s2 : SV} {i j : Int} {d : D} (e1 : dv δ.ce s1 = some (.int i)) (e2 : dv δ.ce s2 = some (.int j)) (hd : ∀ I, Rep K I d (g i j)) (k : Ψ (.im d) δ) : OpW K (rI0 g) s1 s2 Ψ δ :=
  fun σ F I as H Q v w r h1 h2 c => ⟨i, j, r.dv e1 h1, r.dv e2 h2, c (.im d) δ _ I as H r (Le.refl I as) (hd I) k⟩
theorem ow_i {C : Int → Int → Prop} {g : Int → Int → V} {s1 s2 : SV} {i j : Int} {d : D} (e1 : dv δ.ce s1 = some (.int i)) (e2 : dv δ.ce s2 = some (.int j)) (hd : ∀ I, Rep K I d (g i j)) (hc : C i j) (k : Ψ (.im d) δ) : OpW K (rI C g) s1 s2 Ψ δ :=
  fun σ F I as H Q v w r h1 h2 c => ⟨i, j, r.dv e1 h1, r.dv e2 h2, hc, c (.im d) δ _ I as H r (Le.refl I as) (hd I) k⟩
theorem ow_add {s1 s2 : SV} {i j : Int} (e1 : dv δ.ce s1 = some (.int i)) (e2 : dv δ.ce s2 = some (.int j)) (k : Ψ (.im (.int (i + j))) δ) : OpW K (rI0 fun i j => .int (i + j)) s1 s2 Ψ δ := ow_i0 (d := .int (i + j)) e1 e2 (fun _ => rfl) k
theorem ow_sub {s1 s2 : SV} {i j : Int} (e1 : dv δ.ce s1 = some (.int i)) (e2 : dv δ.ce s2 = some (.int j)) (k : Ψ (.im (.int (i - j))) δ) : OpW K (rI0 fun i j => .int (i - j)) s1 s2 Ψ δ := ow_i0 (d := .int (i - j)) e1 e2 (fun _ => rfl) k
theorem ow_lt {s1 s2 : SV} {i j : Int} (e1 : dv δ.ce s1 = some (.int i)) (e2 : dv δ.ce s2 = some (.int j)) (k : Ψ (.im (.bl (decide (i < j)))) δ) : OpW K (rI0 fun i j => .bl (decide (i < j))) s1 s2 Ψ δ := ow_i0 (d := .bl _) e1 e2 (fun _ => rfl) k
theorem ow_le {s1 s2 : SV} {i j : Int} (e1 : dv δ.ce s1 = some (.int i)) (e2 : dv δ.ce s2 = some (.int j)) (k : Ψ (.im (.bl (decide (i ≤ j)))) δ) : OpW K (rI0 fun i j => .bl (decide (i ≤ j))) s1 s2 Ψ δ := ow_i0 (d := .bl _) e1 e2 (fun _ => rfl) k
theorem ow_gt {s1 s2 : SV} {i j : Int} (e1 : dv δ.ce s1 = some (.int i)) (e2 : dv δ.ce s2 = some (.int j)) (k : Ψ (.im (.bl (decide (j < i)))) δ) : OpW K (rI0 fun i j => .bl (decide (j < i))) s1 s2 Ψ δ := ow_i0 (d := .bl _) e1 e2 (fun _ => rfl) k
theorem ow_ge {s1 s2 : SV} {i j : Int} (e1 : dv δ.ce s1 = some (.int i)) (e2 : dv δ.ce s2 = some (.int j)) (k : Ψ (.im (.bl (decide (j ≤ i)))) δ) : OpW K (rI0 fun i j => .bl (decide (j ≤ i))) s1 s2 Ψ δ := ow_i0 (d := .bl _) e1 e2 (fun _ => rfl) k
theorem ow_mul {s1 s2 : SV} {i j : Int} (e1 : dv δ.ce s1 = some (.int i)) (e2 : dv δ.ce s2 = some (.int j)) (hc : CMul i j) (k : Ψ (.im (.int (i * j))) δ) : OpW K (rI CMul fun i j => .int (i * j)) s1 s2 Ψ δ := ow_i (d := .int (i * j)) e1 e2 (fun _ => rfl) hc k
theorem ow_div {s1 s2 : SV} {i j : Int} (e1 : dv δ.ce s1 = some (.int i)) (e2 : dv δ.ce s2 = some (.int j)) (hc : CDiv i j) (k : Ψ (.im (.int (i / j))) δ) : OpW K (rI CDiv fun i j => .int (i / j)) s1 s2 Ψ δ := ow_i (d := .int (i / j)) e1 e2 (fun _ => rfl) hc k
theorem ow_mod {s1 s2 : SV} {i j : Int} (e1 : dv δ.ce s1 = some (.int i)) (e2 : dv δ.ce s2 = some (.int j)) (hc : 0 < j) (k : Ψ (.im (.int (i % j))) δ) : OpW K (rI (fun _ j => 0 < j) fun i j => .int (i % j)) s1 s2 Ψ δ := ow_i (d := .int (i % j)) e1 e2 (fun _ => rfl) hc k
theorem ow_pow {s1 s2 : SV} {i j : Int} (e1 : dv δ.ce s1 = some (.int i)) (e2 : dv δ.ce s2 = some (.int j)) (hc : CPow i j) (k : Ψ (.im (.int (i ^ j.toNat))) δ) : OpW K (rI CPow fun i j => .int (i ^ j.toNat)) s1 s2 Ψ δ := ow_i (d := .int (i ^ j.toNat)) e1 e2 (fun _ => rfl) hc k
def rAddStr : R2 := fun x y H Q => ∃ i j, x = .str i ∧ y = .str j ∧ i.length + j.length ≤ sizeLine ∧ Q (.str (i ++ j)) H
theorem ow_addS {s1 s2 : SV} {i j : Str} (e1 : dv δ.ce s1 = some (.str i)) (e2 : dv δ.ce s2 = some (.str j)) (hc : i.length + j.length ≤ sizeLine) (k : Ψ (.im (.str (i ++ j))) δ) : OpW K rAddStr s1 s2 Ψ δ :=
  fun σ F I as H Q v w r h1 h2 c => ⟨i, j, r.dv e1 h1, r.dv e2 h2, hc, c (.im (.str (i ++ j))) δ _ I as H r (Le.refl I as) rfl k⟩
theorem RepL.append {I : Hp} : ∀ {xs ys : List D} {vs ws : List V}, RepL K I xs vs → RepL K I ys ws → RepL K I (xs ++ ys) (vs ++ ws)
  | [], _, vs, _, h1, h2 => by rw [show vs = [] from h1]; exact h2
  | x :: xs, _, _, _, ⟨v, r, e, h, hr⟩, h2 => by subst e; exact ⟨v, _, rfl, h, RepL.append hr h2⟩
theorem ow_catL {s1 s2 : SV} {xs ys : List D} (e1 : imS δ.ce s1 = some (.lst xs)) (e2 : imS δ.ce s2 = some (.lst ys)) (hc : xs.length + ys.length ≤ 1000000) (k : Ψ (.im (.lst (xs ++ ys))) δ) : OpW K rCat s1 s2 Ψ δ := by
  intro σ F I as H Q v w r h1 h2 c
  obtain ⟨a, vs, rfl, ha, ra⟩ := r.imS e1 h1
  obtain ⟨b, ws, rfl, hb, rb⟩ := r.imS e2 h2
  refine ⟨a, b, vs, ws, rfl, rfl, r.ih _ _ ha, r.ih _ _ hb, ?_, fun p hp => ?_⟩
  · rw [ra.length, rb.length]; exact Nat.le_trans hc (by decide)
  · obtain ⟨r', l⟩ := r.newF (o := .lst (vs ++ ws)) hp
    exact c (.im (.lst (xs ++ ys))) δ _ _ as _ r' l ⟨p, _, rfl, upd_same, RepL.mono l.i _ _ (ra.append rb)⟩ k
/-- == of scalars -/
def scEq : D → D → Option Bool
  | .int i, .int j => some (decide (i = j))
  | .bl i, .bl j => some (decide (i = j))
  | .str i, .str j => some (decide (i = j))
  | _, _ => none
theorem dec_iff {p q : Prop} [Decidable p] [Decidable q] (h : p ↔ q) : decide p = decide q := decide_eq_decide.mpr h
theorem os_eq {x y : D} {b : Bool} {H : Hp} {v w : V} (h : scEq x y = some b) (h1 : Rep K H x v) (h2 : Rep K H y w) : scal v w = true ∧ decide (v = w) = b := by
  unfold scEq at h
  split at h
  all_goals first
    | (cases h; done)
    | (cases h
       cases (show v = _ from h1)
       cases (show w = _ from h2)
       refine ⟨rfl, dec_iff ⟨fun z => by injection z, fun z => by rw [z]⟩⟩)
theorem ow_eq {s1 s2 : SV} {x y : D} {b : Bool} (e1 : dv δ.ce s1 = some x) (e2 : dv δ.ce s2 = some y) (h : scEq x y = some b) (k : Ψ (.im (.bl b)) δ) : OpW K rEq s1 s2 Ψ δ :=
  fun σ F I as H Q v w r h1 h2 c => by
    obtain ⟨q1, q2⟩ := os_eq h (r.dv e1 h1) (r.dv e2 h2)
    exact ⟨q1, by rw [q2]; exact c (.im (.bl b)) δ _ I as H r (Le.refl I as) rfl k⟩
theorem ow_ne {s1 s2 : SV} {x y : D} {b : Bool} (e1 : dv δ.ce s1 = some x) (e2 : dv δ.ce s2 = some y) (h : scEq x y = some b) (k : Ψ (.im (.bl (!b))) δ) : OpW K rNe s1 s2 Ψ δ :=
  fun σ F I as H Q v w r h1 h2 c => by
    obtain ⟨q1, q2⟩ := os_eq h (r.dv e1 h1) (r.dv e2 h2)
    exact ⟨q1, by rw [q2]; exact c (.im (.bl (!b))) δ _ I as H r (Le.refl I as) rfl k⟩
/-- is None -/
def isNon : D → Bool
  | .non => true
  | _ => false
theorem rep_non {x : D} {H : Hp} {v : V} (h : Rep K H x v) : decide (v = .non) = isNon x := by
  cases x with
  | non => cases (show v = _ from h); rfl
  | bl b => cases (show v = _ from h); rfl
  | int b => cases (show v = _ from h); rfl
  | str b => cases (show v = _ from h); rfl
  | ty b => cases (show v = _ from h); rfl
  | raw b => cases (show v = _ from h); rfl
  | lst b => obtain ⟨a, vs, rfl, _⟩ := h; rfl
  | tup b => obtain ⟨a, vs, rfl, _⟩ := h; rfl
  | dic b => obtain ⟨a, vs, rfl, _⟩ := h; rfl
  | ins C b => obtain ⟨a, dx, vs, rfl, _⟩ := h; rfl
  | scr b => obtain ⟨a, rfl, _⟩ := h; rfl
def rIsN : R2 := fun x y H Q => y = .non ∧ Q (.bl (decide (x = .non))) H
def rNotN : R2 := fun x y H Q => y = .non ∧ Q (.bl (!decide (x = .non))) H
theorem ow_isN {s1 s2 : SV} {x : D} (e1 : dv δ.ce s1 = some x) (e2 : dv δ.ce s2 = some .non) (k : Ψ (.im (.bl (isNon x))) δ) : OpW K rIsN s1 s2 Ψ δ :=
  fun σ F I as H Q v w r h1 h2 c => ⟨r.dv e2 h2, by rw [rep_non (r.dv e1 h1)]; exact c (.im (.bl _)) δ _ I as H r (Le.refl I as) rfl k⟩
theorem ow_notN {s1 s2 : SV} {x : D} (e1 : dv δ.ce s1 = some x) (e2 : dv δ.ce s2 = some .non) (k : Ψ (.im (.bl (!isNon x))) δ) : OpW K rNotN s1 s2 Ψ δ :=
  fun σ F I as H Q v w r h1 h2 c => ⟨r.dv e2 h2, by rw [rep_non (r.dv e1 h1)]; exact c (.im (.bl _)) δ _ I as H r (Le.refl I as) rfl k⟩
/-- s < t -/
def rLtStr : R2 := fun x y H Q => ∃ i j, x = .str i ∧ y = .str j ∧ Q (.bl (decide (i.cps.toList < j.cps.toList))) H
theorem ow_ltS {s1 s2 : SV} {i j : Str} (e1 : dv δ.ce s1 = some (.str i)) (e2 : dv δ.ce s2 = some (.str j)) (k : Ψ (.im (.bl (decide (i.cps.toList < j.cps.toList)))) δ) : OpW K rLtStr s1 s2 Ψ δ :=
  fun σ F I as H Q v w r h1 h2 c => ⟨i, j, r.dv e1 h1, r.dv e2 h2, c (.im (.bl _)) δ _ I as H r (Le.refl I as) rfl k⟩

/-! subscripts -/
def lookD (kvs : List (Key × D)) (k : Key) : Option D := (kvs.find? fun kv => decide (kv.1 = k)).map (·.2)
def lookC (kvs : List (Key × SV)) (k : Key) : Option SV := (kvs.find? fun kv => decide (kv.1 = k)).map (·.2)
theorem RepK.val {I : Hp} {k : Key} : ∀ {kds : List (Key × D)} {kvs : List (Key × V)} {d : D}, RepK K I kds kvs → lookD kds k = some d → ∃ v, valV kvs k = some v ∧ Rep K I d v
  | [], _, _, _, e => by simp [lookD] at e
  | (j, x) :: ds, _, d, ⟨v, r, e1, h, hr⟩, e => by
    subst e1
    by_cases hk : j = k
    · subst hk
      have : d = x := by simp [lookD] at e; exact e.symm
      subst this
      exact ⟨v, by simp [valV], h⟩
    · have e' : lookD ds k = some d := by simpa [lookD, List.find?_cons, hk] using e
      obtain ⟨w, q1, q2⟩ := RepK.val hr e'
      exact ⟨w, by rw [valV_neg (p := (j, v)) hk]; exact q1, q2⟩
theorem RVK.val {I : Hp} {as : List Addr} {k : Key} : ∀ {kds : List (Key × SV)} {kvs : List (Key × V)} {d : SV}, RVK K I as kds kvs → lookC kds k = some d → ∃ v, valV kvs k = some v ∧ RV K I as d v
  | [], _, _, _, e => by simp [lookC] at e
  | (j, x) :: ds, _, d, ⟨v, r, e1, h, hr⟩, e => by
    subst e1
    by_cases hk : j = k
    · subst hk
      have : d = x := by simp [lookC] at e; exact e.symm
      subst this
      exact ⟨v, by simp [valV], h⟩
    · have e' : lookC ds k = some d := by simpa [lookC, List.find?_cons, hk] using e
      obtain ⟨w, q1, q2⟩ := RVK.val hr e'
      exact ⟨w, by rw [valV_neg (p := (j, v)) hk]; exact q1, q2⟩
theorem RVL.length {I : Hp} {as : List Addr} : ∀ {d : List SV} {v : List V}, RVL K I as d v → v.length = d.length
  | [], _, h => by rw [show _ = [] from h]; rfl
  | d :: ds, _, ⟨v, r, h1, h2, h3⟩ => by rw [h1]; simp [RVL.length h3]
theorem RVL.get {I : Hp} {as : List Addr} : ∀ {d : List SV} {v : List V} {i : Nat} {x : SV}, RVL K I as d v → d[i]? = some x → ∃ u, v[i]? = some u ∧ RV K I as x u
  | [], _, i, x, h, e => by simp at e
  | d :: ds, _, 0, x, ⟨v, r, h1, h2, h3⟩, e => by
    simp at e; subst e; subst h1; exact ⟨v, rfl, h2⟩
  | d :: ds, _, i + 1, x, ⟨v, r, h1, h2, h3⟩, e => by
    subst h1
    obtain ⟨u, q1, q2⟩ := RVL.get (i := i) (x := x) h3 (by simpa using e)
    exact ⟨u, by simpa using q1, q2⟩
theorem atI_rep {I : Hp} {ds : List D} {vs : List V} {i : Int} {d : D} (h : RepL K I ds vs) (e : atI ds i = some d) : ∃ v, atI vs i = some v ∧ Rep K I d v := by
  unfold atI at e ⊢
  rw [h.length]
  cases q : ixN ds.length i with
  | none => rw [q] at e; cases e
  | some j =>
    rw [q] at e
    exact h.get e
theorem atI_rv {I : Hp} {as : List Addr} {ds : List SV} {vs : List V} {i : Int} {d : SV} (h : RVL K I as ds vs) (e : atI ds i = some d) : ∃ v, atI vs i = some v ∧ RV K I as d v := by
  unfold atI at e ⊢
  rw [h.length]
  cases q : ixN ds.length i with
  | none => rw [q] at e; cases e
  | some j =>
    rw [q] at e
    exact h.get e
def rIxD : R2 := fun x y H Q => ∃ a v, x = .ref a ∧ DGet H a y (some v) ∧ Q v H
def rIxA (K : PySem.W.Frag) : R2 := fun x y H Q => rIx K x y H Q ∨ rIxD x y H Q
theorem ow_ixL {s1 s2 : SV} {ds : List D} {i : Int} {d : D} (e1 : imS δ.ce s1 = some (.lst ds)) (e2 : dv δ.ce s2 = some (.int i)) (h : atI ds i = some d) (k : Ψ (.im d) δ) : OpW K (rIxA K) s1 s2 Ψ δ := by
  intro σ F I as H Q v w r h1 h2 c
  obtain ⟨a, vs, rfl, ha, ra⟩ := r.imS e1 h1
  obtain ⟨u, q1, q2⟩ := atI_rep ra h
  exact .inl (.inl ⟨a, vs, i, u, rfl, r.dv e2 h2, SqL.of (r.ih _ _ ha), q1, c (.im d) δ _ I as H r (Le.refl I as) q2 k⟩)
theorem ow_ixT {s1 s2 : SV} {ds : List D} {i : Int} {d : D} (e1 : imS δ.ce s1 = some (.tup ds)) (e2 : dv δ.ce s2 = some (.int i)) (h : atI ds i = some d) (k : Ψ (.im d) δ) : OpW K (rIxA K) s1 s2 Ψ δ := by
  intro σ F I as H Q v w r h1 h2 c
  obtain ⟨a, vs, rfl, ha, ra⟩ := r.imS e1 h1
  obtain ⟨u, q1, q2⟩ := atI_rep ra h
  exact .inl (.inr (.inl ⟨a, vs, i, u, rfl, r.dv e2 h2, same_t r.ih ha, q1, c (.im d) δ _ I as H r (Le.refl I as) q2 k⟩))
theorem ow_ixP {s1 s2 : SV} {ns : List Int} {i n : Int} (e1 : imS δ.ce s1 = some (.scr ns)) (e2 : dv δ.ce s2 = some (.int i)) (h : atI ns i = some n) (k : Ψ (.im (.int n)) δ) : OpW K (rIxA K) s1 s2 Ψ δ := by
  intro σ F I as H Q v w r h1 h2 c
  obtain ⟨a, rfl, ha⟩ := r.imS e1 h1
  have q1 : atI (ns.map V.int) i = some (.int n) := by
    unfold atI at h ⊢
    rw [List.length_map]
    cases q : ixN ns.length i with
    | none => rw [q] at h; cases h
    | some j => rw [q] at h; show (ns.map V.int)[j]? = _; rw [List.getElem?_map, show ns[j]? = some n from h]; rfl
  exact .inl (.inl ⟨a, _, i, _, rfl, r.dv e2 h2, r.ih.seq ha, q1, c (.im (.int n)) δ _ I as H r (Le.refl I as) rfl k⟩)
theorem ow_ixS {s1 s2 : SV} {z : Str} {i : Int} {ch : Nat} (e1 : dv δ.ce s1 = some (.str z)) (e2 : dv δ.ce s2 = some (.int i)) (hz : z.length ≤ sizeLine) (h : atI z.cps.toList i = some ch) (k : Ψ (.im (.str ⟨#[ch]⟩)) δ) : OpW K (rIxA K) s1 s2 Ψ δ := by
  intro σ F I as H Q v w r h1 h2 c
  exact .inl (.inr (.inr ⟨z, i, ch, r.dv e1 h1, r.dv e2 h2, hz, h, c (.im (.str _)) δ _ I as H r (Le.refl I as) rfl k⟩))
theorem ow_ixC {c : Nat} {s2 : SV} {xs : List SV} {i : Int} {s : SV} (e1 : δ.ce[c]? = some (.lst xs)) (e2 : dv δ.ce s2 = some (.int i)) (h : atI xs i = some s) (k : Ψ s δ) : OpW K (rIxA K) (.cl c) s2 Ψ δ := by
  intro σ F I as H Q v w r h1 h2 cc
  obtain ⟨a, ha, rfl⟩ := h1
  obtain ⟨_, vs, hh, rl⟩ := r.cells c _ a e1 ha
  obtain ⟨u, q1, q2⟩ := atI_rv rl h
  exact .inl (.inl ⟨a, vs, i, u, rfl, r.dv e2 h2, SqL.of hh, q1, cc s δ _ I as H r (Le.refl I as) q2 k⟩)
def keyOf : D → Option Key
  | .int i => some (.inl i)
  | .str x => some (.inr x)
  | _ => none
theorem rep_key {d : D} {kk : Key} {H : Hp} {v : V} (h : keyOf d = some kk) (r : Rep K H d v) : v = kV kk := by
  cases d with
  | int i => cases h; exact r
  | str x => cases h; exact r
  | _ => cases h
theorem ow_ixD {s1 s2 : SV} {kds : List (Key × D)} {y d : D} {kk : Key} (e1 : imS δ.ce s1 = some (.dic kds)) (e2 : dv δ.ce s2 = some y) (hk : keyOf y = some kk) (h : lookD kds kk = some d) (k : Ψ (.im d) δ) : OpW K (rIxA K) s1 s2 Ψ δ := by
  intro σ F I as H Q v w r h1 h2 c
  obtain ⟨a, kvs, rfl, ha, ra⟩ := r.imS e1 h1
  obtain ⟨u, q1, q2⟩ := ra.val h
  have ew : w = kV kk := rep_key hk (r.dv e2 h2)
  subst ew
  exact .inr ⟨a, u, rfl, .inl ⟨kvs, kk, same_rd r.ih ha, rfl, q1.symm⟩, c (.im d) δ _ I as H r (Le.refl I as) q2 k⟩
theorem ow_ixDC {c : Nat} {s2 : SV} {kds : List (Key × SV)} {y : D} {s : SV} {kk : Key} (e1 : δ.ce[c]? = some (.dic kds)) (e2 : dv δ.ce s2 = some y) (hk : keyOf y = some kk) (h : lookC kds kk = some s) (k : Ψ s δ) : OpW K (rIxA K) (.cl c) s2 Ψ δ := by
  intro σ F I as H Q v w r h1 h2 cc
  obtain ⟨a, ha, rfl⟩ := h1
  obtain ⟨_, kvs, hh, rl⟩ := r.cells c _ a e1 ha
  obtain ⟨u, q1, q2⟩ := rl.val h
  have ew : w = kV kk := rep_key hk (r.dv e2 h2)
  subst ew
  exact .inr ⟨a, u, rfl, .inl ⟨kvs, kk, .inl hh, rfl, q1.symm⟩, cc s δ _ I as H r (Le.refl I as) q2 k⟩

/-! arguments -/
variable {Ψa : List SV → Sta → Prop} {tr : TA}
theorem wa_nil (k : Ψa [] δ) : WA K E tNil Ψa Ξ δ := fun σ F I as H Q r c => c.v [] δ [] I as H r (Le.refl I as) rfl k
theorem wa_cons (h : WE K E te (fun s δ1 => WA K E tr (fun ss δ2 => Ψa (s :: ss) δ2) Ξ δ1) Ξ δ) : WA K E (tCons te tr) Ψa Ξ δ := by
  intro σ F I as H Q r c
  refine h σ F I as H _ r ⟨fun s1 δ1 v1 I1 as1 H1 r1 l1 rv1 k1 => ?_, c.x⟩
  refine k1 σ F I1 as1 H1 _ r1 ⟨fun ss δ2 vs I2 as2 H2 r2 l2 rv2 k2 => ?_, (c.later l1).x⟩
  exact c.v (s1 :: ss) δ2 (v1 :: vs) I2 as2 H2 r2 (l1.trans l2) ⟨v1, vs, rfl, rv1.mono l2, rv2⟩ k2
theorem we_lst (h : WA K E tr (fun ss δ1 => ss.length ≤ 1000 ∧ Ψ (.cl δ1.ce.length) { δ1 with ce := δ1.ce ++ [.lst ss] }) Ξ δ) : WE K E (tLst tr) Ψ Ξ δ := by
  intro σ F I as H Q r c
  refine h σ F I as H _ r ⟨fun ss δ1 vs I1 as1 H1 r1 l1 rv1 k1 => ?_, c.x⟩
  refine ⟨by rw [rv1.length]; exact Nat.le_trans k1.1 (by decide), fun p hp => ?_⟩
  have hn := none_back r1.ih hp
  obtain ⟨r2, l2⟩ := r1.newC (o := .lst vs) (co := .lst ss) hp ⟨hn, vs, upd_same, rv1⟩ rfl
  refine c.v (.cl δ1.ce.length) _ _ I1 (as1 ++ [p]) _ r2 (l1.trans l2) ⟨p, ?_, rfl⟩ k1.2
  rw [← r1.clen]; simp
theorem we_lstF (h : WA K E tr (fun ss δ1 => ∃ ds, ss.length ≤ 1000 ∧ imL δ1.ce ss = some ds ∧ Ψ (.im (.lst ds)) δ1) Ξ δ) : WE K E (tLst tr) Ψ Ξ δ := by
  intro σ F I as H Q r c
  refine h σ F I as H _ r ⟨fun ss δ1 vs I1 as1 H1 r1 l1 rv1 k1 => ?_, c.x⟩
  obtain ⟨ds, k0, k1, k2⟩ := k1
  refine ⟨by rw [rv1.length]; exact Nat.le_trans k0 (by decide), fun p hp => ?_⟩
  obtain ⟨r2, l2⟩ := r1.newF (o := .lst vs) hp
  exact c.v (.im (.lst ds)) _ _ _ as1 _ r2 (l1.trans l2) ⟨p, vs, rfl, upd_same, RepL.mono l2.i _ _ (r1.imL k1 rv1)⟩ k2
theorem we_tup (h : WA K E tr (fun ss δ1 => ∃ ds, ss.length ≤ 1000 ∧ imL δ1.ce ss = some ds ∧ Ψ (.im (.tup ds)) δ1) Ξ δ) : WE K E (tTup tr) Ψ Ξ δ := by
  intro σ F I as H Q r c
  refine h σ F I as H _ r ⟨fun ss δ1 vs I1 as1 H1 r1 l1 rv1 k1 => ?_, c.x⟩
  obtain ⟨ds, k0, k1, k2⟩ := k1
  refine ⟨by rw [rv1.length]; exact Nat.le_trans k0 (by decide), fun p hp => ?_⟩
  obtain ⟨r2, l2⟩ := r1.newF (o := .tup vs) hp
  exact c.v (.im (.tup ds)) _ _ _ as1 _ r2 (l1.trans l2) ⟨p, vs, rfl, SqT.of upd_same, RepL.mono l2.i _ _ (r1.imL k1 rv1)⟩ k2

/-! built-in calls -/
def CbW (K : PySem.W.Frag) (r : List V → Hp → VK → Prop) (ss : List SV) (Ψ : SV → Sta → Prop) (δ : Sta) : Prop :=
  ∀ (σ : L2.St) (F : Frm) (I : Hp) (as : List Addr) (H : Hp) (Q : VK) (vs : List V), R K δ σ F I as H → RVL K I as ss vs →
    (∀ s δ' v I' as' H', R K δ' σ F I' as' H' → Le I as I' as' → RV K I' as' s v → Ψ s δ' → Q v H') → r vs H Q
theorem we_cb {r : List V → Hp → VK → Prop} (h : WA K E tr (fun ss δ1 => CbW K r ss Ψ δ1) Ξ δ) : WE K E (tCB r tr) Ψ Ξ δ := by
  intro σ F I as H Q r c
  refine h σ F I as H _ r ⟨fun ss δ1 vs I1 as1 H1 r1 l1 rv1 k1 => ?_, c.x⟩
  exact k1 σ F I1 as1 H1 Q vs r1 rv1 (c.later l1).v
theorem cb_l {r r' : List V → Hp → VK → Prop} {ss : List SV} (h : CbW K r ss Ψ δ) : CbW K (fun xs H Q => r xs H Q ∨ r' xs H Q) ss Ψ δ := fun σ F I as H Q v r h1 c => .inl (h σ F I as H Q v r h1 c)
theorem cb_r {r r' : List V → Hp → VK → Prop} {ss : List SV} (h : CbW K r' ss Ψ δ) : CbW K (fun xs H Q => r xs H Q ∨ r' xs H Q) ss Ψ δ := fun σ F I as H Q v r h1 c => .inr (h σ F I as H Q v r h1 c)
/-- one scalar in, one scalar out -/
theorem cb_1 {r : List V → Hp → VK → Prop} {s : SV} {x : D} {v u : V} {d : D} (e : dv δ.ce s = some x) (hx : ∀ H w, Rep K H x w → w = v) (hr : ∀ H (Q : VK), Q u H → r [v] H Q) (hd : ∀ I, Rep K I d u) (k : Ψ (.im d) δ) : CbW K r [s] Ψ δ := by
  intro σ F I as H Q vs r h1 c
  obtain ⟨w, t, rfl, h, rfl⟩ := h1
  have ew : w = v := hx H w (r.dv e h)
  subst ew
  exact hr H Q (c (.im d) δ u I as H r (Le.refl I as) (hd I) k)
theorem cb_2 {r : List V → Hp → VK → Prop} {s s' : SV} {x x' : D} {v v' u : V} {d : D} (e : dv δ.ce s = some x) (e' : dv δ.ce s' = some x') (hx : ∀ H w, Rep K H x w → w = v) (hx' : ∀ H w, Rep K H x' w → w = v') (hr : ∀ H (Q : VK), Q u H → r [v, v'] H Q) (hd : ∀ I, Rep K I d u) (k : Ψ (.im d) δ) : CbW K r [s, s'] Ψ δ := by
  intro σ F I as H Q vs r h1 c
  obtain ⟨w, t, rfl, h, w', t', rfl, h', rfl⟩ := h1
  have ew : w = v := hx H w (r.dv e h)
  have ew' : w' = v' := hx' H w' (r.dv e' h')
  subst ew ew'
  exact hr H Q (c (.im d) δ u I as H r (Le.refl I as) (hd I) k)
def rAbs : List V → Hp → VK → Prop := fun xs H Q => ∃ i, xs = [.int i] ∧ Q (.int (if i < 0 then -i else i)) H
def rInt1 : List V → Hp → VK → Prop := fun xs H Q => (∃ i, xs = [.int i] ∧ Q (.int i) H) ∨ ∃ k, xs = [.bl k] ∧ Q (.int (if k then 1 else 0)) H
def rMax2 : List V → Hp → VK → Prop := fun xs H Q => ∃ i j, xs = [.int i, .int j] ∧ Q (.int (if j > i then j else i)) H
def rMin2 : List V → Hp → VK → Prop := fun xs H Q => ∃ i j, xs = [.int i, .int j] ∧ Q (.int (if j < i then j else i)) H
def rReprI : List V → Hp → VK → Prop := fun xs H Q => ∃ i, xs = [.int i] ∧ i.natAbs.log2 < 1920 ∧ Q (.str (toString i)) H
def rLenA (K : PySem.W.Frag) : List V → Hp → VK → Prop := fun xs H Q => ∃ x n, xs = [x] ∧ LenV K x H n ∧ Q (.int n) H
theorem cb_abs {s : SV} {i : Int} (e : dv δ.ce s = some (.int i)) (k : Ψ (.im (.int (if i < 0 then -i else i))) δ) : CbW K rAbs [s] Ψ δ := cb_1 (v := .int i) (u := .int (if i < 0 then -i else i)) (d := .int (if i < 0 then -i else i)) e (fun _ _ h => h) (fun _ _ q => ⟨i, rfl, q⟩) (fun _ => rfl) k
theorem cb_int {s : SV} {i : Int} (e : dv δ.ce s = some (.int i)) (k : Ψ (.im (.int i)) δ) : CbW K rInt1 [s] Ψ δ := cb_1 (v := .int i) (u := .int i) (d := .int i) e (fun _ _ h => h) (fun _ _ q => .inl ⟨i, rfl, q⟩) (fun _ => rfl) k
theorem cb_intB {s : SV} {b : Bool} (e : dv δ.ce s = some (.bl b)) (k : Ψ (.im (.int (if b then 1 else 0))) δ) : CbW K rInt1 [s] Ψ δ := cb_1 (v := .bl b) (u := .int (if b then 1 else 0)) (d := .int (if b then 1 else 0)) e (fun _ _ h => h) (fun _ _ q => .inr ⟨b, rfl, q⟩) (fun _ => rfl) k
theorem cb_max {s s' : SV} {i j : Int} (e : dv δ.ce s = some (.int i)) (e' : dv δ.ce s' = some (.int j)) (k : Ψ (.im (.int (if j > i then j else i))) δ) : CbW K rMax2 [s, s'] Ψ δ := cb_2 (v := .int i) (v' := .int j) (u := .int (if j > i then j else i)) (d := .int (if j > i then j else i)) e e' (fun _ _ h => h) (fun _ _ h => h) (fun _ _ q => ⟨i, j, rfl, q⟩) (fun _ => rfl) k
theorem cb_min {s s' : SV} {i j : Int} (e : dv δ.ce s = some (.int i)) (e' : dv δ.ce s' = some (.int j)) (k : Ψ (.im (.int (if j < i then j else i))) δ) : CbW K rMin2 [s, s'] Ψ δ := cb_2 (v := .int i) (v' := .int j) (u := .int (if j < i then j else i)) (d := .int (if j < i then j else i)) e e' (fun _ _ h => h) (fun _ _ h => h) (fun _ _ q => ⟨i, j, rfl, q⟩) (fun _ => rfl) k
theorem cb_reprI {s : SV} {i : Int} (e : dv δ.ce s = some (.int i)) (hz : i.natAbs.log2 < 1920) (k : Ψ (.im (.str (toString i))) δ) : CbW K rReprI [s] Ψ δ := cb_1 (v := .int i) (u := .str (toString i)) (d := .str (toString i)) e (fun _ _ h => h) (fun _ _ q => ⟨i, rfl, hz, q⟩) (fun _ => rfl) k
theorem cb_len {s : SV} {x : D} {n : Nat} (e : dv δ.ce s = some x) (hx : ∀ H w, Rep K H x w → LenV K w H n) (k : Ψ (.im (.int n)) δ) : CbW K (rLenA K) [s] Ψ δ := by
  intro σ F I as H Q vs r h1 c
  obtain ⟨w, t, rfl, h, rfl⟩ := h1
  exact ⟨w, n, rfl, hx H w (r.dv e h), c (.im (.int n)) δ _ I as H r (Le.refl I as) rfl k⟩
theorem len_lst {ds : List D} : ∀ (H : Hp) (w : V), Rep K H (.lst ds) w → LenV K w H ds.length := fun H w h => by
  obtain ⟨a, vs, rfl, ha, ra⟩ := h
  exact .inl ⟨vs, SqL.of ha, ra.length.symm⟩
theorem len_scr {ns : List Int} : ∀ (H : Hp) (w : V), Rep K H (.scr ns) w → LenV K w H ns.length := fun H w h => by
  obtain ⟨a, rfl, ha⟩ := h
  exact .inl ⟨_, ha, by simp⟩
theorem len_tup {ds : List D} : ∀ (H : Hp) (w : V), Rep K H (.tup ds) w → LenV K w H ds.length := fun H w h => by
  obtain ⟨a, vs, rfl, ha, ra⟩ := h
  exact .inr ⟨vs, ha, ra.length.symm⟩
theorem len_str {z : Str} (hz : z.length ≤ sizeLine) : ∀ (H : Hp) (w : V), Rep K H (.str z) w → LenV K w H z.length := fun H w h => by
  cases (show w = _ from h)
  exact ⟨hz, rfl⟩
end
end Cr
namespace Cr
open PySem L2

section
variable {K : PySem.W.Frag} {E : XK} {Ξ : Xn → Sta → Prop} {δ : Sta} {ta tb te tx : TE} {t u : TT} {Ψ : SV → Sta → Prop} {Ψt : Bool → Sta → Prop}
/-! ## tests -/
theorem wt_test (h : WE K E te (fun s δ1 => ∃ b, dv δ1.ce s = some (.bl b) ∧ Ψt b δ1) Ξ δ) : WT K E (tTest te) Ψt Ξ δ := fun σ F I as H Q r c =>
  h σ F I as H _ r ⟨fun s δ1 v I1 as1 H1 r1 l1 rv k => by
    obtain ⟨b, e, k⟩ := k
    exact ⟨b, r1.dv e rv, c.v b δ1 I1 as1 H1 r1 l1 k⟩, c.x⟩
theorem wt_B (h : WE K E te (fun s δ1 => ∃ b, dv δ1.ce s = some (.bl b) ∧ Ψt b δ1) Ξ δ) : WT K E (tB te) Ψt Ξ δ := fun σ F I as H Q r c =>
  h σ F I as H _ r ⟨fun s δ1 v I1 as1 H1 r1 l1 rv k => by
    obtain ⟨b, e, k⟩ := k
    exact ⟨b, r1.dv e rv, c.v b δ1 I1 as1 H1 r1 l1 k⟩, c.x⟩
theorem wt_and (h : WT K E t (fun b δ1 => (b = true → WT K E u Ψt Ξ δ1) ∧ (b = false → Ψt false δ1)) Ξ δ) : WT K E (tAnd t u) Ψt Ξ δ := fun σ F I as H Q r c =>
  h σ F I as H _ r ⟨fun b δ1 I1 as1 H1 r1 l1 k => by
    cases b with
    | true => exact k.1 rfl σ F I1 as1 H1 Q r1 (c.later l1)
    | false => exact c.v false δ1 I1 as1 H1 r1 l1 (k.2 rfl), c.x⟩
theorem wt_or (h : WT K E t (fun b δ1 => (b = false → WT K E u Ψt Ξ δ1) ∧ (b = true → Ψt true δ1)) Ξ δ) : WT K E (tOr t u) Ψt Ξ δ := fun σ F I as H Q r c =>
  h σ F I as H _ r ⟨fun b δ1 I1 as1 H1 r1 l1 k => by
    cases b with
    | false => exact k.1 rfl σ F I1 as1 H1 Q r1 (c.later l1)
    | true => exact c.v true δ1 I1 as1 H1 r1 l1 (k.2 rfl), c.x⟩
theorem wt_not (h : WT K E t (fun b δ1 => Ψt (!b) δ1) Ξ δ) : WT K E (tNot t) Ψt Ξ δ := fun σ F I as H Q r c =>
  h σ F I as H _ r ⟨fun b δ1 I1 as1 H1 r1 l1 k => c.v (!b) δ1 I1 as1 H1 r1 l1 k, c.x⟩
theorem we_andV (h : WE K E ta (fun s δ1 => ∃ b, dv δ1.ce s = some (.bl b) ∧ (b = true → WE K E tb Ψ Ξ δ1) ∧ (b = false → Ψ (.im (.bl false)) δ1)) Ξ δ) : WE K E (tAndV ta tb) Ψ Ξ δ := fun σ F I as H Q r c =>
  h σ F I as H _ r ⟨fun s δ1 v I1 as1 H1 r1 l1 rv k => by
    obtain ⟨b, e, k1, k2⟩ := k
    refine ⟨b, r1.dv e rv, ?_⟩
    cases b with
    | true => exact k1 rfl σ F I1 as1 H1 Q r1 (c.later l1)
    | false => exact c.v (.im (.bl false)) δ1 _ I1 as1 H1 r1 l1 rfl (k2 rfl), c.x⟩
theorem we_orV (h : WE K E ta (fun s δ1 => ∃ b, dv δ1.ce s = some (.bl b) ∧ (b = false → WE K E tb Ψ Ξ δ1) ∧ (b = true → Ψ (.im (.bl true)) δ1)) Ξ δ) : WE K E (tOrV ta tb) Ψ Ξ δ := fun σ F I as H Q r c =>
  h σ F I as H _ r ⟨fun s δ1 v I1 as1 H1 r1 l1 rv k => by
    obtain ⟨b, e, k1, k2⟩ := k
    refine ⟨b, r1.dv e rv, ?_⟩
    cases b with
    | false => exact k1 rfl σ F I1 as1 H1 Q r1 (c.later l1)
    | true => exact c.v (.im (.bl true)) δ1 _ I1 as1 H1 r1 l1 rfl (k2 rfl), c.x⟩
theorem we_notV (h : WE K E ta (fun s δ1 => ∃ b, dv δ1.ce s = some (.bl b) ∧ Ψ (.im (.bl (!b))) δ1) Ξ δ) : WE K E (tNotV ta) Ψ Ξ δ := fun σ F I as H Q r c =>
  h σ F I as H _ r ⟨fun s δ1 v I1 as1 H1 r1 l1 rv k => by
    obtain ⟨b, e, k⟩ := k
    exact ⟨b, r1.dv e rv, c.v (.im (.bl (!b))) δ1 _ I1 as1 H1 r1 l1 rfl k⟩, c.x⟩
theorem we_if (h : WT K E t (fun b δ1 => (b = true → WE K E ta Ψ Ξ δ1) ∧ (b = false → WE K E tb Ψ Ξ δ1)) Ξ δ) : WE K E (tIf t ta tb) Ψ Ξ δ := fun σ F I as H Q r c =>
  h σ F I as H _ r ⟨fun b δ1 I1 as1 H1 r1 l1 k => by
    cases b with
    | true => exact k.1 rfl σ F I1 as1 H1 Q r1 (c.later l1)
    | false => exact k.2 rfl σ F I1 as1 H1 Q r1 (c.later l1), c.x⟩
theorem we_un {rr : V → Hp → VK → Prop} {d' : D → D → Prop} (hr : ∀ H x v d (Q : VK), Rep K H x v → d' x d → (∀ w, (∀ I, Rep K I d w) → Q w H) → rr v H Q)
    (h : WE K E ta (fun s δ1 => ∃ x d, dv δ1.ce s = some x ∧ d' x d ∧ Ψ (.im d) δ1) Ξ δ) : WE K E (tUn rr ta) Ψ Ξ δ := fun σ F I as H Q r c =>
  h σ F I as H _ r ⟨fun s δ1 v I1 as1 H1 r1 l1 rv k => by
    obtain ⟨x, d, e, hd, k⟩ := k
    exact hr H1 x v d Q (r1.dv e rv) hd fun w hw => c.v (.im d) δ1 w I1 as1 H1 r1 l1 (hw I1) k, c.x⟩

/-! ## targets -/
def WG (K : PySem.W.Frag) (g : TG) (s : SV) (Φ : Sta → Prop) (δ : Sta) : Prop :=
  ∀ (σ : L2.St) (F : Frm) (I : Hp) (as : List Addr) (H : Hp) (v : V) (Q : L2.St → Hp → Prop), R K δ σ F I as H → RV K I as s v →
    (∀ δ' σ' I' as' H', R K δ' σ' F I' as' H' → Le I as I' as' → Φ δ' → Q σ' H') → g v σ H Q
def WGs (K : PySem.W.Frag) (g : TGs) (s : List D) (Φ : Sta → Prop) (δ : Sta) : Prop :=
  ∀ (σ : L2.St) (F : Frm) (I : Hp) (as : List Addr) (H : Hp) (v : List V) (Q : L2.St → Hp → Prop), R K δ σ F I as H → RepL K I s v →
    (∀ δ' σ' I' as' H', R K δ' σ' F I' as' H' → Le I as I' as' → Φ δ' → Q σ' H') → g v σ H Q
variable {Φ' : Sta → Prop}
theorem wg_name {i : Nat} {s : SV} (k : Φ' { δ with sl := δ.sl.set i s }) : WG K (gName i) s Φ' δ := fun σ F I as H v Q r rv c => c _ _ I as H (r.store rv) (Le.refl I as) k
theorem wgs_nil (k : Φ' δ) : WGs K gNil [] Φ' δ := fun σ F I as H v Q r rv c => ⟨rv, c _ _ I as H r (Le.refl I as) k⟩
theorem wgs_cons {g : TG} {gs : TGs} {d : D} {ds : List D} (h : WG K g (.im d) (fun δ1 => WGs K gs ds Φ' δ1) δ) : WGs K (gCons g gs) (d :: ds) Φ' δ := fun σ F I as H v Q r rv c => by
  obtain ⟨w, vs, e, h1, h2⟩ := rv
  refine ⟨w, vs, e, h σ F I as H w _ r h1 fun δ1 σ1 I1 as1 H1 r1 l1 k1 => ?_⟩
  exact k1 σ1 F I1 as1 H1 vs Q r1 (RepL.mono l1.i _ _ h2) fun δ2 σ2 I2 as2 H2 r2 l2 k2 => c δ2 σ2 I2 as2 H2 r2 (l1.trans l2) k2
theorem wg_tup {n : Nat} {gs : TGs} {s : SV} {ds : List D} (e : imS δ.ce s = some (.tup ds)) (hn : ds.length = n) (h : WGs K gs ds Φ' δ) : WG K (gTup K n gs) s Φ' δ := fun σ F I as H v Q r rv c => by
  obtain ⟨a, vs, rfl, ha, ra⟩ := r.imS e rv
  exact ⟨a, vs, rfl, same_t r.ih ha, ra.length.trans hn, h σ F I as H vs Q r ra c⟩

/-! ## statements -/
variable {Φ : Post} {ts us : TS}
theorem ws_imp {Φ2 : Post} (h : WS K E ts Φ2 δ) (k1 : ∀ δ, Φ2.nx δ → Φ.nx δ) (k2 : ∀ s δ, Φ2.rt s δ → Φ.rt s δ) (k3 : ∀ δ, Φ2.bk δ → Φ.bk δ) (k4 : ∀ δ, Φ2.ct δ → Φ.ct δ) (k5 : ∀ s δ, Φ2.ex s δ → Φ.ex s δ) : WS K E ts Φ δ := fun σ F I as H D r c =>
  h σ F I as H D r ⟨fun δ' σ' I' as' H' r' l q => c.nx δ' σ' I' as' H' r' l (k1 _ q), fun s δ' σ' v I' as' H' r' l rv q => c.rt s δ' σ' v I' as' H' r' l rv (k2 _ _ q), fun δ' σ' I' as' H' r' l q => c.bk δ' σ' I' as' H' r' l (k3 _ q), fun δ' σ' I' as' H' r' l q => c.ct δ' σ' I' as' H' r' l (k4 _ q), fun x δ' σ' d I' as' H' r' l z q => c.x x δ' σ' d I' as' H' r' l z (k5 _ _ q)⟩
theorem ws_next (k : Φ.nx δ) : WS K E tNext Φ δ := fun σ F I as H D r c => c.nx δ σ I as H r (Le.refl I as) k
theorem ws_seq (h : WS K E ts { Φ with nx := fun δ1 => WS K E us Φ δ1 } δ) : WS K E (tSeq ts us) Φ δ := fun σ F I as H D r c =>
  h σ F I as H _ r ⟨fun δ1 σ1 I1 as1 H1 r1 l1 k1 => k1 σ1 F I1 as1 H1 D r1 (c.later l1), c.rt, c.bk, c.ct, c.x⟩
theorem ws_asg {g : TG} (h : WE K E te (fun s δ1 => WG K g s Φ.nx δ1) Φ.ex δ) : WS K E (tAsg te g) Φ δ := fun σ F I as H D r c =>
  h σ F I as H _ r ⟨fun s δ1 v I1 as1 H1 r1 l1 rv k => k σ F I1 as1 H1 v _ r1 rv fun δ2 σ2 I2 as2 H2 r2 l2 k2 => c.nx δ2 σ2 I2 as2 H2 r2 (l1.trans l2) k2, fun x δ1 d I1 as1 H1 r1 l1 z k => c.x x δ1 σ d I1 as1 H1 r1 l1 z k⟩
theorem ws_set {i : Nat} (h : WE K E te (fun s δ1 => Φ.nx { δ1 with sl := δ1.sl.set i s }) Φ.ex δ) : WS K E (tAsg te (gName i)) Φ δ := ws_asg (we_imp h fun s δ1 k => wg_name k)
theorem ws_ret (h : WE K E te (fun s δ1 => Φ.rt s δ1) Φ.ex δ) : WS K E (tRet te) Φ δ := fun σ F I as H D r c =>
  h σ F I as H _ r ⟨fun s δ1 v I1 as1 H1 r1 l1 rv k => c.rt s δ1 σ v I1 as1 H1 r1 l1 rv k, fun x δ1 d I1 as1 H1 r1 l1 z k => c.x x δ1 σ d I1 as1 H1 r1 l1 z k⟩
theorem ws_retN (k : Φ.rt (.im .non) δ) : WS K E tRetN Φ δ := fun σ F I as H D r c => c.rt (.im .non) δ σ .non I as H r (Le.refl I as) rfl k
theorem ws_drop (h : WE K E te (fun s δ1 => Φ.nx δ1) Φ.ex δ) : WS K E (tDrop te) Φ δ := fun σ F I as H D r c =>
  h σ F I as H _ r ⟨fun s δ1 v I1 as1 H1 r1 l1 rv k => c.nx δ1 σ I1 as1 H1 r1 l1 k, fun x δ1 d I1 as1 H1 r1 l1 z k => c.x x δ1 σ d I1 as1 H1 r1 l1 z k⟩
theorem ws_if (h : WT K E t (fun b δ1 => (b = true → WS K E ts Φ δ1) ∧ (b = false → WS K E us Φ δ1)) Φ.ex δ) : WS K E (tIfS t ts us) Φ δ := fun σ F I as H D r c =>
  h σ F I as H _ r ⟨fun b δ1 I1 as1 H1 r1 l1 k => by
    cases b with
    | true => exact k.1 rfl σ F I1 as1 H1 D r1 (c.later l1)
    | false => exact k.2 rfl σ F I1 as1 H1 D r1 (c.later l1), fun x δ1 d I1 as1 H1 r1 l1 z k => c.x x δ1 σ d I1 as1 H1 r1 l1 z k⟩
theorem ws_break (k : Φ.bk δ) : WS K E tBreak Φ δ := fun σ F I as H D r c => c.bk δ σ I as H r (Le.refl I as) k
theorem ws_cont (k : Φ.ct δ) : WS K E tCont Φ δ := fun σ F I as H D r c => c.ct δ σ I as H r (Le.refl I as) k
theorem ws_fz {c : Nat} {d : D} (e : dv δ.ce (.cl c) = some d) (h : WS K E ts Φ { δ with ce := δ.ce.set c (.fz d) }) : WS K E ts Φ δ := fun σ F I as H D r cc => by
  obtain ⟨I', r', l⟩ := r.freeze e
  exact h σ F I' as H D r' (cc.later l)
theorem ws_par {i j : Nat} {tr : TA} (h : WA K E tr (fun ss δ1 => ∃ s1 s2, ss = [s1, s2] ∧ Φ.nx { δ1 with sl := (δ1.sl.set i s1).set j s2 }) Φ.ex δ) : WS K E (tPar i j tr) Φ δ := fun σ F I as H D r c =>
  h σ F I as H _ r ⟨fun ss δ1 vs I1 as1 H1 r1 l1 rv k => by
    obtain ⟨s1, s2, rfl, k⟩ := k
    obtain ⟨v, _, rfl, h1, w, _, rfl, h2, rfl⟩ := rv
    exact ⟨v, w, rfl, c.nx _ _ I1 as1 H1 ((r1.store h1).store h2) l1 k⟩, fun x δ1 d I1 as1 H1 r1 l1 z k => c.x x δ1 σ d I1 as1 H1 r1 l1 z k⟩

/-! ## what is walked -/
structure Walks (K : PySem.W.Frag) (J : It) (I : Hp) (ds : List D) : Prop where
  go : ∀ i H, Same I H → i < ds.length → J.go i H
  stop : ∀ H, Same I H → J.stop ds.length H
  yld : ∀ i d x H H' δ σ F I2 as, ds[i]? = some d → Same I I2 → R K δ σ F I2 as H → J.yld i H x H' → ∃ I3, R K δ σ F I3 as H' ∧ Le I2 as I3 as ∧ Rep K I3 d x
structure ConI (K : PySem.W.Frag) (σ : L2.St) (F : Frm) (I : Hp) (as : List Addr) (E : XK) (Ψ : List D → Sta → Prop) (Ξ : Xn → Sta → Prop) (Q : It → Hp → Prop) : Prop where
  v : ∀ ds δ' J I' as' H', R K δ' σ F I' as' H' → Le I as I' as' → Walks K J I' ds → Ψ ds δ' → Q J H'
  x : ∀ (x : Xn) δ' d I' as' H', R K δ' σ F I' as' H' → Le I as I' as' → (∃ fs, H' d = some (.xd fs) ∧ RVF K I' as' x.fs fs) → Ξ x δ' → E x.cls (some d) H'
def WI (K : PySem.W.Frag) (E : XK) (wi : TI) (Ψ : List D → Sta → Prop) (Ξ : Xn → Sta → Prop) (δ : Sta) : Prop :=
  ∀ (σ : L2.St) (F : Frm) (I : Hp) (as : List Addr) (H : Hp) (Q : It → Hp → Prop), R K δ σ F I as H → ConI K σ F I as E Ψ Ξ Q → wi σ H Q
variable {Ψi : List D → Sta → Prop}
theorem walks_list {I : Hp} {a : Addr} {ds : List D} {vs : List V} (ha : SqL K I a vs) (ra : RepL K I ds vs) : Walks K (Itl K a) I ds where
  go := fun i H e hi => ⟨vs, vs[i]'(by rw [ra.length]; exact hi), e.seq ha, by simp [ra.length, hi]⟩
  stop := fun H e => ⟨vs, e.seq ha, by rw [ra.length]; exact Nat.le_refl _⟩
  yld := fun i d x H H' δ σ F I2 as hd e r y => by
    obtain ⟨rfl, y⟩ := y
    obtain ⟨u, h1, h2⟩ := ra.get hd
    have := y vs ((e.trans r.ih).seq ha)
    rw [h1] at this; cases this
    exact ⟨I2, r, Le.refl I2 as, Rep.mono e _ _ h2⟩
theorem walks_tup {I : Hp} {a : Addr} {ds : List D} {vs : List V} (ha : SqT K I a vs) (ra : RepL K I ds vs) : Walks K (Itt K a) I ds where
  go := fun i H e hi => ⟨vs, vs[i]'(by rw [ra.length]; exact hi), same_t e ha, by simp [ra.length, hi]⟩
  stop := fun H e => ⟨vs, same_t e ha, by rw [ra.length]; exact Nat.le_refl _⟩
  yld := fun i d x H H' δ σ F I2 as hd e r y => by
    obtain ⟨rfl, y⟩ := y
    obtain ⟨u, h1, h2⟩ := ra.get hd
    have := y vs (same_t (e.trans r.ih) ha)
    rw [h1] at this; cases this
    exact ⟨I2, r, Le.refl I2 as, Rep.mono e _ _ h2⟩
def rgD (lo : Int) (n : Nat) : List D := (List.range n).map fun i => D.int (lo + (i : Nat))
theorem rgD_get {lo : Int} {n i : Nat} {d : D} (h : (rgD lo n)[i]? = some d) : i < n ∧ d = .int (lo + (i : Nat)) := by
  unfold rgD at h
  rw [List.getElem?_map] at h
  cases q : (List.range n)[i]? with
  | none => rw [q] at h; cases h
  | some j =>
    rw [q] at h
    have hi : i < n := by simpa using (List.getElem?_eq_some_iff.mp q).1
    have : j = i := by rw [List.getElem?_range hi] at q; exact (Option.some.inj q).symm
    subst this
    exact ⟨hi, (Option.some.inj h).symm⟩
theorem rgD_len (lo : Int) (n : Nat) : (rgD lo n).length = n := by simp [rgD]
theorem walks_rng {I : Hp} (lo : Int) (n : Nat) : Walks K (Itr lo n) I (rgD lo n) where
  go := fun i H e hi => by rw [rgD_len] at hi; exact hi
  stop := fun H e => by rw [rgD_len]; exact Nat.le_refl _
  yld := fun i d x H H' δ σ F I2 as hd e r y => by
    obtain ⟨rfl, rfl⟩ := y
    obtain ⟨_, rfl⟩ := rgD_get hd
    exact ⟨I2, r, Le.refl I2 as, rfl⟩
theorem wi_list (h : WE K E te (fun s δ1 => ∃ ds, imS δ1.ce s = some (.lst ds) ∧ Ψi ds δ1) Ξ δ) : WI K E (iList K te) Ψi Ξ δ := fun σ F I as H Q r c =>
  h σ F I as H _ r ⟨fun s δ1 v I1 as1 H1 r1 l1 rv k => by
    obtain ⟨ds, e, k⟩ := k
    obtain ⟨a, vs, rfl, ha, ra⟩ := r1.imS e rv
    exact ⟨a, rfl, ⟨vs, SqL.of (r1.ih _ _ ha)⟩, c.v ds δ1 _ I1 as1 H1 r1 l1 (walks_list (SqL.of ha) ra) k⟩, c.x⟩
theorem repL_ints {I : Hp} : ∀ ns : List Int, RepL K I (ns.map D.int) (ns.map V.int)
  | [] => rfl
  | n :: ns => ⟨_, _, rfl, rfl, repL_ints ns⟩
theorem wi_scr (h : WE K E te (fun s δ1 => ∃ ns, imS δ1.ce s = some (.scr ns) ∧ Ψi (ns.map D.int) δ1) Ξ δ) : WI K E (iList K te) Ψi Ξ δ := fun σ F I as H Q r c =>
  h σ F I as H _ r ⟨fun s δ1 v I1 as1 H1 r1 l1 rv k => by
    obtain ⟨ds, e, k⟩ := k
    obtain ⟨a, rfl, ha⟩ := r1.imS e rv
    exact ⟨a, rfl, ⟨_, r1.ih.seq ha⟩, c.v _ δ1 _ I1 as1 H1 r1 l1 (walks_list ha (repL_ints ds)) k⟩, c.x⟩
theorem wi_tup (h : WE K E te (fun s δ1 => ∃ ds, imS δ1.ce s = some (.tup ds) ∧ Ψi ds δ1) Ξ δ) : WI K E (iTup K te) Ψi Ξ δ := fun σ F I as H Q r c =>
  h σ F I as H _ r ⟨fun s δ1 v I1 as1 H1 r1 l1 rv k => by
    obtain ⟨ds, e, k⟩ := k
    obtain ⟨a, vs, rfl, ha, ra⟩ := r1.imS e rv
    exact ⟨a, rfl, ⟨vs, same_t r1.ih ha⟩, c.v ds δ1 _ I1 as1 H1 r1 l1 (walks_tup ha ra) k⟩, c.x⟩
theorem wi_rng1 {tr : TA} (h : WA K E tr (fun ss δ1 => ∃ s n, ss = [s] ∧ dv δ1.ce s = some (.int n) ∧ -(2 ^ 62) ≤ n ∧ n < 2 ^ 62 ∧ Ψi (rgD 0 n.toNat) δ1) Ξ δ) : WI K E (iRng1 tr) Ψi Ξ δ := fun σ F I as H Q r c =>
  h σ F I as H _ r ⟨fun ss δ1 vs I1 as1 H1 r1 l1 rv k => by
    obtain ⟨s, n, rfl, e, h1, h2, k⟩ := k
    obtain ⟨v, _, rfl, hv, rfl⟩ := rv
    cases (show v = _ from r1.dv e hv)
    exact ⟨n, rfl, h1, h2, c.v _ δ1 _ I1 as1 H1 r1 l1 (walks_rng 0 n.toNat) k⟩, c.x⟩
theorem wi_rng2 {tr : TA} (h : WA K E tr (fun ss δ1 => ∃ s s' n m, ss = [s, s'] ∧ dv δ1.ce s = some (.int n) ∧ dv δ1.ce s' = some (.int m) ∧ (-(2 ^ 62) ≤ n ∧ n < 2 ^ 62 ∧ -(2 ^ 62) ≤ m ∧ m < 2 ^ 62) ∧ Ψi (rgD n (m - n).toNat) δ1) Ξ δ) : WI K E (iRng2 tr) Ψi Ξ δ := fun σ F I as H Q r c =>
  h σ F I as H _ r ⟨fun ss δ1 vs I1 as1 H1 r1 l1 rv k => by
    obtain ⟨s, s', n, m, rfl, e, e', h1, k⟩ := k
    obtain ⟨v, _, rfl, hv, w, _, rfl, hw, rfl⟩ := rv
    cases (show v = _ from r1.dv e hv)
    cases (show w = _ from r1.dv e' hw)
    exact ⟨n, m, rfl, h1, c.v _ δ1 _ I1 as1 H1 r1 l1 (walks_rng n (m - n).toNat) k⟩, c.x⟩

/-! ## for -/
theorem ws_for {wi : TI} {g : TG} (h : WI K E wi (fun ds δ1 => ∃ P : Nat → Sta → Prop, P 0 δ1 ∧ (∀ i d δ2, ds[i]? = some d → P i δ2 → WG K g (.im d) (fun δ3 => WS K E ts { Φ with nx := P (i + 1), ct := P (i + 1), bk := Φ.nx } δ3) δ2) ∧ ∀ δ2, P ds.length δ2 → Φ.nx δ2) Φ.ex δ) : WS K E (tFor wi g ts) Φ δ := by
  intro σ F I as H D r c
  refine h σ F I as H _ r ⟨fun ds δ1 J I1 as1 H1 r1 l1 w k => ?_, fun x δ1 d I1 as1 H1 r1 l1 z k => c.x x δ1 σ d I1 as1 H1 r1 l1 z k⟩
  obtain ⟨P, p0, pt, pe⟩ := k
  refine ⟨fun i m σ' H' => m = ds.length - i ∧ i ≤ ds.length ∧ ∃ δ' I' as', R K δ' σ' F I' as' H' ∧ Le I1 as1 I' as' ∧ P i δ', ⟨ds.length, by simp, Nat.zero_le _, δ1, I1, as1, r1, Le.refl I1 as1, p0⟩, ?_⟩
  rintro i m σ2 H2 ⟨rfl, hi, δ2, I2, as2, r2, l2, p2⟩
  have e2 : Same I1 H2 := l2.i.trans r2.ih
  by_cases hlt : i < ds.length
  · refine .inr ⟨w.go i H2 e2 hlt, fun σ' H' => ∃ δ' I' as', R K δ' σ' F I' as' H' ∧ Le I1 as1 I' as' ∧ P (i + 1) δ', fun σ' H' p' => ⟨ds.length - (i + 1), by omega, rfl, hlt, p'⟩, fun x H3 y => ?_⟩
    have hd : ds[i]? = some ds[i] := List.getElem?_eq_getElem hlt
    obtain ⟨I3, r3, l3, q3⟩ := w.yld i _ x H2 H3 δ2 σ2 F I2 as2 hd l2.i r2 y
    refine pt i _ δ2 hd p2 σ2 F I3 as2 H3 x _ r3 q3 fun δ4 σ4 I4 as4 H4 r4 l4 k4 => ?_
    have l14 := (l2.trans l3).trans l4
    have c4 := c.later (l1.trans l14)
    refine k4 σ4 F I4 as4 H4 _ r4 ⟨fun δ5 σ5 I5 as5 H5 r5 l5 k5 => ⟨δ5, I5, as5, r5, l14.trans l5, k5⟩, c4.rt, c4.nx, fun δ5 σ5 I5 as5 H5 r5 l5 k5 => ⟨δ5, I5, as5, r5, l14.trans l5, k5⟩, c4.x⟩
  · have e : i = ds.length := by omega
    subst e
    exact .inl ⟨w.stop H2 e2, (c.later l1).nx δ2 σ2 I2 as2 H2 r2 l2 (pe δ2 p2)⟩
/-! ## while -/
theorem ws_while (P : Nat → Sta → Prop) (m0 : Nat) (h0 : P m0 δ) (hs : ∀ m δ1, P m δ1 → WT K E t (fun b δ2 => (b = true → WS K E ts { Φ with nx := fun δ3 => ∃ m', m' < m ∧ P m' δ3, ct := fun δ3 => ∃ m', m' < m ∧ P m' δ3, bk := Φ.nx } δ2) ∧ (b = false → Φ.nx δ2)) Φ.ex δ1) : WS K E (tWhile t ts) Φ δ := by
  intro σ F I as H D r c
  refine ⟨fun m σ' H' => ∃ δ' I' as', R K δ' σ' F I' as' H' ∧ Le I as I' as' ∧ P m δ', ⟨m0, δ, I, as, r, Le.refl I as, h0⟩, ?_⟩
  rintro m σ1 H1 ⟨δ1, I1, as1, r1, l1, p1⟩
  have c1 := c.later l1
  refine hs m δ1 p1 σ1 F I1 as1 H1 _ r1 ⟨fun b δ2 I2 as2 H2 r2 l2 k2 => ?_, fun x δ2 d I2 as2 H2 r2 l2 z k => c1.x x δ2 σ1 d I2 as2 H2 r2 l2 z k⟩
  cases b with
  | true =>
    have l12 := l1.trans l2
    have c2 := c1.later l2
    refine ⟨fun σ' H' => ∃ m', m' < m ∧ ∃ δ' I' as', R K δ' σ' F I' as' H' ∧ Le I as I' as' ∧ P m' δ', fun σ' H' q => q, ?_⟩
    refine k2.1 rfl σ1 F I2 as2 H2 _ r2 ⟨fun δ5 σ5 I5 as5 H5 r5 l5 k5 => ?_, c2.rt, c2.nx, fun δ5 σ5 I5 as5 H5 r5 l5 k5 => ?_, c2.x⟩
    · obtain ⟨m', hm, p5⟩ := k5; exact ⟨m', hm, δ5, I5, as5, r5, l12.trans l5, p5⟩
    · obtain ⟨m', hm, p5⟩ := k5; exact ⟨m', hm, δ5, I5, as5, r5, l12.trans l5, p5⟩
  | false => exact c1.nx δ2 σ1 I2 as2 H2 r2 l2 (k2.2 rfl)
end
end Cr
namespace Cr
open PySem L2

/-! ## calls: some cells are handed over -/
def SV.ren (m : Nat → Nat) : SV → SV
  | .no => .no
  | .im d => .im d
  | .cl c => .cl (m c)
def CO.ren (m : Nat → Nat) : CO → CO
  | .lst xs => .lst (xs.map (SV.ren m))
  | .dic kvs => .dic (kvs.map fun p => (p.1, p.2.ren m))
  | .ins C fs => .ins C (fs.map fun p => (p.1, p.2.ren m))
  | .fz d => .fz d
  | .dead => .dead
theorem CO.ren_live (m : Nat → Nat) (o : CO) : (o.ren m).live = o.live := by cases o <;> rfl
def SV.bnd (n : Nat) : SV → Bool
  | .cl c => decide (c < n)
  | _ => true
def CO.bnd (n : Nat) : CO → Bool
  | .lst xs => xs.all (SV.bnd n)
  | .dic kvs => kvs.all fun p => p.2.bnd n
  | .ins _ fs => fs.all fun p => p.2.bnd n
  | _ => true
section
variable {K : PySem.W.Frag} {I I' : Hp} {as as' : List Addr} {m : Nat → Nat}
theorem RV.ren (hm : ∀ (j : Nat) (a : Addr), as[j]? = some a → as'[m j]? = some a) : ∀ {s : SV} {v : V}, RV K I as s v → RV K I as' (s.ren m) v
  | .no, _, h => h
  | .im d, v, h => h
  | .cl c, v, ⟨a, h1, h2⟩ => ⟨a, hm c a h1, h2⟩
theorem RVL.ren (hm : ∀ (j : Nat) (a : Addr), as[j]? = some a → as'[m j]? = some a) : ∀ {s : List SV} {v : List V}, RVL K I as s v → RVL K I as' (s.map (SV.ren m)) v
  | [], _, h => h
  | s :: ss, _, ⟨v, r, h1, h2, h3⟩ => ⟨v, r, h1, h2.ren hm, h3.ren hm⟩
theorem RVK.ren (hm : ∀ (j : Nat) (a : Addr), as[j]? = some a → as'[m j]? = some a) : ∀ {s : List (Key × SV)} {v : List (Key × V)}, RVK K I as s v → RVK K I as' (s.map fun p => (p.1, p.2.ren m)) v
  | [], _, h => h
  | (_, s) :: ss, _, ⟨v, r, h1, h2, h3⟩ => ⟨v, r, h1, h2.ren hm, h3.ren hm⟩
theorem RVF.ren (hm : ∀ (j : Nat) (a : Addr), as[j]? = some a → as'[m j]? = some a) : ∀ {s : List (Str × SV)} {v : List (Str × V)}, RVF K I as s v → RVF K I as' (s.map fun p => (p.1, p.2.ren m)) v
  | [], _, h => h
  | (_, s) :: ss, _, ⟨v, r, h1, h2, h3⟩ => ⟨v, r, h1, h2.ren hm, h3.ren hm⟩
theorem CellOk.ren {H : Hp} {a : Addr} (hm : ∀ (j : Nat) (a : Addr), as[j]? = some a → as'[m j]? = some a) : ∀ {o : CO}, CellOk K I as H a o → CellOk K I as' H a (o.ren m)
  | .lst xs, ⟨h1, vs, h2, h3⟩ => ⟨h1, vs, h2, h3.ren hm⟩
  | .dic xs, ⟨h1, vs, h2, h3⟩ => ⟨h1, vs, h2, h3.ren hm⟩
  | .ins C xs, ⟨h1, dx, vs, h2, h3⟩ => ⟨h1, dx, vs, h2, h3.ren hm⟩
  | .fz d, h => h
  | .dead, _ => trivial
theorem RV.unren {n : Nat} (hm : ∀ (j : Nat) (a : Addr), j < n → as'[m j]? = some a → as[j]? = some a) : ∀ {s : SV} {v : V}, s.bnd n = true → RV K I as' (s.ren m) v → RV K I as s v
  | .no, _, _, h => h
  | .im d, v, _, h => h
  | .cl c, v, b, ⟨a, h1, h2⟩ => ⟨a, hm c a (of_decide_eq_true b) h1, h2⟩
theorem RVL.unren {n : Nat} (hm : ∀ (j : Nat) (a : Addr), j < n → as'[m j]? = some a → as[j]? = some a) : ∀ {s : List SV} {v : List V}, s.all (SV.bnd n) = true → RVL K I as' (s.map (SV.ren m)) v → RVL K I as s v
  | [], _, _, h => h
  | s :: ss, _, b, ⟨v, r, h1, h2, h3⟩ => by
    have b' : (s.bnd n && ss.all (SV.bnd n)) = true := b
    rw [Bool.and_eq_true] at b'
    exact ⟨v, r, h1, h2.unren hm b'.1, h3.unren hm b'.2⟩
theorem RVK.unren {n : Nat} (hm : ∀ (j : Nat) (a : Addr), j < n → as'[m j]? = some a → as[j]? = some a) : ∀ {s : List (Key × SV)} {v : List (Key × V)}, (s.all fun p => p.2.bnd n) = true → RVK K I as' (s.map fun p => (p.1, p.2.ren m)) v → RVK K I as s v
  | [], _, _, h => h
  | (k, s) :: ss, _, b, ⟨v, r, h1, h2, h3⟩ => by
    have b' : (s.bnd n && ss.all fun p => p.2.bnd n) = true := b
    rw [Bool.and_eq_true] at b'
    exact ⟨v, r, h1, h2.unren hm b'.1, h3.unren hm b'.2⟩
theorem RVF.unren {n : Nat} (hm : ∀ (j : Nat) (a : Addr), j < n → as'[m j]? = some a → as[j]? = some a) : ∀ {s : List (Str × SV)} {v : List (Str × V)}, (s.all fun p => p.2.bnd n) = true → RVF K I as' (s.map fun p => (p.1, p.2.ren m)) v → RVF K I as s v
  | [], _, _, h => h
  | (k, s) :: ss, _, b, ⟨v, r, h1, h2, h3⟩ => by
    have b' : (s.bnd n && ss.all fun p => p.2.bnd n) = true := b
    rw [Bool.and_eq_true] at b'
    exact ⟨v, r, h1, h2.unren hm b'.1, h3.unren hm b'.2⟩
theorem CellOk.unren {n : Nat} {H : Hp} {a : Addr} (hm : ∀ (j : Nat) (a : Addr), j < n → as'[m j]? = some a → as[j]? = some a) : ∀ {o : CO}, o.bnd n = true → CellOk K I as' H a (o.ren m) → CellOk K I as H a o
  | .lst xs, b, ⟨h1, vs, h2, h3⟩ => ⟨h1, vs, h2, h3.unren hm b⟩
  | .dic xs, b, ⟨h1, vs, h2, h3⟩ => ⟨h1, vs, h2, h3.unren hm b⟩
  | .ins C xs, b, ⟨h1, dx, vs, h2, h3⟩ => ⟨h1, dx, vs, h2, h3.unren hm b⟩
  | .fz d, _, h => h
  | .dead, _, _ => trivial
end
/-- a def's abstract promise: from arguments and the cells handed in, to the value and the cells behind, or an exception -/
abbrev ASpec := List SV → List CO → (SV → List CO → Prop) → (Xn → List CO → Prop) → Prop
def hid (as : List Addr) (H : Hp) : Hp := fun a => if a ∈ as then none else H a
theorem hid_in {as : List Addr} {H : Hp} {a : Addr} (h : a ∈ as) : hid as H a = none := if_pos h
theorem hid_out {as : List Addr} {H : Hp} {a : Addr} (h : a ∉ as) : hid as H a = H a := if_neg h
theorem hid_none {as : List Addr} {H : Hp} {a : Addr} (h : hid as H a = none) : a ∈ as ∨ H a = none := by
  by_cases q : a ∈ as
  · exact .inl q
  · rw [hid_out q] at h; exact .inr h
def spAbs (K : PySem.W.Frag) (A : ASpec) : Sp := fun vs H Q E => ∃ (ss : List SV) (ce : List CO) (as : List Addr) (I : Hp),
  (∀ o ∈ ce, o.live = true) ∧ R K ⟨[], ce⟩ [] ⟨hid as H, I⟩ I as H ∧ RVL K I as ss vs ∧
  A ss ce (fun s ce' => ∀ v I' as' H', R K ⟨[], ce'⟩ [] ⟨hid as H, I⟩ I' as' H' → Le I as I' as' → RV K I' as' s v → Q v H')
    (fun x ce' => ∀ d I' as' H', R K ⟨[], ce'⟩ [] ⟨hid as H, I⟩ I' as' H' → Le I as I' as' → (∃ fs, H' d = some (.xd fs) ∧ RVF K I' as' x.fs fs) → E x.cls (some d) H')
def AMono (A : ASpec) : Prop := ∀ ss ce Ψ Ψ' Ξ Ξ', (∀ s c, Ψ s c → Ψ' s c) → (∀ x c, Ξ x c → Ξ' x c) → A ss ce Ψ Ξ → A ss ce Ψ' Ξ'

def put (m : Nat → Nat) : List CO → List Nat → List CO → List CO
  | ce, [], _ => ce
  | ce, _, [] => ce
  | ce, c :: cs, x :: xs => put m (ce.set c (x.ren m)) cs xs
theorem put_len (m : Nat → Nat) : ∀ (ids : List Nat) (ce xs : List CO), (put m ce ids xs).length = ce.length
  | [], ce, xs => by cases xs <;> rfl
  | c :: cs, ce, [] => rfl
  | c :: cs, ce, x :: xs => by show (put m (ce.set c (x.ren m)) cs xs).length = _; rw [put_len m cs]; simp
theorem put_out (m : Nat → Nat) : ∀ (ids : List Nat) (ce xs : List CO) (c : Nat), c ∉ ids → (put m ce ids xs)[c]? = ce[c]?
  | [], ce, xs, c, _ => by cases xs <;> rfl
  | i :: is, ce, [], c, _ => rfl
  | i :: is, ce, x :: xs, c, h => by
    show (put m (ce.set i (x.ren m)) is xs)[c]? = _
    rw [put_out m is _ xs c (fun z => h (List.mem_cons_of_mem _ z)), List.getElem?_set_ne (fun z => h (by rw [z]; exact List.mem_cons_self))]
theorem put_in (m : Nat → Nat) : ∀ (ids : List Nat) (ce xs : List CO) (j c : Nat) (x : CO), ids.Nodup → ids[j]? = some c → xs[j]? = some x → c < ce.length → (put m ce ids xs)[c]? = some (x.ren m)
  | [], ce, xs, j, c, x, _, h, _, _ => by simp at h
  | i :: is, ce, [], j, c, x, _, _, h, _ => by simp at h
  | i :: is, ce, y :: ys, 0, c, x, nd, h1, h2, hc => by
    simp at h1 h2
    subst h1 h2
    show (put m (ce.set i (y.ren m)) is ys)[i]? = _
    rw [put_out m is _ ys i (List.nodup_cons.mp nd).1, List.getElem?_set_self hc]
  | i :: is, ce, y :: ys, j + 1, c, x, nd, h1, h2, hc => by
    show (put m (ce.set i (y.ren m)) is ys)[c]? = _
    exact put_in m is _ ys j c x (List.nodup_cons.mp nd).2 (by simpa using h1) (by simpa using h2) (by simpa using hc)
def bkm (n : Nat) (ids : List Nat) (j : Nat) : Nat := if j < ids.length then ids.getD j 0 else n + (j - ids.length)
def back (δ : Sta) (ids : List Nat) (ce' : List CO) : Sta := { δ with ce := put (bkm δ.ce.length ids) δ.ce ids ce' ++ (ce'.drop ids.length).map (CO.ren (bkm δ.ce.length ids)) }
structure Pass (δ : Sta) (ids : List Nat) (ss ss0 : List SV) (ce0 : List CO) : Prop where
  args : ss = ss0.map (SV.ren fun j => ids.getD j 0)
  len : ce0.length = ids.length
  cells : ∀ (j : Nat) (co : CO) (c : Nat), ce0[j]? = some co → ids[j]? = some c → δ.ce[c]? = some (co.ren fun j => ids.getD j 0)
  live : ∀ co ∈ ce0, co.live = true
  nd : ids.Nodup
  bs : ss0.all (SV.bnd ids.length) = true
  bc : ce0.all (CO.bnd ids.length) = true
section
variable {K : PySem.W.Frag} {E : XK} {Ξ : Xn → Sta → Prop} {δ : Sta} {Ψ : SV → Sta → Prop} {σ : L2.St} {F : Frm} {I : Hp} {as : List Addr} {H : Hp} {Q : VK}
theorem getD_of {ids : List Nat} {j c : Nat} (h : ids[j]? = some c) : ids.getD j 0 = c := by rw [List.getD_eq_getElem?_getD, h]; rfl
theorem call_core {A : ASpec} (mA : AMono A) {ids : List Nat} {ss ss0 : List SV} {ce0 : List CO} {vs : List V} (r : R K δ σ F I as H) (rv : RVL K I as ss vs) (p : Pass δ ids ss ss0 ce0) (c : ConE K σ F I as E Ψ Ξ Q)
    (h : A ss0 ce0 (fun s ce' => Ψ (s.ren (bkm δ.ce.length ids)) (back δ ids ce')) (fun x ce' => Ξ ⟨x.cls, x.fs.map fun q => (q.1, q.2.ren (bkm δ.ce.length ids))⟩ (back δ ids ce'))) : spAbs K A vs H Q E := by
  -- the addresses handed over
  have hid0 : ∀ (j c : Nat), ids[j]? = some c → c < δ.ce.length := fun j c hj => by
    have hl : j < ce0.length := by rw [p.len]; exact (List.getElem?_eq_some_iff.mp hj).1
    exact (List.getElem?_eq_some_iff.mp (p.cells j ce0[j] c (List.getElem?_eq_getElem hl) hj)).1
  let as0 : List Addr := ids.map fun c => as.getD c 0
  have has0 : ∀ (j c : Nat) (a : Addr), ids[j]? = some c → as[c]? = some a → as0[j]? = some a := fun j c a h1 h2 => by
    show (ids.map _)[j]? = _
    rw [List.getElem?_map, h1]
    show some (as.getD c 0) = some a
    rw [List.getD_eq_getElem?_getD, h2]; rfl
  have has0' : ∀ (j : Nat) (a : Addr), as0[j]? = some a → ∃ c, ids[j]? = some c ∧ as[c]? = some a := fun j a h1 => by
    have h1' : (ids.map fun c => as.getD c 0)[j]? = some a := h1
    rw [List.getElem?_map] at h1'
    cases q : ids[j]? with
    | none => rw [q] at h1'; cases h1'
    | some c =>
      rw [q] at h1'
      have hc := hid0 j c q
      obtain ⟨b, hb⟩ := get_of_lt (l := as) (c := c) (by rw [r.clen]; exact hc)
      have : b = a := by
        have z : as.getD c 0 = a := Option.some.inj h1'
        rw [List.getD_eq_getElem?_getD, hb] at z; exact z
      subst this
      exact ⟨c, rfl, hb⟩
  have lvs : ∀ (j c : Nat), ids[j]? = some c → ∃ o, δ.ce[c]? = some o ∧ o.live = true := fun j c hj => by
    have hl : j < ce0.length := by rw [p.len]; exact (List.getElem?_eq_some_iff.mp hj).1
    exact ⟨_, p.cells j ce0[j] c (List.getElem?_eq_getElem hl) hj, by rw [CO.ren_live]; exact p.live _ (List.getElem_mem hl)⟩
  have as0I : ∀ a ∈ as0, I a = none ∧ F.F a = none := fun a ha => by
    obtain ⟨j, hj⟩ := List.getElem?_of_mem ha
    obtain ⟨c, h1, h2⟩ := has0' j a hj
    obtain ⟨o, h3, h4⟩ := lvs j c h1
    exact ⟨((r.cells c o a h3 h2).free h4).1, r.cf c o a h3 h2 h4⟩
  have um : ∀ (j : Nat) (a : Addr), j < ids.length → as[ids.getD j 0]? = some a → as0[j]? = some a := fun j a hj h2 => by
    have e : ids[j]? = some ids[j] := List.getElem?_eq_getElem hj
    exact has0 j _ a e (by rw [getD_of e] at h2; exact h2)
  have F0 : ∀ a, hid as0 H a = none → F.F a = none := fun a h => by
    rcases hid_none h with h | h
    · exact (as0I a h).2
    · exact none_back r.fh h
  refine ⟨ss0, ce0, as0, I, p.live, ⟨fun a u h => ?_, fun a u h => .inr h, fun c o a h1 h2 l => hid_in (List.mem_of_getElem? h2), r.ih, rfl, fun i s h => by simp at h, by show (ids.map _).length = _; rw [List.length_map, p.len], fun j o a h1 h2 => ?_, fun j j' o o' a h1 h2 l l' h3 h4 => ?_⟩, ?_, ?_⟩
  · have h' : hid as0 H a = some u := h
    by_cases q : a ∈ as0
    · rw [hid_in q] at h'; cases h'
    · rw [hid_out q] at h'; exact h'
  · obtain ⟨c, g1, g2⟩ := has0' j a h2
    have bo : o.bnd ids.length = true := List.all_eq_true.mp p.bc o (List.mem_of_getElem? h1)
    exact CellOk.unren um bo (r.cells c _ a (p.cells j o c h1 g1) g2)
  · obtain ⟨c, g1, g2⟩ := has0' j a h3
    obtain ⟨c', g1', g2'⟩ := has0' j' a h4
    obtain ⟨q, k1, k2⟩ := lvs j c g1
    obtain ⟨q', k1', k2'⟩ := lvs j' c' g1'
    have := r.inj c c' q q' a k1 k1' k2 k2' g2 g2'
    subst this
    exact nd_ix p.nd g1 g1'
  · rw [p.args] at rv
    exact RVL.unren um p.bs rv
  · -- what comes back
    have go : ∀ ce' I' as' H', R K ⟨[], ce'⟩ [] ⟨hid as0 H, I⟩ I' as' H' → Le I as0 I' as' →
        R K (back δ ids ce') σ F I' (as ++ as'.drop ids.length) H' ∧ Le I as I' (as ++ as'.drop ids.length) ∧ ∀ (j : Nat) (a : Addr), as'[j]? = some a → (as ++ as'.drop ids.length)[bkm δ.ce.length ids j]? = some a := fun ce' I' as' H' r' l' => by
      have el : as'.length = ce'.length := r'.clen
      have al : as.length = δ.ce.length := r.clen
      have keep : ∀ a u, a ∉ as0 → H a = some u → H' a = some u := fun a u ha hu => r'.fh a u (by show hid as0 H a = _; rw [hid_out ha]; exact hu)
      have ole : Le I as I' (as ++ as'.drop ids.length) := ⟨l'.i, fun c x hx => by rw [List.getElem?_append_left (List.getElem?_eq_some_iff.mp hx).1]; exact hx⟩
      have hm : ∀ (j : Nat) (a : Addr), as'[j]? = some a → (as ++ as'.drop ids.length)[bkm δ.ce.length ids j]? = some a := fun j a hj => by
        unfold bkm
        by_cases hlt : j < ids.length
        · rw [if_pos hlt]
          have e : ids[j]? = some ids[j] := List.getElem?_eq_getElem hlt
          obtain ⟨b, hb⟩ := get_of_lt (l := as) (c := ids[j]) (by rw [al]; exact hid0 j _ e)
          have := l'.a j b (has0 j _ b e hb)
          rw [hj] at this; cases this
          rw [getD_of e]
          exact ole.a _ _ hb
        · rw [if_neg hlt, ← al, List.getElem?_append_right (by omega), List.getElem?_drop]
          rw [show ids.length + (as.length + (j - ids.length) - as.length) = j from by omega]
          exact hj
      -- a cell of the new state: an old one, one handed over, a new one
      have cut : ∀ (d : Nat) (o : CO) (a : Addr), (back δ ids ce').ce[d]? = some o → (as ++ as'.drop ids.length)[d]? = some a →
          (d ∉ ids ∧ δ.ce[d]? = some o ∧ as[d]? = some a) ∨ (∃ j o', d = bkm δ.ce.length ids j ∧ ce'[j]? = some o' ∧ o = o'.ren (bkm δ.ce.length ids) ∧ as'[j]? = some a) := fun d o a h1 h2 => by
        have h1' : (put (bkm δ.ce.length ids) δ.ce ids ce' ++ (ce'.drop ids.length).map (CO.ren (bkm δ.ce.length ids)))[d]? = some o := h1
        by_cases hd : d < δ.ce.length
        · rw [List.getElem?_append_left (by rw [put_len]; exact hd)] at h1'
          rw [List.getElem?_append_left (by rw [al]; exact hd)] at h2
          by_cases hi : d ∈ ids
          · obtain ⟨j, hj⟩ := List.getElem?_of_mem hi
            have hjl : j < ids.length := (List.getElem?_eq_some_iff.mp hj).1
            have q := l'.a j a (has0 j d a hj h2)
            have hjc : j < ce'.length := by rw [← el]; exact (List.getElem?_eq_some_iff.mp q).1
            have e' : ce'[j]? = some ce'[j] := List.getElem?_eq_getElem hjc
            rw [put_in _ ids δ.ce ce' j d _ p.nd hj e' hd] at h1'
            refine .inr ⟨j, ce'[j], ?_, e', (Option.some.inj h1').symm, q⟩
            unfold bkm; rw [if_pos hjl, getD_of hj]
          · rw [put_out _ ids δ.ce ce' d hi] at h1'
            exact .inl ⟨hi, h1', h2⟩
        · rw [List.getElem?_append_right (by rw [put_len]; omega), put_len, List.getElem?_map, List.getElem?_drop] at h1'
          rw [List.getElem?_append_right (by omega), List.getElem?_drop, al] at h2
          cases q : ce'[ids.length + (d - δ.ce.length)]? with
          | none => rw [q] at h1'; cases h1'
          | some o' =>
            rw [q] at h1'
            refine .inr ⟨ids.length + (d - δ.ce.length), o', ?_, q, (Option.some.inj h1').symm, h2⟩
            unfold bkm; rw [if_neg (by omega)]; omega
      have oldI : ∀ (d : Nat) (o : CO) (a : Addr), d ∉ ids → δ.ce[d]? = some o → as[d]? = some a → o.live = true → a ∉ as0 := fun d o a hi h1 h2 l ha => by
        obtain ⟨j, hj⟩ := List.getElem?_of_mem ha
        obtain ⟨c, g1, g2⟩ := has0' j a hj
        obtain ⟨q, k1, k2⟩ := lvs j c g1
        have := r.inj d c o q a h1 k1 l k2 h2 g2
        subst this
        exact hi (List.mem_of_getElem? g1)
      refine ⟨⟨fun a u h => ?_, fun a u h => ?_, fun d o a h1 h2 l => ?_, r'.ih, r.len, fun i s h => ?_, ?_, fun d o a h1 h2 => ?_, fun d d' o o' a h1 h2 l1 l2 h3 h4 => ?_⟩, ole, hm⟩
      · exact keep a u (fun ha => by rw [(as0I a ha).2] at h; cases h) (r.fh a u h)
      · rcases r'.nf a u h with h | h
        · exact .inl (F0 a h)
        · exact r.nf a u h
      · rcases cut d o a h1 h2 with ⟨_, g1, g2⟩ | ⟨j, o', _, g1, rfl, g2⟩
        · exact r.cf d o a g1 g2 l
        · rw [CO.ren_live] at l
          exact F0 a (r'.cf j o' a g1 g2 l)
      · rcases r.slots i s h with h | ⟨v, h1, h2⟩
        · exact .inl h
        · exact .inr ⟨v, h1, h2.mono ole⟩
      · show (as ++ as'.drop ids.length).length = (put (bkm δ.ce.length ids) δ.ce ids ce' ++ (ce'.drop ids.length).map (CO.ren (bkm δ.ce.length ids))).length
        simp [put_len, al, el]
      · rcases cut d o a h1 h2 with ⟨hi, g1, g2⟩ | ⟨j, o', _, g1, rfl, g2⟩
        · have z := r.cells d o a g1 g2
          refine z.mono ole (fun l => ?_) fun l u hu => keep a u (oldI d o a hi g1 g2 l) hu
          obtain ⟨hn, u, hu⟩ := z.free l
          cases q : I' a with
          | none => rfl
          | some w =>
            rcases r'.nf a w q with h | h
            · have h' : hid as0 H a = none := h
              rw [hid_out (oldI d o a hi g1 g2 l), hu] at h'; cases h'
            · have h' : I a = some w := h
              rw [hn] at h'; cases h'
        · exact (r'.cells j o' a g1 g2).ren hm
      · rcases cut d o a h1 h3 with ⟨hi, g1, g2⟩ | ⟨j, q, e, g1, rfl, g2⟩
        · rcases cut d' o' a h2 h4 with ⟨hi', g1', g2'⟩ | ⟨j', q', e', g1', rfl, g2'⟩
          · exact r.inj d d' o o' a g1 g1' l1 l2 g2 g2'
          · rw [CO.ren_live] at l2
            have z : hid as0 H a = none := r'.cf j' q' a g1' g2' l2
            obtain ⟨_, u, hu⟩ := (r.cells d o a g1 g2).free l1
            rw [hid_out (oldI d o a hi g1 g2 l1), hu] at z; cases z
        · rcases cut d' o' a h2 h4 with ⟨hi', g1', g2'⟩ | ⟨j', q', e', g1', rfl, g2'⟩
          · rw [CO.ren_live] at l1
            have z : hid as0 H a = none := r'.cf j q a g1 g2 l1
            obtain ⟨_, u, hu⟩ := (r.cells d' o' a g1' g2').free l2
            rw [hid_out (oldI d' o' a hi' g1' g2' l2), hu] at z; cases z
          · rw [CO.ren_live] at l1 l2
            have := r'.inj j j' q q' a g1 g1' l1 l2 g2 g2'
            rw [e, e', this]
    refine mA _ _ _ _ _ _ (fun s ce' k => ?_) (fun x ce' k => ?_) h
    · intro v I' as' H' r' l' rv'
      obtain ⟨r2, l2, hm⟩ := go ce' I' as' H' r' l'
      exact c.v _ _ v I' _ H' r2 l2 (rv'.ren hm) k
    · intro d I' as' H' r' l' z
      obtain ⟨r2, l2, hm⟩ := go ce' I' as' H' r' l'
      obtain ⟨fs, z1, z2⟩ := z
      exact c.x ⟨x.cls, x.fs.map fun q => (q.1, q.2.ren (bkm δ.ce.length ids))⟩ _ d I' _ H' r2 l2 ⟨fs, z1, z2.ren hm⟩ k
end
end Cr
namespace Cr
open PySem L2

/-! ## states cut -/
def cutS (k : Nat) : SV → SV
  | .cl c => if c < k then .cl c else .no
  | s => s
def Sta.cut (k : Nat) (δ : Sta) : Sta := ⟨δ.sl.map (cutS k), δ.ce.take k⟩
section
variable {K : PySem.W.Frag} {δ : Sta} {σ : L2.St} {F : Frm} {I : Hp} {as : List Addr} {H : Hp}
theorem take_get {α : Type} {l : List α} {k c : Nat} {x : α} : (l.take k)[c]? = some x ↔ c < k ∧ l[c]? = some x := by
  rw [List.getElem?_take]
  by_cases h : c < k
  · simp [h]
  · simp [h]
theorem RV.cut {k : Nat} : ∀ {s : SV} {v : V}, s.bnd k = true → RV K I as s v → RV K I (as.take k) s v
  | .no, _, _, h => h
  | .im d, v, _, h => h
  | .cl c, v, b, ⟨a, h1, h2⟩ => ⟨a, take_get.mpr ⟨of_decide_eq_true b, h1⟩, h2⟩
theorem RVL.cut {k : Nat} : ∀ {s : List SV} {v : List V}, s.all (SV.bnd k) = true → RVL K I as s v → RVL K I (as.take k) s v
  | [], _, _, h => h
  | s :: ss, _, b, ⟨v, r, h1, h2, h3⟩ => by
    have b' : (s.bnd k && ss.all (SV.bnd k)) = true := b
    rw [Bool.and_eq_true] at b'
    exact ⟨v, r, h1, h2.cut b'.1, h3.cut b'.2⟩
theorem RVK.cut {k : Nat} : ∀ {s : List (Key × SV)} {v : List (Key × V)}, (s.all fun p => p.2.bnd k) = true → RVK K I as s v → RVK K I (as.take k) s v
  | [], _, _, h => h
  | (_, s) :: ss, _, b, ⟨v, r, h1, h2, h3⟩ => by
    have b' : (s.bnd k && ss.all fun p => p.2.bnd k) = true := b
    rw [Bool.and_eq_true] at b'
    exact ⟨v, r, h1, h2.cut b'.1, h3.cut b'.2⟩
theorem RVF.cut {k : Nat} : ∀ {s : List (Str × SV)} {v : List (Str × V)}, (s.all fun p => p.2.bnd k) = true → RVF K I as s v → RVF K I (as.take k) s v
  | [], _, _, h => h
  | (_, s) :: ss, _, b, ⟨v, r, h1, h2, h3⟩ => by
    have b' : (s.bnd k && ss.all fun p => p.2.bnd k) = true := b
    rw [Bool.and_eq_true] at b'
    exact ⟨v, r, h1, h2.cut b'.1, h3.cut b'.2⟩
theorem CellOk.cut {k : Nat} {a : Addr} : ∀ {o : CO}, o.bnd k = true → CellOk K I as H a o → CellOk K I (as.take k) H a o
  | .lst xs, b, ⟨h1, vs, h2, h3⟩ => ⟨h1, vs, h2, h3.cut b⟩
  | .dic xs, b, ⟨h1, vs, h2, h3⟩ => ⟨h1, vs, h2, h3.cut b⟩
  | .ins C xs, b, ⟨h1, dx, vs, h2, h3⟩ => ⟨h1, dx, vs, h2, h3.cut b⟩
  | .fz d, _, h => h
  | .dead, _, _ => trivial
theorem R.cut (r : R K δ σ F I as H) {k : Nat} (hb : (δ.ce.take k).all (CO.bnd k) = true) : R K (δ.cut k) σ F I (as.take k) H := by
  refine ⟨r.fh, r.nf, fun c o a h1 h2 l => ?_, r.ih, by simp [Sta.cut, r.len], fun i s h => ?_, by simp [Sta.cut, r.clen], fun c o a h1 h2 => ?_, fun c c' o o' a h1 h2 l1 l2 h3 h4 => ?_⟩
  · exact r.cf c o a (take_get.mp h1).2 (take_get.mp h2).2 l
  · have h' : (δ.sl.map (cutS k))[i]? = some s := h
    rw [List.getElem?_map] at h'
    cases q : δ.sl[i]? with
    | none => rw [q] at h'; cases h'
    | some t =>
      rw [q] at h'
      have e : cutS k t = s := Option.some.inj h'
      subst e
      rcases r.slots i t q with z | ⟨v, z1, z2⟩
      · subst z; exact .inl rfl
      · cases t with
        | no => exact .inl rfl
        | im d => exact .inr ⟨v, z1, z2⟩
        | cl c =>
          by_cases hc : c < k
          · right
            refine ⟨v, z1, ?_⟩
            show RV K I (as.take k) (if c < k then .cl c else .no) v
            rw [if_pos hc]
            exact RV.cut (s := .cl c) (decide_eq_true hc) z2
          · left
            show (if c < k then SV.cl c else .no) = .no
            rw [if_neg hc]
  · have bo : o.bnd k = true := List.all_eq_true.mp hb o (List.mem_of_getElem? h1)
    exact (r.cells c o a (take_get.mp h1).2 (take_get.mp h2).2).cut bo
  · exact r.inj c c' o o' a (take_get.mp h1).2 (take_get.mp h2).2 l1 l2 (take_get.mp h3).2 (take_get.mp h4).2
theorem R.bare (r : R K δ σ F I as H) : R K ⟨[], δ.ce⟩ [] F I as H := ⟨r.fh, r.nf, r.cf, r.ih, rfl, fun i s h => by simp at h, r.clen, r.cells, r.inj⟩
theorem Le.cut {I' : Hp} {as' : List Addr} (l : Le I as I' as') {k : Nat} (hk : as.length ≤ k) : Le I as I' (as'.take k) := ⟨l.i, fun c x h => take_get.mpr ⟨Nat.lt_of_lt_of_le (List.getElem?_eq_some_iff.mp h).1 hk, l.a c x h⟩⟩
/-- a value handed out: as it is, or frozen with its cells dropped -/
def Ret (Ψ : SV → List CO → Prop) (k : Nat) (s : SV) (ce : List CO) : Prop :=
  Ψ s ce ∨ (∃ d, dv ce s = some d ∧ (ce.take k).all (CO.bnd k) = true ∧ (∀ c, s = .cl c → k ≤ c) ∧ Ψ (.im d) (ce.take k)) ∨
    ∃ c co, s = .cl c ∧ k ≤ c ∧ ce[c]? = some co ∧ co.bnd k = true ∧ (ce.take k).all (CO.bnd k) = true ∧ Ψ (.cl k) (ce.take k ++ [co])
/-- one of the new cells goes on, the others are dropped -/
theorem R.pick (r : R K δ σ F I as H) {k c : Nat} {co : CO} {a : Addr} (hk : k ≤ c) (hc : δ.ce[c]? = some co) (ha : as[c]? = some a) (hb : (δ.ce.take k).all (CO.bnd k) = true) (hco : co.bnd k = true) : R K ⟨[], δ.ce.take k ++ [co]⟩ [] F I (as.take k ++ [a]) H := by
  have hcl : c < δ.ce.length := (List.getElem?_eq_some_iff.mp hc).1
  have lk : (δ.ce.take k).length = k := by rw [List.length_take]; omega
  have lk' : (as.take k).length = k := by rw [List.length_take, r.clen]; omega
  have cut : ∀ (d : Nat) (o : CO) (b : Addr), (δ.ce.take k ++ [co])[d]? = some o → (as.take k ++ [a])[d]? = some b → (d < k ∧ δ.ce[d]? = some o ∧ as[d]? = some b) ∨ (d = k ∧ o = co ∧ b = a) := fun d o b h1 h2 => by
    by_cases hd : d < k
    · rw [List.getElem?_append_left (by omega)] at h1 h2
      exact .inl ⟨hd, (take_get.mp h1).2, (take_get.mp h2).2⟩
    · rw [List.getElem?_append_right (by omega), lk] at h1
      rw [List.getElem?_append_right (by omega), lk'] at h2
      have e : d = k := by
        have := (List.getElem?_eq_some_iff.mp h1).1
        simp at this; omega
      subst e
      simp at h1 h2
      exact .inr ⟨rfl, h1.symm, h2.symm⟩
  have le : Le I (as.take k) I (as.take k ++ [a]) := ⟨Same.refl I, fun d x h => by rw [List.getElem?_append_left (List.getElem?_eq_some_iff.mp h).1]; exact h⟩
  have mv : ∀ (o : CO) (b : Addr), o.bnd k = true → CellOk K I as H b o → CellOk K I (as.take k ++ [a]) H b o := fun o b h1 h2 => CellOk.mono (h2.cut h1) le (fun l => (CellOk.free l h2).1) (fun _ _ h => h)
  refine ⟨r.fh, r.nf, fun d o b h1 h2 l => ?_, r.ih, rfl, fun i s h => by simp at h, by simp [r.clen], fun d o b h1 h2 => ?_, fun d d' o o' b h1 h2 l1 l2 h3 h4 => ?_⟩
  · rcases cut d o b h1 h2 with ⟨_, g1, g2⟩ | ⟨_, rfl, rfl⟩
    · exact r.cf d o b g1 g2 l
    · exact r.cf c _ _ hc ha l
  · rcases cut d o b h1 h2 with ⟨hd, g1, g2⟩ | ⟨_, rfl, rfl⟩
    · exact mv o b (List.all_eq_true.mp hb o (List.mem_of_getElem? (take_get.mpr ⟨hd, g1⟩))) (r.cells d o b g1 g2)
    · exact mv _ _ hco (r.cells c _ _ hc ha)
  · rcases cut d o b h1 h3 with ⟨hd, g1, g2⟩ | ⟨hd, rfl, rfl⟩
    · rcases cut d' o' b h2 h4 with ⟨hd', g1', g2'⟩ | ⟨hd', rfl, rfl⟩
      · exact r.inj d d' o o' b g1 g1' l1 l2 g2 g2'
      · have := r.inj d c _ _ _ g1 hc l1 l2 g2 ha; omega
    · rcases cut d' o' _ h2 h4 with ⟨hd', g1', g2'⟩ | ⟨hd', _, _⟩
      · have := r.inj c d' _ _ _ hc g1' l1 l2 ha g2'; omega
      · omega
end
/-! ## defs -/
section
variable {P : Program} {w : World} {K : PySem.W.Frag} {mg : Str → Option Value} {base : Heap} {x qual : Str} {params : Arguments} {body : List Stmt} {scope : Scope} {dvs : List V} {kws : List (Str × V)} {f : Addr} {fd : FuncData}
theorem start_slots {I : Hp} {as : List Addr} {N : List Str} : ∀ {ss : List SV} {vs : List V} {n : Nat}, RVL K I as ss vs → ∀ (i : Nat) (s : SV), (ss ++ List.replicate n .no)[i]? = some s → s = .no ∨ ∃ v, (vs.map some ++ List.replicate n none)[i]? = some (some v) ∧ RV K I as s v
  | [], vs, n, h, i, s, e => by
    rw [show vs = [] from h]
    simp only [List.nil_append] at e
    exact .inl (List.eq_of_mem_replicate (List.mem_of_getElem? e))
  | t :: ts, vs, n, ⟨v, r, h1, h2, h3⟩, 0, s, e => by
    subst h1
    simp at e
    subst e
    exact .inr ⟨v, rfl, h2⟩
  | t :: ts, vs, n, ⟨v, r, h1, h2, h3⟩, i + 1, s, e => by
    subst h1
    have := start_slots (N := N) (n := n) h3 i s (by simpa using e)
    simpa using this
def bodyPost (Ψ : SV → List CO → Prop) (Ξ : Xn → List CO → Prop) (k : Nat) : Post := { nx := fun δ => Ret Ψ k (.im .non) δ.ce, rt := fun s δ => Ret Ψ k s δ.ce, ex := fun x δ => Ξ x δ.ce }
theorem body_abs {A : ASpec} (mA : AMono A) {E : XK} {t : TS} {N : List Str} {vs : List V} {H : Hp} {Q : VK} (hlen : vs.length ≤ N.length) (h : spAbs K A vs H Q E)
    (w : ∀ ss ce Ψ Ξ, A ss ce Ψ Ξ → WS K E t (bodyPost Ψ Ξ ce.length) ⟨ss ++ List.replicate (N.length - ss.length) .no, ce⟩) : t { nx := fun _ H' => Q .non H', rt := Q } (L2.start N vs) H := by
  obtain ⟨ss, ce, as, I, lv, r, rv, hA⟩ := h
  have hl := rv.length
  have r1 : R K ⟨ss ++ List.replicate (N.length - ss.length) .no, ce⟩ (L2.start N vs) ⟨hid as H, I⟩ I as H := by
    refine ⟨r.fh, r.nf, r.cf, r.ih, ?_, fun i s e => ?_, r.clen, r.cells, r.inj⟩
    · simp [L2.start, hl]
    · have := start_slots (N := N) rv i s e
      show s = .no ∨ ∃ v, (vs.map some ++ List.replicate (N.length - vs.length) none)[i]? = some (some v) ∧ RV K I as s v
      rw [hl]; exact this
  have fin : ∀ s δ' σ' v I' as' H', R K δ' σ' ⟨hid as H, I⟩ I' as' H' → Le I as I' as' → RV K I' as' s v →
      Ret (fun s ce' => ∀ v I' as' H', R K ⟨[], ce'⟩ [] ⟨hid as H, I⟩ I' as' H' → Le I as I' as' → RV K I' as' s v → Q v H') ce.length s δ'.ce → Q v H' := fun s δ' σ' v I' as' H' r' l' rv' q => by
    rcases q with q | ⟨d, e, hb, hc, q⟩ | ⟨c, co, rfl, hc, e, hco, hb, q⟩
    rotate_left
    rotate_left
    · obtain ⟨a, ha, rfl⟩ := rv'
      have lk : (as'.take ce.length).length = ce.length := by
        have := (List.getElem?_eq_some_iff.mp ha).1
        rw [List.length_take]; omega
      refine q _ I' (as'.take ce.length ++ [a]) H' (r'.pick hc e ha hb hco) ⟨l'.i, fun d x h => ?_⟩ ⟨a, ?_, rfl⟩
      · have hd : d < ce.length := by
          have := (List.getElem?_eq_some_iff.mp h).1
          rw [r.clen] at this; exact this
        rw [List.getElem?_append_left (by omega)]
        exact take_get.mpr ⟨hd, l'.a d x h⟩
      · rw [List.getElem?_append_right (by omega), lk]; simp
    · exact q v I' as' H' r'.bare l' rv'
    · have hk : as.length ≤ ce.length := Nat.le_of_eq r.clen
      cases s with
      | no => cases e
      | im d' =>
        cases e
        exact q v I' (as'.take ce.length) H' ((r'.cut hb).bare) (l'.cut hk) rv'
      | cl c =>
        obtain ⟨I2, r2, l2⟩ := r'.freeze e
        have hkc := hc c rfl
        have ec : (δ'.ce.set c (.fz d)).take ce.length = δ'.ce.take ce.length := by
          rw [List.take_set_of_le hkc]
        have r3 := (R.cut (k := ce.length) r2 (by show ((δ'.ce.set c (.fz d)).take ce.length).all _ = true; rw [ec]; exact hb)).bare
        have r4 : R K ⟨[], δ'.ce.take ce.length⟩ [] ⟨hid as H, I⟩ I2 (as'.take ce.length) H' := by
          have z : (Sta.cut ce.length { δ' with ce := δ'.ce.set c (.fz d) }).ce = δ'.ce.take ce.length := ec
          rw [z] at r3
          exact r3
        obtain ⟨a, ha, rfl⟩ := rv'
        have hlt : c < δ'.ce.length := by
          cases qq : δ'.ce[c]? with
          | none => simp only [Cr.dv] at e; rw [qq] at e; cases e
          | some o => exact (List.getElem?_eq_some_iff.mp qq).1
        exact q _ I2 _ H' r4 ((l'.trans l2).cut hk) (r2.cells c (.fz d) a (by show (δ'.ce.set c (.fz d))[c]? = _; exact List.getElem?_set_self hlt) ha)
  refine w ss ce _ _ hA (L2.start N vs) ⟨hid as H, I⟩ I as H _ r1 ⟨fun δ' σ' I' as' H' r' l' k => ?_, fun s δ' σ' v I' as' H' r' l' rv' k => ?_, fun _ _ _ _ _ _ _ k => k.elim, fun _ _ _ _ _ _ _ k => k.elim, fun x δ' σ' d I' as' H' r' l' z k => ?_⟩
  · exact fin (.im .non) δ' σ' .non I' as' H' r' l' rfl k
  · exact fin s δ' σ' v I' as' H' r' l' rv' k
  · exact k d I' as' H' r'.bare l' z
theorem fn_abs {A : ASpec} (mA : AMono A) {CX : CXT} {N ps : List Str} {k : Nat} (F : FunD K x qual params body scope dvs kws f fd) (S : FnScope N ps scope) (hps : ps.length ≤ N.length) (len : ∀ ss ce Ψ Ξ, A ss ce Ψ Ξ → ss.length = ps.length)
    (hb : ∀ (cdv : Value) (Ar : Around) (outer : List Env) (s : Shared) (H : Hp) (E : XK), Room k (Ar.deeper (PyProof.Rows.envOfC qual scope s.heap.objs.size f cdv)) →
      ∃ t, PSs (cxOf CX P w K mg base N qual scope f cdv Ar outer s H E) body t ∧
        ∀ ss ce Ψ Ξ, A ss ce Ψ Ξ → WS K E t (bodyPost Ψ Ξ ce.length) ⟨ss ++ List.replicate (N.length - ss.length) .no, ce⟩) : FnOk P w K mg base CX (k + 1) f fd ps (spAbs K A) := by
  have hl : ∀ vs H Q E, spAbs K A vs H Q E → vs.length = ps.length := fun vs H Q E h => by
    obtain ⟨ss, ce, as, I, _, _, rv, hA⟩ := h
    rw [rv.length]; exact len _ _ _ _ hA
  refine F.ok S hl fun cdv Ar outer s H vs Q E hr h => ?_
  obtain ⟨t, h1, h2⟩ := hb cdv Ar outer s H E hr
  exact ⟨t, h1, body_abs mA (by rw [hl vs H Q E h]; exact hps) h h2⟩
end
/-! ## calls -/
section
variable {K : PySem.W.Frag} {E : XK} {Ξ : Xn → Sta → Prop} {δ : Sta} {Ψ : SV → Sta → Prop} {ta te : TE} {tr : TA} {A : ASpec}
theorem CO.ren0 {m : Nat → Nat} : ∀ {o : CO}, o.bnd 0 = true → o.ren m = o := by
  have h1 : ∀ s : SV, s.bnd 0 = true → s.ren m = s := fun s h => by
    cases s with
    | no => rfl
    | im d => rfl
    | cl c => exact absurd (of_decide_eq_true (show decide (c < 0) = true from h)) (Nat.not_lt_zero _)
  intro o h
  cases o with
  | lst xs => 
    show CO.lst (xs.map _) = _
    rw [List.map_congr_left (g := id) fun s hs => h1 s (List.all_eq_true.mp h s hs), List.map_id]
  | dic kvs =>
    show CO.dic (kvs.map _) = _
    rw [List.map_congr_left (g := id) fun (s : Key × SV) hs => by
      show (s.1, s.2.ren m) = s
      rw [h1 s.2 (List.all_eq_true.mp h s hs)], List.map_id]
  | ins C fs =>
    show CO.ins C (fs.map _) = _
    rw [List.map_congr_left (g := id) fun (s : Str × SV) hs => by
      show (s.1, s.2.ren m) = s
      rw [h1 s.2 (List.all_eq_true.mp h s hs)], List.map_id]
  | fz d => rfl
  | dead => rfl
theorem bnd_mono {n : Nat} : ∀ {o : CO}, o.bnd 0 = true → o.bnd n = true := by
  have h1 : ∀ s : SV, s.bnd 0 = true → s.bnd n = true := fun s h => by
    cases s with
    | no => rfl
    | im d => rfl
    | cl c => exact absurd (of_decide_eq_true (show decide (c < 0) = true from h)) (Nat.not_lt_zero _)
  intro o h
  cases o with
  | lst xs => exact List.all_eq_true.mpr fun s hs => h1 s (List.all_eq_true.mp h s hs)
  | dic xs => exact List.all_eq_true.mpr fun s hs => h1 s.2 (List.all_eq_true.mp h s hs)
  | ins C xs => exact List.all_eq_true.mpr fun s hs => h1 s.2 (List.all_eq_true.mp h s hs)
  | fz d => rfl
  | dead => rfl
theorem sren0 {m : Nat → Nat} : ∀ {ss : List SV}, ss.all (SV.bnd 0) = true → ss.map (SV.ren m) = ss := fun {ss} h => by
  have z : (CO.lst ss).ren m = CO.lst ss := CO.ren0 h
  exact CO.lst.inj z
theorem pass0' {ss : List SV} (h : ss.all (SV.bnd 0) = true) : Pass δ [] ss ss [] where
  args := (sren0 h).symm
  len := rfl
  cells := fun j co c h1 => by simp at h1
  live := fun co h => by cases h
  nd := List.nodup_nil
  bs := h
  bc := rfl
theorem pass1 {b : Nat} {co : CO} {ss ss0 : List SV} (hc : δ.ce[b]? = some co) (hl : co.live = true) (hb : co.bnd 0 = true) (ha : ss = ss0.map (SV.ren fun _ => b)) (hs : ss0.all (SV.bnd 1) = true) : Pass δ [b] ss ss0 [co] := by
  refine ⟨?_, rfl, fun j co' c h1 h2 => ?_, fun o h => ?_, by simp, hs, ?_⟩
  · rw [ha]
    refine List.map_congr_left fun s hs' => ?_
    have z := List.all_eq_true.mp hs s hs'
    cases s with
    | no => rfl
    | im d => rfl
    | cl c =>
      have : c = 0 := by have := of_decide_eq_true (show decide (c < 1) = true from z); omega
      subst this; rfl
  · have hj : j = 0 := by
      have := (List.getElem?_eq_some_iff.mp h1).1
      simp at this; exact this
    subst hj
    simp at h1 h2
    subst h1 h2
    rw [CO.ren0 hb]; exact hc
  · simp at h; subst h; exact hl
  · simp [bnd_mono hb]
/-- the general call -/
theorem we_call (mA : AMono A) (h : WA K E tr (fun ss δ1 => ∃ ids ss0 ce0, Pass δ1 ids ss ss0 ce0 ∧ A ss0 ce0 (fun s ce' => Ψ (s.ren (bkm δ1.ce.length ids)) (back δ1 ids ce')) (fun x ce' => Ξ ⟨x.cls, x.fs.map fun q => (q.1, q.2.ren (bkm δ1.ce.length ids))⟩ (back δ1 ids ce'))) Ξ δ) : WE K E (tCall (spAbs K A) [] E tr) Ψ Ξ δ := fun σ F I as H Q r c =>
  h σ F I as H _ r ⟨fun ss δ1 vs I1 as1 H1 r1 l1 rv k => by
    obtain ⟨ids, ss0, ce0, p, k⟩ := k
    show spAbs K A (vs ++ []) H1 Q E
    rw [List.append_nil]
    exact call_core mA r1 rv p (c.later l1) k, c.x⟩
/-- arguments all data, the result data, no cells: the exceptions carry data -/
theorem we_callP (mA : AMono A) (h : WA K E tr (fun ss δ1 => ss.all (SV.bnd 0) = true ∧ A ss [] (fun s ce' => ∃ d, s = .im d ∧ ce' = [] ∧ Ψ (.im d) δ1) (fun x ce' => x.fs.all (fun q => q.2.bnd 0) = true ∧ ce' = [] ∧ Ξ x δ1)) Ξ δ) : WE K E (tCall (spAbs K A) [] E tr) Ψ Ξ δ := by
  refine we_call mA fun σ F I as H Q r c => h σ F I as H Q r ⟨fun ss δ1 vs I1 as1 H1 r1 l1 rv k => c.v ss δ1 vs I1 as1 H1 r1 l1 rv ⟨[], ss, [], pass0' k.1, mA _ _ _ _ _ _ (fun s ce' q => ?_) (fun x ce' q => ?_) k.2⟩, c.x⟩
  · obtain ⟨d, rfl, rfl, q⟩ := q
    have e : back δ1 [] [] = δ1 := by show (⟨δ1.sl, δ1.ce ++ []⟩ : Sta) = δ1; rw [List.append_nil]
    rw [e]; exact q
  · obtain ⟨hx, rfl, q⟩ := q
    have e : back δ1 [] [] = δ1 := by show (⟨δ1.sl, δ1.ce ++ []⟩ : Sta) = δ1; rw [List.append_nil]
    rw [e]
    have ef : (x.fs.map fun q => (q.1, q.2.ren (bkm δ1.ce.length []))) = x.fs := by
      have z := CO.ren0 (m := bkm δ1.ce.length []) (o := .ins 0 x.fs) hx
      exact (CO.ins.inj z).2
    rw [ef]; exact q
/-- arguments all data, a new cell comes -/
theorem we_callN (mA : AMono A) (h : WA K E tr (fun ss δ1 => ss.all (SV.bnd 0) = true ∧ A ss [] (fun s ce' => ∃ co, s = .cl 0 ∧ ce' = [co] ∧ co.bnd 0 = true ∧ Ψ (.cl δ1.ce.length) { δ1 with ce := δ1.ce ++ [co] }) (fun _ _ => False)) Ξ δ) : WE K E (tCall (spAbs K A) [] E tr) Ψ Ξ δ := by
  refine we_call mA fun σ F I as H Q r c => h σ F I as H Q r ⟨fun ss δ1 vs I1 as1 H1 r1 l1 rv k => c.v ss δ1 vs I1 as1 H1 r1 l1 rv ⟨[], ss, [], pass0' k.1, mA _ _ _ _ _ _ (fun s ce' q => ?_) (fun x ce' q => q.elim) k.2⟩, c.x⟩
  obtain ⟨co, rfl, rfl, hb, q⟩ := q
  have e : back δ1 [] [co] = { δ1 with ce := δ1.ce ++ [co] } := by
    show (⟨δ1.sl, δ1.ce ++ [co.ren _]⟩ : Sta) = _
    rw [CO.ren0 hb]
  rw [e]
  exact q
/-- one cell handed over and back, data comes -/
theorem we_call1 (mA : AMono A) (h : WA K E tr (fun ss δ1 => ∃ b co ss0, δ1.ce[b]? = some co ∧ co.live = true ∧ co.bnd 0 = true ∧ ss = ss0.map (SV.ren fun _ => b) ∧ ss0.all (SV.bnd 1) = true ∧
    A ss0 [co] (fun s ce' => ∃ d co', s = .im d ∧ ce' = [co'] ∧ co'.bnd 0 = true ∧ Ψ (.im d) { δ1 with ce := δ1.ce.set b co' }) (fun _ _ => False)) Ξ δ) : WE K E (tCall (spAbs K A) [] E tr) Ψ Ξ δ := by
  refine we_call mA fun σ F I as H Q r c => h σ F I as H Q r ⟨fun ss δ1 vs I1 as1 H1 r1 l1 rv k => ?_, c.x⟩
  obtain ⟨b, co, ss0, k1, k2, k3, k4, k5, k6⟩ := k
  refine c.v ss δ1 vs I1 as1 H1 r1 l1 rv ⟨[b], ss0, [co], pass1 k1 k2 k3 k4 k5, mA _ _ _ _ _ _ (fun s ce' q => ?_) (fun x ce' q => q.elim) k6⟩
  obtain ⟨d, co', rfl, rfl, hb, q⟩ := q
  have e : back δ1 [b] [co'] = { δ1 with ce := δ1.ce.set b co' } := by
    show (⟨δ1.sl, δ1.ce.set b (co'.ren _) ++ []⟩ : Sta) = _
    rw [CO.ren0 hb, List.append_nil]
  rw [e]; exact q
/-- o.m(..), o data -/
theorem we_methP (mA : AMono A) {C : Addr} {m : Str} (h : WE K E ta (fun s δ1 => ∃ d fs, s = .im d ∧ d = .ins C fs ∧ fs.lookup m = none ∧
    WA K E tr (fun ss δ2 => ss.all (SV.bnd 0) = true ∧ A (.im d :: ss) [] (fun s ce' => ∃ d, s = .im d ∧ ce' = [] ∧ Ψ (.im d) δ2) (fun x ce' => x.fs.all (fun q => q.2.bnd 0) = true ∧ ce' = [] ∧ Ξ x δ2)) Ξ δ1) Ξ δ) : WE K E (tMeth C m (spAbs K A) [] E ta tr) Ψ Ξ δ := fun σ F I as H Q r c =>
  h σ F I as H _ r ⟨fun s δ1 v I1 as1 H1 r1 l1 rv k => by
    obtain ⟨d, fs, rfl, rfl, hf, k⟩ := k
    obtain ⟨a, dx, ws, rfl, ha, ra⟩ := (show Rep K I1 (.ins C fs) v from rv)
    refine ⟨a, dx, ws, rfl, r1.ih _ _ ha, ra.lookN hf, ?_⟩
    refine k σ F I1 as1 H1 _ r1 ⟨fun ss δ2 vs I2 as2 H2 r2 l2 rv2 k2 => ?_, (c.later l1).x⟩
    rw [List.append_nil]
    have rv' : RVL K I2 as2 (.im (.ins C fs) :: ss) (.ref a :: vs) := ⟨_, _, rfl, Rep.mono l2.i _ _ rv, rv2⟩
    refine call_core mA r2 rv' (pass0' (show (SV.bnd 0 (.im (.ins C fs)) && ss.all (SV.bnd 0)) = true from by rw [k2.1]; rfl)) ((c.later l1).later l2) (mA _ _ _ _ _ _ (fun s ce' q => ?_) (fun x ce' q => ?_) k2.2)
    · obtain ⟨d, rfl, rfl, q⟩ := q
      have e : back δ2 [] [] = δ2 := by show (⟨δ2.sl, δ2.ce ++ []⟩ : Sta) = δ2; rw [List.append_nil]
      rw [e]; exact q
    · obtain ⟨hx, rfl, q⟩ := q
      have e : back δ2 [] [] = δ2 := by show (⟨δ2.sl, δ2.ce ++ []⟩ : Sta) = δ2; rw [List.append_nil]
      rw [e]
      have ef : (x.fs.map fun q => (q.1, q.2.ren (bkm δ2.ce.length []))) = x.fs := by
        have z := CO.ren0 (m := bkm δ2.ce.length []) (o := .ins 0 x.fs) hx
        exact (CO.ins.inj z).2
      rw [ef]; exact q, c.x⟩
/-- .. whose result is a new cell -/
theorem we_methN (mA : AMono A) {C : Addr} {m : Str} (h : WE K E ta (fun s δ1 => ∃ d fs, imS δ1.ce s = some d ∧ d = .ins C fs ∧ fs.lookup m = none ∧
    WA K E tr (fun ss δ2 => ss.all (SV.bnd 0) = true ∧ A (.im d :: ss) [] (fun s ce' => ∃ co, s = .cl 0 ∧ ce' = [co] ∧ co.bnd 0 = true ∧ Ψ (.cl δ2.ce.length) { δ2 with ce := δ2.ce ++ [co] }) (fun _ _ => False)) Ξ δ1) Ξ δ) : WE K E (tMeth C m (spAbs K A) [] E ta tr) Ψ Ξ δ := fun σ F I as H Q r c =>
  h σ F I as H _ r ⟨fun s δ1 v I1 as1 H1 r1 l1 rv k => by
    obtain ⟨d, fs, ei, rfl, hf, k⟩ := k
    have rep := r1.imS ei rv
    obtain ⟨a, dx, ws, rfl, ha, ra⟩ := (show Rep K I1 (.ins C fs) v from rep)
    refine ⟨a, dx, ws, rfl, r1.ih _ _ ha, ra.lookN hf, ?_⟩
    refine k σ F I1 as1 H1 _ r1 ⟨fun ss δ2 vs I2 as2 H2 r2 l2 rv2 k2 => ?_, (c.later l1).x⟩
    rw [List.append_nil]
    have rv' : RVL K I2 as2 (.im (.ins C fs) :: ss) (.ref a :: vs) := ⟨_, _, rfl, Rep.mono l2.i _ _ rep, rv2⟩
    refine call_core mA r2 rv' (pass0' (show (SV.bnd 0 (.im (.ins C fs)) && ss.all (SV.bnd 0)) = true from by rw [k2.1]; rfl)) ((c.later l1).later l2) (mA _ _ _ _ _ _ (fun s ce' q => ?_) (fun x ce' q => q.elim) k2.2)
    obtain ⟨co, rfl, rfl, hb, q⟩ := q
    have e : back δ2 [] [co] = { δ2 with ce := δ2.ce ++ [co] } := by
      show (⟨δ2.sl, δ2.ce ++ [co.ren _]⟩ : Sta) = _
      rw [CO.ren0 hb]
    rw [e]
    exact q, c.x⟩
/-- a frozen thing's cell may be read as data: s as it is in the state -/
theorem we_nrm {s : SV} {d : D} (e : imS δ.ce s = some d) : ∀ {I : Hp} {as : List Addr} {H : Hp} {σ : L2.St} {F : Frm} {v : V}, R K δ σ F I as H → RV K I as s v → RV K I as (.im d) v := fun r rv => r.imS e rv
/-! what R itself bounds -/
theorem RV.bnd {I : Hp} {as : List Addr} : ∀ {s : SV} {v : V}, RV K I as s v → s.bnd as.length = true
  | .no, _, h => rfl
  | .im d, v, h => rfl
  | .cl c, v, ⟨a, h1, h2⟩ => decide_eq_true (List.getElem?_eq_some_iff.mp h1).1
theorem RVL.bnd {I : Hp} {as : List Addr} : ∀ {s : List SV} {v : List V}, RVL K I as s v → s.all (SV.bnd as.length) = true
  | [], _, h => rfl
  | s :: ss, _, ⟨v, r, h1, h2, h3⟩ => by
    show (s.bnd as.length && ss.all (SV.bnd as.length)) = true
    rw [h2.bnd, h3.bnd]; rfl
theorem RVK.bnd {I : Hp} {as : List Addr} : ∀ {s : List (Key × SV)} {v : List (Key × V)}, RVK K I as s v → (s.all fun p => p.2.bnd as.length) = true
  | [], _, h => rfl
  | (k, s) :: ss, _, ⟨v, r, h1, h2, h3⟩ => by
    show (s.bnd as.length && ss.all fun p => p.2.bnd as.length) = true
    rw [h2.bnd, h3.bnd]; rfl
theorem RVF.bnd {I : Hp} {as : List Addr} : ∀ {s : List (Str × SV)} {v : List (Str × V)}, RVF K I as s v → (s.all fun p => p.2.bnd as.length) = true
  | [], _, h => rfl
  | (k, s) :: ss, _, ⟨v, r, h1, h2, h3⟩ => by
    show (s.bnd as.length && ss.all fun p => p.2.bnd as.length) = true
    rw [h2.bnd, h3.bnd]; rfl
theorem CellOk.bnd {I : Hp} {as : List Addr} {H : Hp} {a : Addr} : ∀ {o : CO}, CellOk K I as H a o → o.bnd as.length = true
  | .lst xs, ⟨h1, vs, h2, h3⟩ => h3.bnd
  | .dic xs, ⟨h1, vs, h2, h3⟩ => h3.bnd
  | .ins C xs, ⟨h1, dx, vs, h2, h3⟩ => h3.bnd
  | .fz d, _ => rfl
  | .dead, _ => rfl
theorem R.bndAll {σ : L2.St} {F : Frm} {I : Hp} {as : List Addr} {H : Hp} (r : R K δ σ F I as H) : δ.ce.all (CO.bnd δ.ce.length) = true := by
  refine List.all_eq_true.mpr fun o ho => ?_
  obtain ⟨c, hc⟩ := List.getElem?_of_mem ho
  obtain ⟨a, ha⟩ := r.adr hc
  have := (r.cells c o a hc ha).bnd
  rw [r.clen] at this; exact this
/-- a state with one more cell, that cell dropped -/
theorem R.drop1 {σ : L2.St} {F : Frm} {I I' : Hp} {as as' : List Addr} {H H' : Hp} {co : CO} (r0 : R K δ σ F I as H) (r : R K { δ with ce := δ.ce ++ [co] } σ F I' as' H') : R K δ σ F I' (as'.take δ.ce.length) H' := by
  have e1 : (δ.ce ++ [co]).take δ.ce.length = δ.ce := by rw [List.take_append_of_le_length (Nat.le_refl _), List.take_length]
  have z := R.cut (k := δ.ce.length) r (by show ((δ.ce ++ [co]).take δ.ce.length).all _ = true; rw [e1]; exact r0.bndAll)
  have e : Sta.cut δ.ce.length { δ with ce := δ.ce ++ [co] } = δ := by
    show (⟨δ.sl.map (cutS δ.ce.length), (δ.ce ++ [co]).take δ.ce.length⟩ : Sta) = δ
    rw [e1]
    have : δ.sl.map (cutS δ.ce.length) = δ.sl := by
      have h : ∀ s ∈ δ.sl, cutS δ.ce.length s = s := fun s hs => by
        obtain ⟨i, hi⟩ := List.getElem?_of_mem hs
        rcases r0.slots i s hi with q | ⟨v, _, q⟩
        · subst q; rfl
        · have := q.bnd
          rw [r0.clen] at this
          cases s with
          | no => rfl
          | im d => rfl
          | cl c => exact if_pos (of_decide_eq_true (show decide (c < δ.ce.length) = true from this))
      rw [List.map_congr_left (g := id) h, List.map_id]
    rw [this]
  rw [e] at z; exact z
theorem rvl_im {I : Hp} {as : List Addr} : ∀ {ds : List D} {ws : List V}, RepL K I ds ws → RVL K I as (ds.map SV.im) ws
  | [], _, h => h
  | d :: ds, _, ⟨v, r, e, h1, h2⟩ => ⟨v, r, e, h1, rvl_im h2⟩
theorem rvl_app {I : Hp} {as : List Addr} : ∀ {s1 s2 : List SV} {w1 w2 : List V}, RVL K I as s1 w1 → RVL K I as s2 w2 → RVL K I as (s1 ++ s2) (w1 ++ w2)
  | [], _, w1, _, h1, h2 => by rw [show w1 = [] from h1]; exact h2
  | s :: ss, _, _, _, ⟨v, r, e, g1, g2⟩, h2 => by subst e; exact ⟨v, _, rfl, g1, rvl_app g2 h2⟩
/-- C(..): __init__ fills a new cell; it is handed out as data -/
theorem we_make (mA : AMono A) {C : Addr} {dds : List D} {dvs : List V} (hdv : ∀ I, RepL K I dds dvs) (h : WA K E tr (fun ss δ1 => ss.all (SV.bnd 0) = true ∧ A (.cl 0 :: (ss ++ dds.map SV.im)) [.ins C []] (fun s ce' => s = .im .non ∧ ∃ co d, ce' = [co] ∧ co.bnd 0 = true ∧ dv [co] (.cl 0) = some d ∧ Ψ (.im d) δ1) (fun x ce' => x.fs.all (fun q => q.2.bnd 0) = true ∧ ce'.length = 1 ∧ Ξ x δ1)) Ξ δ) : WE K E (tMake C (spAbs K A) dvs E tr) Ψ Ξ δ := fun σ F I as H Q r c =>
  h σ F I as H _ r ⟨fun ss δ1 vs I1 as1 H1 r1 l1 rv k => by
    intro x dx hx hdx ne
    obtain ⟨r2, l2⟩ := r1.newF (o := .own x) hdx
    have hx2 : upd H1 dx (.own x) x = none := by rw [upd_ne (Ne.symm ne)]; exact hx
    have hn : (upd I1 dx (.own x)) x = none := none_back r2.ih hx2
    obtain ⟨r3, l3⟩ := r2.newC (o := .ins C dx []) (co := .ins C []) hx2 ⟨hn, dx, [], upd_same, rfl⟩ rfl
    have l23 := l2.trans l3
    have rv' : RVL K (upd I1 dx (.own x)) (as1 ++ [x]) (.cl δ1.ce.length :: (ss ++ dds.map SV.im)) (.ref x :: (vs ++ dvs)) :=
      ⟨_, _, rfl, ⟨x, by rw [← r1.clen]; simp, rfl⟩, rvl_app (rv.mono l23) (rvl_im (hdv _))⟩
    have hs0 : (ss ++ dds.map SV.im).all (SV.bnd 0) = true := by
      rw [List.all_append, k.1]
      exact List.all_eq_true.mpr fun s hs => by
        obtain ⟨d, _, rfl⟩ := List.mem_map.mp hs
        rfl
    have p : Pass { δ1 with ce := δ1.ce ++ [.ins C []] } [δ1.ce.length] (.cl δ1.ce.length :: (ss ++ dds.map SV.im)) (.cl 0 :: (ss ++ dds.map SV.im)) [.ins C []] := by
      refine pass1 (by show (δ1.ce ++ [CO.ins C []])[δ1.ce.length]? = _; simp) rfl rfl ?_ ?_
      · show _ = SV.cl δ1.ce.length :: (ss ++ dds.map SV.im).map (SV.ren fun _ => δ1.ce.length)
        rw [sren0 hs0]
      · show (decide (0 < 1) && (ss ++ dds.map SV.im).all (SV.bnd 1)) = true
        have : (CO.lst (ss ++ dds.map SV.im)).bnd 1 = true := bnd_mono (o := .lst (ss ++ dds.map SV.im)) hs0
        rw [show (ss ++ dds.map SV.im).all (SV.bnd 1) = true from this]; rfl
    have c1 := c.later l1
    have cc : ConE K σ F (upd I1 dx (.own x)) (as1 ++ [x]) E (fun s δ' => s = .im .non ∧ ∃ co d, δ' = { δ1 with ce := δ1.ce ++ [co] } ∧ dv [co] (.cl 0) = some d ∧ co.bnd 0 = true ∧ Ψ (.im d) δ1)
        (fun x δ' => (∃ co, δ' = { δ1 with ce := δ1.ce ++ [co] }) ∧ x.fs.all (fun q => q.2.bnd 0) = true ∧ Ξ x δ1) (fun v H2 => v = .non ∧ Q (.ref x) H2) := by
      refine ⟨fun s δ' v I' as' H' r' l' rv'' q => ?_, fun y δ' d I' as' H' r' l' z q => ?_⟩
      · obtain ⟨rfl, co, d, rfl, ed, hb, q⟩ := q
        refine ⟨rv'', ?_⟩
        have ed' : Cr.dv (δ1.ce ++ [co]) (.cl δ1.ce.length) = some d := by
          have g : (δ1.ce ++ [co])[δ1.ce.length]? = some co := by simp
          have g0 : ([co] : List CO)[0]? = some co := rfl
          have s1 : ∀ (ce ce' : List CO) (s : SV), s.bnd 0 = true → Cr.imS ce s = Cr.imS ce' s := fun ce ce' s h => by
            cases s with
            | no => rfl
            | im d => rfl
            | cl c => exact absurd (of_decide_eq_true (show decide (c < 0) = true from h)) (Nat.not_lt_zero _)
          have sL : ∀ (ce ce' : List CO) (xs : List SV), xs.all (SV.bnd 0) = true → Cr.imL ce xs = Cr.imL ce' xs := fun ce ce' xs => by
            induction xs with
            | nil => intro _; rfl
            | cons t ts ih =>
              intro h
              have h' : (t.bnd 0 && ts.all (SV.bnd 0)) = true := h
              rw [Bool.and_eq_true] at h'
              simp only [Cr.imL, s1 ce ce' t h'.1, ih h'.2]
          have sK : ∀ (ce ce' : List CO) (xs : List (Key × SV)), (xs.all fun p => p.2.bnd 0) = true → Cr.imK ce xs = Cr.imK ce' xs := fun ce ce' xs => by
            induction xs with
            | nil => intro _; rfl
            | cons t ts ih =>
              intro h
              obtain ⟨kk, t⟩ := t
              have h' : (t.bnd 0 && ts.all fun p => p.2.bnd 0) = true := h
              rw [Bool.and_eq_true] at h'
              simp only [Cr.imK, s1 ce ce' t h'.1, ih h'.2]
          have sF : ∀ (ce ce' : List CO) (xs : List (Str × SV)), (xs.all fun p => p.2.bnd 0) = true → Cr.imF ce xs = Cr.imF ce' xs := fun ce ce' xs => by
            induction xs with
            | nil => intro _; rfl
            | cons t ts ih =>
              intro h
              obtain ⟨kk, t⟩ := t
              have h' : (t.bnd 0 && ts.all fun p => p.2.bnd 0) = true := h
              rw [Bool.and_eq_true] at h'
              simp only [Cr.imF, s1 ce ce' t h'.1, ih h'.2]
          rw [← ed]
          simp only [Cr.dv, g, g0]
          cases co with
          | lst xs => simp only [sL (δ1.ce ++ [CO.lst xs]) [CO.lst xs] xs hb]
          | dic xs => simp only [sK (δ1.ce ++ [CO.dic xs]) [CO.dic xs] xs hb]
          | ins C xs => simp only [sF (δ1.ce ++ [CO.ins C xs]) [CO.ins C xs] xs hb]
          | fz d => rfl
          | dead => rfl
        obtain ⟨I4, r4, l4⟩ := R.freeze (c := δ1.ce.length) r' ed'
        have e4 : ({ sl := δ1.sl, ce := δ1.ce ++ [co] } : Sta).ce.set δ1.ce.length (.fz d) = δ1.ce ++ [.fz d] := by
          show (δ1.ce ++ [co]).set δ1.ce.length (.fz d) = _
          rw [List.set_append_right _ _ (Nat.le_refl _)]; simp
        have r5 : R K { δ1 with ce := δ1.ce ++ [.fz d] } σ F I4 as' H' := by
          have r4' := r4
          rw [e4] at r4'
          exact r4'
        have r6 := R.drop1 r1 r5
        have hxa : as'[δ1.ce.length]? = some x := l'.a _ _ (by rw [← r1.clen]; simp)
        refine c1.v (.im d) δ1 (.ref x) I4 _ H' r6 (((l23.trans l').trans l4).cut (Nat.le_of_eq r1.clen)) ?_ q
        exact r5.cells δ1.ce.length (.fz d) x (by show (δ1.ce ++ [CO.fz d])[δ1.ce.length]? = _; simp) hxa
      · obtain ⟨⟨co, rfl⟩, hf, q⟩ := q
        have r6 := R.drop1 r1 r'
        obtain ⟨fs, z1, z2⟩ := z
        refine c1.x y δ1 d I' _ H' r6 ((l23.trans l').cut (Nat.le_of_eq r1.clen)) ⟨fs, z1, ?_⟩ q
        have b0 : (y.fs.all fun p => p.2.bnd δ1.ce.length) = true := bnd_mono (o := .ins 0 y.fs) hf
        exact z2.cut b0
    refine call_core mA r3 rv' p cc (mA _ _ _ _ _ _ (fun s ce' q => ?_) (fun y ce' q => ?_) k.2)
    · obtain ⟨rfl, co, d, rfl, hb, ed, q⟩ := q
      refine ⟨rfl, co, d, ?_, ed, hb, q⟩
      show (⟨δ1.sl, (δ1.ce ++ [CO.ins C []]).set δ1.ce.length (co.ren _) ++ []⟩ : Sta) = _
      rw [CO.ren0 hb, List.append_nil, List.set_append_right _ _ (Nat.le_refl _)]; simp
    · obtain ⟨hf, hl, q⟩ := q
      obtain ⟨co, rfl⟩ : ∃ co, ce' = [co] := by
        match ce', hl with
        | [co], _ => exact ⟨co, rfl⟩
      have ef : (y.fs.map fun q => (q.1, q.2.ren (bkm (δ1.ce ++ [CO.ins C []]).length [δ1.ce.length]))) = y.fs := by
        have z := CO.ren0 (m := bkm (δ1.ce ++ [CO.ins C []]).length [δ1.ce.length]) (o := .ins 0 y.fs) hf
        exact (CO.ins.inj z).2
      refine ⟨⟨co.ren (bkm (δ1.ce ++ [CO.ins C []]).length [δ1.ce.length]), ?_⟩, ?_, ?_⟩
      · show (⟨δ1.sl, (δ1.ce ++ [CO.ins C []]).set δ1.ce.length (co.ren _) ++ []⟩ : Sta) = _
        rw [List.append_nil, List.set_append_right _ _ (Nat.le_refl _)]; simp
      · show ((y.fs.map fun q => (q.1, q.2.ren (bkm (δ1.ce ++ [CO.ins C []]).length [δ1.ce.length]))).all fun q => q.2.bnd 0) = true
        rw [ef]; exact hf
      · rw [ef]; exact q, c.x⟩
end
end Cr
namespace Cr
open PySem L2

/-! ## {**d, k: v, ..} -/
section
variable {prog : Program} {w : World} {A : Around} {E : Value → Shared → Prop} {s : Shared}
theorem put_pairs {d : Addr} {kvs : List (Key × Value)} {k : Key} {key v : Value} {Q : Unit → Shared → Prop} (hkey : (mixKind prog w).is k key = true) (hm : s.heap.DictOf (mixKind prog w) d kvs)
    (hQ : ∀ h', h'.DictOf (mixKind prog w) d (stored kvs k v) → Heap.SameBut d s.heap h' → Q () { s with heap := h' })
    (hsz : kvs.length ≤ sizeLine) :
    wpAny (model prog w) A (dictPut d ((mixKind prog w).hash k) key v) Q E s := by
  obtain ⟨o, es, ep, ho, hc, hd, hk, hp, hn⟩ := hm
  have hes : es.size ≤ sizeLine := by have e1 := hp.length; have e2 : es.toList.length = es.size := by simp
                                      omega
  unfold dictPut
  refine wpAny_bind (wpAny_dictFind_of hkey ho hd hk ?_)
  have hidx : (es.findIdx? fun e => (mixKind prog w).is k e.key) = kvs.findIdx? fun kv => decide (kv.1 = k) := by
    rw [← hp.findIdx k]; obtain ⟨l⟩ := es; simp
  cases hi : es.findIdx? fun e => (mixKind prog w).is k e.key with
  | some i =>
    refine wpAny_updateDict ho hd (hQ _ ⟨_, _, ep, Heap.get?_update_self _ ho (Obj.isFreed_of_dict (Obj.data_mapDict hd _)),
      hc.mapDict _, Obj.data_mapDict hd _, hk.modify _ _, ?_, ?_⟩ (Heap.SameBut.update ..))
    · rw [stored, if_pos (any_of_findIdx_some (hidx ▸ hi))]
      have hl : (es.toList.findIdx? fun e => (mixKind prog w).is k e.key) = some i := by rw [← hi]; obtain ⟨l⟩ := es; simp
      have := hp.modify hn hl v
      obtain ⟨l⟩ := es
      simpa using this
    · rw [stored, if_pos (any_of_findIdx_some (hidx ▸ hi)), keys_map_store]; exact hn
  | none =>
    have hnot : k ∉ kvs.map (·.1) := not_mem_of_findIdx_none (hidx ▸ hi)
    have hany : ¬ (kvs.any fun kv => decide (kv.1 = k)) = true := by
      rw [List.any_eq_true]; rintro ⟨kv, hkv, he⟩
      exact hnot (List.mem_map.mpr ⟨kv, hkv, of_decide_eq_true he⟩)
    refine wpAny_updateDictKeys (hz := hes) ho hd (hQ _ ⟨_, _, ep + 1, Heap.get?_update_self _ ho (Obj.isFreed_of_dict (Obj.data_mapDictKeys hd _)),
      hc.mapDictKeys _, Obj.data_mapDictKeys hd _, hk.push hkey _, ?_, ?_⟩ (Heap.SameBut.update ..))
    · rw [stored, if_neg hany]
      have := hp.append hkey ((mixKind prog w).hash k) v
      obtain ⟨l⟩ := es
      simpa using this
    · rw [stored, if_neg hany, List.map_append, List.nodup_append]
      refine ⟨hn, by simp, ?_⟩
      intro a ha b hb
      simp only [List.map_cons, List.map_nil, List.mem_singleton] at hb
      subst hb
      exact fun e => hnot (e ▸ ha)
theorem merge_map {d o : Addr} {kvs more : List (Key × Value)} {Q : Unit → Shared → Prop} (hdo : d ≠ o) (hoS : (o == sysModules) = false)
    (hd : s.heap.DictOf (mixKind prog w) d kvs) (ho : s.heap.DictOf (mixKind prog w) o more)
    (hQ : ∀ h', h'.DictOf (mixKind prog w) d (merged kvs more) → h'.DictOf (mixKind prog w) o more → Heap.SameBut d s.heap h' → Q () { s with heap := h' })
    (hsz : kvs.length + more.length ≤ sizeLine) :
    wpAny (model prog w) A (mergeMapping d (.ref o) false) Q E s := by
  obtain ⟨od, esd, epd, hod, hcd, hdd, hkd, hpd, hnd⟩ := id hd
  obtain ⟨oo, eso, epo, hoo, hco, hdo', hko, hpo, hno⟩ := id ho
  have hlen : more.length = eso.size := by rw [← hpo.length]; simp
  have tail : wpAny (model prog w) A (do
      let __do_lift ← dictEntries o
      let size := __do_lift.size
      let epoch ← dictEpoch o
      forIn (List.range size) PUnit.unit fun i (_ : PUnit) => (do
          let l' ← dictEntries o
          match l'[i]? with
            | some e => do
              holding [e.key, e.val] (do
                dictPut d e.hash e.key e.val)
              let ep' ← dictEpoch o
              if (ep' != epoch) = true then do
                  (unsupported "dict.changed-during-merge" : Sem PUnit)
                  pure (ForInStep.yield PUnit.unit)
                else pure (ForInStep.yield PUnit.unit)
            | _ => do
              (unsupported "dict.changed-during-merge" : Sem PUnit)
              pure (ForInStep.yield PUnit.unit) : Sem (ForInStep PUnit))
      pure ()) Q E s := by
    refine wpAny_bind (wpAny_dictEntries hoo hdo' ?_)
    dsimp only
    refine wpAny_bind (wpAny_dictEpoch hoo hdo' ?_)
    refine wpAny_bind ?_
    rw [List.range_eq_range']
    refine wpAny_forIn_list _
      (fun rest _ s' => ∃ h' i, s' = { s with heap := h' } ∧ rest = List.range' i (eso.size - i) ∧ i ≤ eso.size ∧ h'.DictOf (mixKind prog w) d (merged kvs (more.take i)) ∧ h'.get? o = some oo ∧ Heap.SameBut d s.heap h')
      _ ?_ ?_ _ _ ⟨s.heap, 0, rfl, by simp, Nat.zero_le _, by simpa [merged] using hd, hoo, Heap.SameBut.refl _ _⟩
    · rintro x rest b s' ⟨h', i, rfl, hr, hi, hd', hoo', hs'⟩
      have hlt : i < eso.size := by
        rcases Nat.lt_or_ge i eso.size with h | h
        · exact h
        · rw [Nat.sub_eq_zero_of_le h] at hr; simp at hr
      obtain ⟨rfl, hrest⟩ : x = i ∧ rest = List.range' (i + 1) (eso.size - (i + 1)) := by
        have e : eso.size - i = (eso.size - (i + 1)) + 1 := by omega
        rw [e, List.range'_succ] at hr
        injection hr with h1 h2
        exact ⟨h1, h2⟩
      refine wpAny_bind (wpAny_dictEntries hoo' hdo' ?_)
      rw [Array.getElem?_eq_getElem hlt]
      obtain ⟨kv, hkv⟩ : ∃ kv, more[x]? = some kv := ⟨more[x]'(by rw [hlen]; exact hlt), List.getElem?_eq_getElem _⟩
      obtain ⟨k, v⟩ := kv
      obtain ⟨hkey, hval⟩ := hpo.get? (e := eso[x]) (by simp [hlt]) hkv
      obtain ⟨k', hkey', hhash⟩ := hko eso[x] (Array.getElem_mem hlt)
      obtain rfl : k' = k := (mixKind prog w).inj _ _ _ hkey' hkey
      show wpAny _ _ (holding [eso[x].key, eso[x].val] (dictPut d eso[x].hash eso[x].key eso[x].val) >>= _) _ _ _
      rw [hhash, hval]
      have hmx : (merged kvs (more.take x)).length ≤ sizeLine := by
        have e1 := merged_length_le kvs (more.take x)
        have e2 : (more.take x).length ≤ more.length := by rw [List.length_take]; omega
        omega
      refine wpAny_bind (wpAny_holding (put_pairs (hsz := hmx) hkey hd' fun h'' hd'' hs'' => ?_))
      have hoo'' : h''.get? o = some oo := (hs''.2 o (Ne.symm hdo)).trans hoo'
      refine wpAny_bind (wpAny_dictEpoch hoo'' hdo' ?_)
      rw [if_neg (by simp)]
      exact wpAny_pure ⟨h'', x + 1, rfl, hrest, hlt, by rw [merged_take_succ kvs more x (k', v) hkv]; exact hd'', hoo'', hs'.trans hs''⟩
    · rintro b s' ⟨h', i, rfl, hr, hi, hd', hoo', hs'⟩
      have hin : i = eso.size := by
        rcases Nat.lt_or_ge i eso.size with h | h
        · have e : eso.size - i = (eso.size - (i + 1)) + 1 := by omega
          rw [e, List.range'_succ] at hr; exact nomatch hr
        · exact Nat.le_antisymm hi h
      refine wpAny_pure (hQ h' ?_ ⟨oo, eso, epo, hoo', hco, hdo', hko, hpo, hno⟩ hs')
      rw [hin, ← hlen, List.take_length] at hd'; exact hd'
  unfold mergeMapping
  refine wpAny_bind (wpAny_isInstance ho.typeIs isSubtype_dict_dict ?_)
  dsimp only
  rw [if_pos rfl]
  refine wpAny_bind (wpAny_specialOf ho.typeIs F.slot_dict_iter.lookup ?_)
  refine wpAny_bind (wpAny_pure ?_)
  rw [beq_self_eq_true]
  dsimp only
  rw [if_neg (by rw [hoS]; exact Bool.false_ne_true)]
  refine wpAny_bind (wpAny_dictEntries hod hdd ?_)
  split
  · refine wpAny_bind (wpAny_dictEntries hoo hdo' ?_)
    refine wpAny_bind (MeetsSeq2.wpAny_forIn_array _ (fun rest _ s' => s' = s ∧ ∀ e ∈ rest, e ∈ eso.toList) _ ?_ ?_ _ _ ⟨rfl, fun _ h => h⟩)
    · rintro e rest b s' ⟨rfl, hm⟩
      obtain ⟨k', hkey', _⟩ := hko e (by simpa using hm e List.mem_cons_self)
      rcases keyIs_shape (show keyIs k' e.key = true from hkey') with ⟨i, t, _, q⟩ | ⟨x, t, _, q⟩
      · rw [q]
        exact wpAny_pure ⟨rfl, fun z hz => hm z (List.mem_cons_of_mem _ hz)⟩
      · rw [q]
        exact wpAny_pure ⟨rfl, fun z hz => hm z (List.mem_cons_of_mem _ hz)⟩
    · rintro b s' ⟨rfl, _⟩
      exact tail
  · exact tail

theorem gather' (m : Option Addr) (f : (Option (Sem Value) × Sem Value) → (Option Addr × List (Sem Value × Sem Value)) → Sem (ForInStep (Option Addr × List (Sem Value × Sem Value))))
    (hf : ∀ (p : Sem Value × Sem Value) (run : List (Sem Value × Sem Value)), run.length + 1 < 17 → f (some p.1, p.2) (m, run) = pure (.yield (m, run ++ [p]))) :
    ∀ (items run : List (Sem Value × Sem Value)), run.length + items.length < 17 → forIn (items.map fun p => (some p.1, p.2)) (m, run) f = pure (m, run ++ items)
  | [], run, _ => by simp
  | p :: rest, run, h => by
    rw [List.map_cons, List.forIn_cons, hf p run (by simp at h; omega), pure_bind]
    have := gather' m f hf rest (run ++ [p]) (by simp at h ⊢; omega)
    simpa using this
theorem display_star (sv : Sem Value) (pairs : List (Sem Value × Sem Value)) (h0 : pairs ≠ []) (hlen : pairs.length < 17) {Q : Value → Shared → Prop}
    (h : wpAny (model prog w) A sv (fun m s1 => wpAny (model prog w) A (mergeMapping s.heap.objs.size m false) (fun _ s2 => wpAny (model prog w) A (subDict pairs) (fun sub s3 => wpAny (model prog w) A (mergeMapping s.heap.objs.size (.ref sub) false) (fun _ s4 => Q (.ref s.heap.objs.size) s4) (fun _ _ => False) s3) E s2) (fun _ _ => False) s1) E { s with heap := s.heap.push { cls := .type "dict", data := .dict #[] } }) :
    wpAny (model prog w) A (dictDisplay ((none, sv) :: pairs.map fun p => (some p.1, p.2))) Q E s := by
  have no : ∀ {α : Type} {m : Sem α} {Q : α → Shared → Prop} {E' : Value → Shared → Prop} {s' : Shared}, wpAny (model prog w) A m Q (fun _ _ => False) s' → wpAny (model prog w) A m Q E' s' := fun h => wpAny_mono h (fun _ _ z => z) fun _ _ z => z.elim
  unfold dictDisplay
  dsimp only
  rw [List.forIn_cons]
  refine wpAny_bind (wpAny_bind ?_)
  simp only [List.isEmpty_nil, if_true, pure_bind]
  refine wpAny_bind (wpAny_alloc ?_)
  refine wpAny_bind (wpAny_holding (wpAny_mono h (fun m s1 h1 => ?_) fun _ _ e => e))
  refine wpAny_bind (wpAny_onRaise (wpAny_tryCatch (wpAny_onRaise (wpAny_holding (no (wpAny_mono h1 (fun _ s2 h2 => ?_) fun _ _ z => z))))))
  refine wpAny_pure ?_
  dsimp only
  rw [gather' (some s.heap.objs.size) _ (fun p run hr => by
    have hne : ((run ++ [(p.1, p.2)]).length == 17) = false := by simp; omega
    simp only [hne, Bool.false_eq_true, if_false]) pairs [] (by simpa using hlen)]
  refine wpAny_pure ?_
  dsimp only
  have he : (([] : List (Sem Value × Sem Value)) ++ pairs).isEmpty = false := by simp [h0]
  rw [List.nil_append] at he ⊢
  simp only [he, Bool.false_eq_true, if_false]
  refine wpAny_bind (wpAny_bind (wpAny_holding (wpAny_mono h2 (fun sub s3 h3 => ?_) fun _ _ e => e)))
  refine wpAny_bind (wpAny_onRaise (wpAny_holding (no (wpAny_mono h3 (fun _ s4 h4 => ?_) fun _ _ z => z))))
  exact wpAny_pure (wpAny_pure h4)
end
end Cr
namespace Cr
open PySem L2
section
variable {X : Cx}
/-! ## {**e, k: v, ..} -/
def tDispS (td : TE) (trs : List (TE × TE)) : TE := fun σ H Q => ∀ p, H p = none → td σ (upd H p (.dK [])) fun x H1 => ∃ a kvs, x = .ref a ∧ a ≠ p ∧ H1 p = some (.dK []) ∧ Rd H1 a (.dK kvs) ∧ kvs.length ≤ 1000 ∧
  ∀ q, upd H1 p (.dK (mergeK [] kvs)) q = none → tPairs trs σ (upd (upd H1 p (.dK (mergeK [] kvs))) q (.dK [])) fun ps H3 => q ≠ p ∧ H3 q = some (.dK []) ∧ ∃ kvs3 kvs2, H3 p = some (.dK kvs3) ∧ kvs3.length ≤ 1000 ∧ ps = kvs2.map (fun kv => (kV kv.1, kv.2)) ∧ kvs2.length ≤ 15 ∧
    Q (.ref p) (upd (upd H3 q (.dK (mergeK [] kvs2))) p (.dK (mergeK kvs3 (mergeK [] kvs2))))
theorem pe_dispS {pos : Pos} {e : Expr} {keys : List (Option Expr)} {values : List Expr} {td : TE} {trs : List (TE × TE)} (he : PE X e td) (h : PPs X pos keys values trs) (hall : keys.all (·.isSome) = true) (hl : keys.length = values.length) (h0 : keys ≠ [])
    (h15 : keys.length ≤ 15) : PE X (.Dict (none :: keys) (e :: values) pos) (tDispS td trs) := by
  refine ⟨fun pins s σ H Q I q => ?_⟩
  have hn := I.hok.fresh (Nat.le_refl s.heap.objs.size)
  have I1 := I.laid (a := s.heap.objs.size) (o := .dK []) (h' := s.heap.push { cls := .type "dict", data := .dict #[] }) (t' := s.toks) (fun _ _ q => Heap.get?_push_of_some _ q) (Nat.le_refl _) (dk_empty s.heap I.big)
  rw [arm_eval_Dict]
  refine wpAny_bind (wpAny_standAt ?_)
  have hz : (evalEachOpt (none :: keys) X.env).zip ((evalEach (e :: values) X.env).map fun v => do let x ← v; standAt pos; pure x) = (none, (do let x ← eval e X.env; standAt pos; pure x)) :: (pairTrees keys values X.env pos).map fun p => (some p.1, p.2) := by
    show (none, (do let x ← eval e X.env; standAt pos; pure x)) :: (evalEachOpt keys X.env).zip ((evalEach values X.env).map fun v => do let x ← v; standAt pos; pure x) = _
    rw [zip_pairTrees keys values X.env pos hall hl]
  rw [hz]
  have hpl := pairTrees_length keys values X.env pos hall hl
  refine display_star _ _ (fun z => h0 (List.length_eq_zero_iff.mp (by rw [← hpl, z]; rfl))) (by rw [hpl]; omega) ?_
  refine wpAny_bind (thn (he.run pins _ σ _ _ I1 (q _ hn)) fun m s1 ⟨x, H1, I2, rx, a, kvs, ex, nap, hp, ha, hk, q1⟩ => ?_)
  refine wpAny_bind (wpAny_standAt (wpAny_pure ?_))
  subst ex
  obtain rfl : m = Value.ref a := rx
  obtain ⟨_, hd, vs0, r0, dd⟩ := dk_of I2.hok hp
  cases r0
  obtain ⟨_, hda, vsa, ra, da⟩ := dk_rd I2.hok ha
  have lva : vsa.length = kvs.length := ra.length.symm
  refine merge_map (Ne.symm nap) hda dd da (fun h' d1 d2 sb => ?_) (by rw [lva, sizeLine_eq, List.length_nil]; omega)
  have hz1 : (mergeK [] kvs).length ≤ sizeLine := by
    have h1 := length_mergeK kvs []
    rw [List.length_nil] at h1
    rw [sizeLine_eq]; omega
  have I3 : Inv X pins σ (upd H1 s.heap.objs.size (.dK (mergeK [] kvs))) { s1 with heap := h' } := d_write (t' := s1.toks) I2 (by rw [hp]; exact True.intro) sb (let ⟨q, _, _, hq, _⟩ := d1; ⟨q, hq⟩) (dk_new hz1 hd (ra.merge .nil) d1)
  -- the second display
  have hn3 := I3.hok.fresh (Nat.le_refl h'.objs.size)
  have I4 := I3.laid (a := h'.objs.size) (o := .dK []) (h' := h'.push { cls := .type "dict", data := .dict #[] }) (t' := s1.toks) (fun _ _ q => Heap.get?_push_of_some _ q) (Nat.le_refl _) (dk_empty h' I3.big)
  refine wpAny_subDict (knd := mixKind X.prog X.w) (by rw [hpl]; exact h15) (thn (h.run pins _ σ _ _ I4 (q1 _ hn3)) fun ws s2 ⟨ps, H3, I5, rel, nqp, hq3, kvs3, kvs2, hp3, hz1', ep, lk, q2⟩ => ?_)
  subst ep
  obtain ⟨rs, c, rk⟩ := carries_of (P := X.prog) (w := X.w) rel
  obtain ⟨_, hdq, vs0, r0, ddq⟩ := dk_of I5.hok hq3
  cases r0
  refine ⟨rs, c, ddq, fun h'' dq' sb2 => ?_⟩
  have hz2 : (mergeK [] kvs2).length ≤ 15 := by
    have h1 := length_mergeK kvs2 []
    rw [List.length_nil] at h1
    omega
  have I6 : Inv X pins σ (upd H3 h'.objs.size (.dK (mergeK [] kvs2))) { s2 with heap := h'', toks := s2.toks + ws.length } := d_write I5 (by rw [hq3]; exact True.intro) sb2 (let ⟨q, _, _, hq, _⟩ := dq'; ⟨q, hq⟩) (dk_new (Nat.le_trans hz2 (by decide)) hdq (rk.merge .nil) dq')
  have hp6 : upd H3 h'.objs.size (.dK (mergeK [] kvs2)) s.heap.objs.size = some (.dK kvs3) := by rw [upd_ne (Ne.symm nqp)]; exact hp3
  obtain ⟨_, hdp, vsp, rp, ddp⟩ := dk_of I6.hok hp6
  obtain ⟨_, _, vsq, rq, ddq6⟩ := dk_of I6.hok (show upd H3 h'.objs.size (.dK (mergeK [] kvs2)) h'.objs.size = some (.dK (mergeK [] kvs2)) from upd_same)
  have lp : vsp.length = kvs3.length := rp.length.symm
  have lq : vsq.length = (mergeK [] kvs2).length := rq.length.symm
  refine merge_map (Ne.symm nqp) hdq ddp ddq6 (fun h3 d3 d4 sb3 => ?_) (by rw [lp, lq, sizeLine_eq]; omega)
  have hz3 : (mergeK kvs3 (mergeK [] kvs2)).length ≤ sizeLine := by
    have h1 := length_mergeK (mergeK [] kvs2) kvs3
    rw [sizeLine_eq]; omega
  exact ⟨.ref s.heap.objs.size, _, d_write I6 (by rw [hp6]; exact True.intro) sb3 (let ⟨q, _, _, hq, _⟩ := d3; ⟨q, hq⟩) (dk_new hz3 hdp (rq.merge rp) d3), rfl, q2⟩
/-! ## a subscript: a list, a tuple, a text, a dict -/
theorem ix_dict (hu : X.A.units + 1 < cLine) : IxR X rIxD := by
  intro value slice pins s σ H x y v u Q I rx ry h hs
  obtain ⟨a, z, rfl, g, q⟩ := h
  obtain rfl : v = Value.ref a := rx
  exact PyProof.Rows.tail_any (dict_typeIs I g) F.slot_dict_getitem.lookup (d_getItem hu I g ry fun w' s' I' rw' => ⟨z, H, I', rw', q⟩) hs
theorem ix_any (hu : X.A.units + 1 < cLine) : IxR X (rIxA X.K) := ix_seq.or (ix_dict hu)
def rIxB (K : PySem.W.Frag) (w : World) : R2 := fun x y H Q => rIxA K x y H Q ∨ L2.rIxD K w x y H Q
theorem ix_all (hu : X.A.units + 1 < cLine) : IxR X (rIxB X.K X.w) := (ix_any hu).or ix_kdict
/-! ## o.f as a target -/
def gFld (K : PySem.W.Frag) (ta : TE) (f : Str) : TG := fun y σ H Q => ta σ H fun x H2 => ∃ a C dx fs, x = .ref a ∧ H2 a = some (.ins C dx fs) ∧ Cls K C ∧ NoAttr K C f ∧ fs.length < 1000 ∧ Q σ (upd H2 a (.ins C dx (putF f y fs)))
theorem pg_fld {o : Expr} {f : Str} {pos : Pos} {ta : TE} (ha : PE X o ta) : PG X (.Attribute o f pos) (gFld X.K ta f) := by
  refine ⟨fun pins s σ H v u Q I r h => ?_⟩
  rw [arm_assign_Attribute]
  refine wpAny_bind (wpAny_holding (thn (ha.run pins s σ H _ I h) fun ov s2 ⟨x, H2, I2, rx, a, C, dx, fs, ex, ea, c, n, l, q2⟩ => ?_))
  subst ex
  obtain rfl : ov = Value.ref a := rx
  refine wpAny_bind (wpAny_standAt (wpAny_bind (wpAny_holding (setattr_ok I2 ea c n l r fun s3 I3 => ?_))))
  exact wpAny_release ⟨σ, _, I3, q2⟩
/-! ## for a, b in e.items(), the dict just made: it stays locked -/
def tLk (td : TE) : TE := fun σ H Q => td σ H fun x H1 => ∃ d kvs, x = .ref d ∧ H1 d = some (.dK kvs) ∧ ∀ o, Q x (upd H1 d (.frz o (.dK kvs)))
theorem pe_lk {e : Expr} {td : TE} (he : PE X e td) : PE X e (tLk td) := by
  refine ⟨fun pins s σ H Q I h => thn (he.run pins s σ H _ I h) fun v s1 ⟨x, H1, I1, rx, d, kvs, ex, hd, q⟩ => ?_⟩
  obtain ⟨od, I2⟩ := I1.lock hd True.intro
  exact ⟨x, _, I2, rx, q od⟩
/-! ## d.update(e), both dicts -/
def rUpdD : V → List V → Hp → VK → Prop := fun x vs H Q => ∃ d a kvs more, x = .ref d ∧ vs = [.ref a] ∧ d ≠ a ∧ H d = some (.dK kvs) ∧ Rd H a (.dK more) ∧ kvs.length + more.length ≤ sizeLine ∧ Q .non (upd H d (.dK (mergeK kvs more)))
theorem mt_update : MtR X "dict.update" rUpdD := by
  intro pins s σ H x xs v us Q I rx rs h
  obtain ⟨d, a, kvs, more, rfl, rfl, ne, hd, ha, hz, q⟩ := h
  obtain rfl : v = Value.ref d := rx
  obtain rfl : us = [Value.ref a] := Vals.ref1 rs
  obtain ⟨_, hdd, vs, rv, dd⟩ := dk_of I.hok hd
  obtain ⟨_, hda, ws, rw', da⟩ := dk_rd I.hok ha
  have e1 := rv.length
  have e2 := rw'.length
  refine call_meetsIn F.slot_dict_update dd.typeIs F.entry_dict_update (F.args_dict_update_2 _ _) (meets_dict_update (mixKind X.prog X.w) d a ne hda) ⟨vs, ws, dd, da, by omega, fun h' d1 d2 sb => ?_⟩
  have hz' : (mergeK kvs more).length ≤ sizeLine := by
    have h1 := length_mergeK more kvs
    omega
  exact ⟨.non, _, d_write (t' := s.toks) I (by rw [hd]; exact True.intro) sb (let ⟨q, _, _, hq, _⟩ := d1; ⟨q, hq⟩) (dk_new hz' hdd (rw'.merge rv) d1), rfl, q⟩
end
end Cr
namespace Cr
open PySem L2
section
variable {K : PySem.W.Frag} {E : XK} {Ξ : Xn → Sta → Prop} {δ : Sta} {ta tb te tx : TE} {Ψ : SV → Sta → Prop} {Φ : Post} {tr : TA}
/-! ## fields -/
theorem we_fld {f : Str} (h : WE K E ta (fun s δ1 => ∃ C fs d, imS δ1.ce s = some (.ins C fs) ∧ Cls K C ∧ NoAttr K C f ∧ fs.lookup f = some d ∧ Ψ (.im d) δ1) Ξ δ) : WE K E (tFld K ta f) Ψ Ξ δ := fun σ F I as H Q r c =>
  h σ F I as H _ r ⟨fun s δ1 v I1 as1 H1 r1 l1 rv k => by
    obtain ⟨C, fs, d, e, hc, hn, hf, k⟩ := k
    obtain ⟨a, dx, ws, rfl, ha, ra⟩ := r1.imS e rv
    obtain ⟨u, q1, q2⟩ := ra.look hf
    exact ⟨a, C, dx, ws, u, rfl, r1.ih _ _ ha, hc, hn, q1, c.v (.im d) δ1 u I1 as1 H1 r1 l1 q2 k⟩, c.x⟩
theorem RVF.look {I : Hp} {as : List Addr} : ∀ {d : List (Str × SV)} {v : List (Str × V)} {f : Str} {x : SV}, RVF K I as d v → d.lookup f = some x → ∃ u, v.lookup f = some u ∧ RV K I as x u
  | [], _, f, x, h, e => by simp at e
  | (k, d) :: ds, _, f, x, ⟨v, r, h1, h2, h3⟩, e => by
    subst h1
    by_cases hk : f == k
    · simp only [List.lookup_cons, hk] at e ⊢
      cases e; exact ⟨v, rfl, h2⟩
    · simp only [List.lookup_cons, hk] at e ⊢
      exact RVF.look h3 e
theorem we_fldC {f : Str} (h : WE K E ta (fun s δ1 => ∃ c C fs t, s = .cl c ∧ δ1.ce[c]? = some (.ins C fs) ∧ Cls K C ∧ NoAttr K C f ∧ fs.lookup f = some t ∧ Ψ t δ1) Ξ δ) : WE K E (tFld K ta f) Ψ Ξ δ := fun σ F I as H Q r c =>
  h σ F I as H _ r ⟨fun s δ1 v I1 as1 H1 r1 l1 rv k => by
    obtain ⟨c0, C, fs, t, rfl, e, hc, hn, hf, k⟩ := k
    obtain ⟨a, ha, rfl⟩ := rv
    obtain ⟨_, dx, ws, hh, ra⟩ := r1.cells c0 _ a e ha
    obtain ⟨u, q1, q2⟩ := ra.look hf
    exact ⟨a, C, dx, ws, u, rfl, hh, hc, hn, q1, c.v t δ1 u I1 as1 H1 r1 l1 q2 k⟩, c.x⟩
def putFS (f : Str) (v : SV) : List (Str × SV) → List (Str × SV)
  | [] => [(f, v)]
  | (g, x) :: r => if g = f then (g, v) :: r else (g, x) :: putFS f v r
theorem RVF.put {I : Hp} {as : List Addr} {f : Str} {s : SV} {v : V} (hv : RV K I as s v) : ∀ {d : List (Str × SV)} {w : List (Str × V)}, RVF K I as d w → RVF K I as (putFS f s d) (putF f v w)
  | [], w, h => by rw [show w = [] from h]; exact ⟨v, [], rfl, hv, rfl⟩
  | (k, d) :: ds, _, ⟨u, r, h1, h2, h3⟩ => by
    subst h1
    by_cases hk : k = f
    · show RVF K I as (if k = f then _ else _) (if k = f then _ else _)
      rw [if_pos hk, if_pos hk]
      exact ⟨v, r, rfl, hv, h3⟩
    · show RVF K I as (if k = f then _ else _) (if k = f then _ else _)
      rw [if_neg hk, if_neg hk]
      exact ⟨u, _, rfl, h2, RVF.put hv h3⟩
theorem RVF.length {I : Hp} {as : List Addr} : ∀ {d : List (Str × SV)} {v : List (Str × V)}, RVF K I as d v → v.length = d.length
  | [], _, h => by rw [show _ = [] from h]; rfl
  | (_, d) :: ds, _, ⟨v, r, h1, h2, h3⟩ => by rw [h1]; simp [RVF.length h3]
/-- o.f = s, o a cell in the slot i -/
theorem wg_fld {f : Str} {i c : Nat} {C : Addr} {fs : List (Str × SV)} {s : SV} {Φ' : Sta → Prop} (h : δ.sl[i]? = some (.cl c)) (e : δ.ce[c]? = some (.ins C fs)) (hc : Cls K C) (hn : NoAttr K C f) (hl : fs.length < 1000)
    (k : Φ' { δ with ce := δ.ce.set c (.ins C (putFS f s fs)) }) : WG K (gFld K (tVar i) f) s Φ' δ := fun σ F I as H v Q r rv cc => by
  rcases r.slots i _ h with z | ⟨w, h1, a, ha, rfl⟩
  · cases z
  obtain ⟨hn0, dx, ws, hh, ra⟩ := r.cells c _ a e ha
  refine ⟨.ref a, h1, a, C, dx, ws, rfl, hh, hc, hn, by rw [ra.length]; exact hl, ?_⟩
  exact cc _ _ I as _ (r.setC (co := .ins C (putFS f s fs)) e rfl ha ⟨hn0, dx, _, upd_same, ra.put rv⟩ rfl) (Le.refl I as) k
/-! ## lists in cells -/
theorem RVL.set {I : Hp} {as : List Addr} {s : SV} {v : V} (hv : RV K I as s v) : ∀ {d : List SV} {w : List V} (j : Nat), RVL K I as d w → RVL K I as (d.set j s) (w.set j v)
  | [], w, j, h => by rw [show w = [] from h]; cases j <;> rfl
  | d :: ds, _, 0, ⟨u, r, h1, h2, h3⟩ => by subst h1; exact ⟨v, r, rfl, hv, h3⟩
  | d :: ds, _, j + 1, ⟨u, r, h1, h2, h3⟩ => by subst h1; exact ⟨u, _, rfl, h2, RVL.set hv j h3⟩
theorem wg_setL {s : SV} {Φ' : Sta → Prop} (h : WE K E0 ta (fun o δ1 => WE K E0 tb (fun i δ2 => ∃ c xs k j, o = .cl c ∧ δ2.ce[c]? = some (.lst xs) ∧ dv δ2.ce i = some (.int k) ∧ ixN xs.length k = some j ∧ Φ' { δ2 with ce := δ2.ce.set c (.lst (xs.set j s)) }) (fun _ _ => False) δ1) (fun _ _ => False) δ) : WG K (gSub ta tb rSetL) s Φ' δ := fun σ F I as H v Q r rv cc =>
  h σ F I as H _ r ⟨fun o δ1 v1 I1 as1 H1 r1 l1 rv1 k1 => k1 σ F I1 as1 H1 _ r1 ⟨fun i δ2 v2 I2 as2 H2 r2 l2 rv2 k2 => by
    obtain ⟨c, xs, k, j, rfl, e, ei, hj, k2⟩ := k2
    obtain ⟨a, ha, rfl⟩ := rv1.mono l2
    obtain ⟨hn0, ws, hh, ra⟩ := r2.cells c _ a e ha
    refine ⟨a, ws, k, j, rfl, r2.dv ei rv2, hh, by rw [ra.length]; exact hj, ?_⟩
    exact cc _ _ I2 as2 _ (r2.setC (co := .lst (xs.set j s)) e rfl ha ⟨hn0, _, upd_same, ra.set (rv.mono (l1.trans l2)) j⟩ rfl) (l1.trans l2) k2, fun _ _ _ _ _ _ _ _ _ z => z.elim⟩, fun _ _ _ _ _ _ _ _ _ z => z.elim⟩
/-! ## dicts -/
def putS (kvs : List (Key × SV)) (k : Key) (v : SV) : List (Key × SV) :=
  if (kvs.any fun kv => decide (kv.1 = k)) = true then kvs.map (fun kv => if kv.1 = k then (kv.1, v) else kv) else kvs ++ [(k, v)]
theorem RVK.put {I : Hp} {as : List Addr} {k : Key} {s : SV} {v : V} (hv : RV K I as s v) {d : List (Key × SV)} {w : List (Key × V)} (h : RVK K I as d w) : RVK K I as (putS d k s) (putK w k v) := by
  have hany : ∀ {d : List (Key × SV)} {w : List (Key × V)}, RVK K I as d w → (d.any fun kv => decide (kv.1 = k)) = (w.any fun kv => decide (kv.1 = k)) := fun {d} => by
    induction d with
    | nil => intro w h; rw [show w = [] from h]; rfl
    | cons p ds ih => intro w h; obtain ⟨j, x⟩ := p; obtain ⟨u, r, h1, h2, h3⟩ := h; subst h1; simp only [List.any_cons, ih h3]
  have hmap : ∀ {d : List (Key × SV)} {w : List (Key × V)}, RVK K I as d w → RVK K I as (d.map fun kv => if kv.1 = k then (kv.1, s) else kv) (w.map fun kv => if kv.1 = k then (kv.1, v) else kv) := fun {d} => by
    induction d with
    | nil => intro w h; rw [show w = [] from h]; rfl
    | cons p ds ih =>
      intro w h; obtain ⟨j, x⟩ := p; obtain ⟨u, r, h1, h2, h3⟩ := h; subst h1
      simp only [List.map_cons]
      by_cases hj : j = k
      · rw [if_pos hj, if_pos hj]; exact ⟨v, _, rfl, hv, ih h3⟩
      · rw [if_neg hj, if_neg hj]; exact ⟨u, _, rfl, h2, ih h3⟩
  have happ : ∀ {d : List (Key × SV)} {w : List (Key × V)}, RVK K I as d w → RVK K I as (d ++ [(k, s)]) (w ++ [(k, v)]) := fun {d} => by
    induction d with
    | nil => intro w h; rw [show w = [] from h]; exact ⟨v, [], rfl, hv, rfl⟩
    | cons p ds ih => intro w h; obtain ⟨j, x⟩ := p; obtain ⟨u, r, h1, h2, h3⟩ := h; subst h1; exact ⟨u, _, rfl, h2, ih h3⟩
  unfold putS putK
  rw [hany h]
  by_cases q : (w.any fun kv => decide (kv.1 = k)) = true
  · rw [if_pos q, if_pos q]; exact hmap h
  · rw [if_neg q, if_neg q]; exact happ h
def mergeS (kvs more : List (Key × SV)) : List (Key × SV) := more.foldl (fun acc kv => putS acc kv.1 kv.2) kvs
theorem RVK.merge {I : Hp} {as : List Addr} : ∀ {m : List (Key × SV)} {mv : List (Key × V)} {d : List (Key × SV)} {w : List (Key × V)}, RVK K I as m mv → RVK K I as d w → RVK K I as (mergeS d m) (mergeK w mv)
  | [], mv, d, w, h, h' => by rw [show mv = [] from h]; exact h'
  | (k, s) :: ms, _, d, w, ⟨v, r, h1, h2, h3⟩, h' => by
    subst h1
    show RVK K I as (mergeS (putS d k s) ms) (mergeK (putK w k v) r)
    exact RVK.merge h3 (h'.put h2)
theorem RVK.length {I : Hp} {as : List Addr} : ∀ {d : List (Key × SV)} {v : List (Key × V)}, RVK K I as d v → v.length = d.length
  | [], _, h => by rw [show _ = [] from h]; rfl
  | (_, d) :: ds, _, ⟨v, r, h1, h2, h3⟩ => by rw [h1]; simp [RVK.length h3]
theorem rvk_im {I : Hp} {as : List Addr} : ∀ {ds : List (Key × D)} {ws : List (Key × V)}, RepK K I ds ws → RVK K I as (ds.map fun p => (p.1, SV.im p.2)) ws
  | [], _, h => h
  | (k, d) :: ds, _, ⟨v, r, e, h1, h2⟩ => ⟨v, r, e, h1, rvk_im h2⟩
/-- d[k] = s -/
theorem ws_dput {td ty tv : TE} (h : WE K E tv (fun s δ1 => WE K E td (fun o δ2 => WE K E ty (fun y δ3 => ∃ c kvs kd kk, o = .cl c ∧ δ3.ce[c]? = some (.dic kvs) ∧ dv δ3.ce y = some kd ∧ keyOf kd = some kk ∧ kvs.length < 1000 ∧ Φ.nx { δ3 with ce := δ3.ce.set c (.dic (putS kvs kk s)) }) Φ.ex δ2) Φ.ex δ1) Φ.ex δ) : WS K E (sDPut td ty tv) Φ δ := fun σ F I as H D r c =>
  have cx : ∀ {I1 : Hp} {as1 : List Addr}, Le I as I1 as1 → ∀ (x : Xn) δ' d I' as' H', R K δ' σ F I' as' H' → Le I1 as1 I' as' → (∃ fs, H' d = some (.xd fs) ∧ RVF K I' as' x.fs fs) → Φ.ex x δ' → E x.cls (some d) H' := fun l x δ' d I' as' H' r' l' z k => c.x x δ' σ d I' as' H' r' (l.trans l') z k
  h σ F I as H _ r ⟨fun s δ1 v1 I1 as1 H1 r1 l1 rv1 k1 => k1 σ F I1 as1 H1 _ r1 ⟨fun o δ2 v2 I2 as2 H2 r2 l2 rv2 k2 => k2 σ F I2 as2 H2 _ r2 ⟨fun y δ3 v3 I3 as3 H3 r3 l3 rv3 k3 => by
    obtain ⟨c0, kvs, kd, kk, rfl, e, ek, hk, hl, k3⟩ := k3
    obtain ⟨a, ha, rfl⟩ := rv2.mono l3
    obtain ⟨hn0, ws, hh, ra⟩ := r3.cells c0 _ a e ha
    have ev : v3 = kV kk := rep_key hk (r3.dv ek rv3)
    subst ev
    refine ⟨a, _, rfl, DPut.k hh (by rw [ra.length]; exact Nat.lt_of_lt_of_le hl (by decide)), ?_⟩
    exact c.nx _ _ I3 as3 _ (r3.setC (co := .dic (putS kvs kk s)) e rfl ha ⟨hn0, _, upd_same, ra.put (rv1.mono (l2.trans l3))⟩ rfl) ((l1.trans l2).trans l3) k3, cx (l1.trans l2)⟩, cx l1⟩, cx (Le.refl I as)⟩
/-! displays -/
def WPs (K : PySem.W.Frag) (E : XK) : List (TE × TE) → (List (Key × SV) → Sta → Prop) → (Xn → Sta → Prop) → Sta → Prop
  | [], Ψ, _, δ => Ψ [] δ
  | (tk, tv) :: r, Ψ, Ξ, δ => WE K E tk (fun s δ1 => WE K E tv (fun t δ2 => WPs K E r (fun ps δ3 => ∃ kd kk, imS δ3.ce s = some kd ∧ keyOf kd = some kk ∧ Ψ ((kk, t) :: ps) δ3) Ξ δ2) Ξ δ1) Ξ δ
theorem wps_run : ∀ {trs : List (TE × TE)} {Ψ : List (Key × SV) → Sta → Prop} {δ : Sta} {σ : L2.St} {F : Frm} {I : Hp} {as : List Addr} {H : Hp} {Q : List (V × V) → Hp → Prop}, WPs K E trs Ψ Ξ δ → R K δ σ F I as H →
    (∀ ps δ' vs I' as' H', R K δ' σ F I' as' H' → Le I as I' as' → RVK K I' as' ps vs → Ψ ps δ' → Q (vs.map fun kv => (kV kv.1, kv.2)) H') →
    (∀ (x : Xn) δ' d I' as' H', R K δ' σ F I' as' H' → Le I as I' as' → (∃ fs, H' d = some (.xd fs) ∧ RVF K I' as' x.fs fs) → Ξ x δ' → E x.cls (some d) H') → tPairs trs σ H Q
  | [], Ψ, δ, σ, F, I, as, H, Q, h, r, c, x => c [] δ [] I as H r (Le.refl I as) rfl h
  | (tk, tv) :: trs, Ψ, δ, σ, F, I, as, H, Q, h, r, c, x => h σ F I as H _ r ⟨fun s δ1 v1 I1 as1 H1 r1 l1 rv1 k1 => k1 σ F I1 as1 H1 _ r1 ⟨fun t δ2 v2 I2 as2 H2 r2 l2 rv2 k2 =>
      wps_run k2 r2 (fun ps δ3 vs I3 as3 H3 r3 l3 rv3 k3 => by
        obtain ⟨kd, kk, e1, e2, k3⟩ := k3
        have ev : v1 = kV kk := rep_key e2 (r3.imS e1 (rv1.mono (l2.trans l3)))
        subst ev
        exact c ((kk, t) :: ps) δ3 ((kk, v2) :: vs) I3 as3 H3 r3 ((l1.trans l2).trans l3) ⟨v2, vs, rfl, rv2.mono l3, rv3⟩ k3)
        (fun y δ' d I' as' H' r' l' z q => x y δ' d I' as' H' r' ((l1.trans l2).trans l') z q),
      fun y δ' d I' as' H' r' l' z q => x y δ' d I' as' H' r' (l1.trans l') z q⟩, x⟩
theorem we_disp {trs : List (TE × TE)} (h : WPs K E trs (fun ps δ1 => ps.length ≤ 15 ∧ δ1.ce[δ.ce.length]? = some (.dic []) ∧ Ψ (.cl δ.ce.length) { δ1 with ce := δ1.ce.set δ.ce.length (.dic (mergeS [] ps)) }) Ξ { δ with ce := δ.ce ++ [.dic []] }) : WE K E (tDisp trs) Ψ Ξ δ := fun σ F I as H Q r c => by
  intro p hp
  have hn := none_back r.ih hp
  obtain ⟨r1, l1⟩ := r.newC (o := .dK []) (co := .dic []) hp ⟨hn, [], upd_same, rfl⟩ rfl
  refine wps_run h r1 (fun ps δ' vs I' as' H' r' l' rv k => ?_) fun x δ' d I' as' H' r' l' z q => c.x x δ' d I' as' H' r' (l1.trans l') z q
  obtain ⟨hl, e, k⟩ := k
  have ha : as'[δ.ce.length]? = some p := l'.a _ _ (by rw [← r.clen]; simp)
  obtain ⟨hn0, ws, hh, ra⟩ := r'.cells _ _ p e ha
  have : ws = [] := ra
  subst this
  refine ⟨hh, vs, rfl, by rw [rv.length]; exact hl, ?_⟩
  exact c.v (.cl δ.ce.length) _ _ I' as' _ (r'.setC (co := .dic (mergeS [] ps)) e rfl ha ⟨hn0, _, upd_same, rv.merge (d := []) (w := []) rfl⟩ rfl) (l1.trans l') ⟨p, ha, rfl⟩ k
theorem R.dvK {σ : L2.St} {F : Frm} {I : Hp} {as : List Addr} {H : Hp} (r : R K δ σ F I as H) {s : SV} {v : V} {kds : List (Key × D)} (e : Cr.dv δ.ce s = some (.dic kds)) (h : RV K I as s v) : ∃ a kvs, v = .ref a ∧ Rd H a (.dK kvs) ∧ RepK K I kds kvs := by
  cases s with
  | no => cases e
  | im d =>
    cases e
    obtain ⟨a, kvs, rfl, ha, ra⟩ := (show Rep K I (.dic kds) v from h)
    exact ⟨a, kvs, rfl, same_rd r.ih ha, ra⟩
  | cl c =>
    obtain ⟨a, ha, rfl⟩ := h
    cases q : δ.ce[c]? with
    | none => simp only [Cr.dv] at e; rw [q] at e; cases e
    | some o =>
      have z := r.cells c o a q ha
      simp only [Cr.dv] at e
      rw [q] at e
      cases o with
      | fz d =>
        cases e
        obtain ⟨a', kvs, e', ha', ra⟩ := (show Rep K I (.dic kds) (.ref a) from z)
        cases e'
        exact ⟨a, kvs, rfl, same_rd r.ih ha', ra⟩
      | dead => cases e
      | lst xs => simp only [Option.map_eq_some_iff] at e; obtain ⟨_, _, e⟩ := e; cases e
      | ins C xs => simp only [Option.map_eq_some_iff] at e; obtain ⟨_, _, e⟩ := e; cases e
      | dic kvs =>
        simp only [Option.map_eq_some_iff] at e
        obtain ⟨ds, e1, e2⟩ := e
        cases e2
        obtain ⟨_, vs, hh, rr⟩ := z
        exact ⟨a, vs, rfl, .inl hh, r.imK e1 rr⟩
theorem RepK.length {I : Hp} : ∀ {d : List (Key × D)} {v : List (Key × V)}, RepK K I d v → v.length = d.length
  | [], _, h => by rw [show _ = [] from h]; rfl
  | (_, d) :: ds, _, ⟨v, r, h1, h2, h3⟩ => by rw [h1]; simp [RepK.length h3]
/-- {**e, k: v, ..}, e a dict in a cell or data -/
theorem we_dispS {td : TE} {trs : List (TE × TE)} (h : WE K E td (fun s δ1 => ∃ kds, dv δ1.ce s = some (.dic kds) ∧ (∀ c, s = .cl c → c ≠ δ.ce.length) ∧ δ1.ce[δ.ce.length]? = some (.dic []) ∧ kds.length ≤ 1000 ∧
    WPs K E trs (fun ps δ2 => ps.length ≤ 15 ∧ δ2.ce[δ.ce.length]? = some (.dic (mergeS [] (kds.map fun p => (p.1, .im p.2)))) ∧ δ2.ce[δ1.ce.length]? = some (.dic []) ∧
      Ψ (.cl δ.ce.length) { δ2 with ce := (δ2.ce.set δ1.ce.length (.dic (mergeS [] ps))).set δ.ce.length (.dic (mergeS (mergeS [] (kds.map fun p => (p.1, .im p.2))) (mergeS [] ps))) }) Ξ
      { δ1 with ce := δ1.ce.set δ.ce.length (.dic (mergeS [] (kds.map fun p => (p.1, .im p.2)))) ++ [.dic []] }) Ξ { δ with ce := δ.ce ++ [.dic []] }) : WE K E (tDispS td trs) Ψ Ξ δ := by
  intro σ F I as H Q r c p hp
  have hn := none_back r.ih hp
  obtain ⟨r1, l1⟩ := r.newC (o := .dK []) (co := .dic []) hp ⟨hn, [], upd_same, rfl⟩ rfl
  have c1 := c.later l1
  refine h σ F I (as ++ [p]) _ _ r1 ⟨fun s δ1 v I1 as1 H1 r2 l2 rv k => ?_, c1.x⟩
  obtain ⟨kds, ed, hne, e0, hk, k⟩ := k
  obtain ⟨a, kvs, rfl, ha, ra⟩ := r2.dvK ed rv
  have hap : as1[δ.ce.length]? = some p := l2.a _ _ (by rw [← r.clen]; simp)
  obtain ⟨hn0, ws, hh, rr⟩ := r2.cells _ _ p e0 hap
  have : ws = [] := rr
  subst this
  have nap : a ≠ p := by
    rintro rfl
    cases s with
    | no => cases ed
    | im d =>
      cases ed
      obtain ⟨b, kv', eb, hb, _⟩ := (show Rep K I1 (.dic kds) (.ref a) from rv)
      cases eb
      rcases hb with hb | ⟨o, hb⟩ <;> (rw [hn0] at hb; cases hb)
    | cl cc =>
      obtain ⟨b, hb, eb⟩ := rv
      cases eb
      cases q : δ1.ce[cc]? with
      | none => simp only [Cr.dv] at ed; rw [q] at ed; cases ed
      | some o =>
        cases o with
        | dic kv' => exact hne cc rfl (r2.inj cc δ.ce.length _ _ a q e0 rfl rfl hb hap)
        | fz d =>
          have z := r2.cells cc _ a q hb
          simp only [Cr.dv] at ed
          rw [q] at ed
          cases ed
          obtain ⟨b', kv', eb, hb', _⟩ := (show Rep K I1 (.dic kds) (.ref a) from z)
          cases eb
          rcases hb' with hb' | ⟨o, hb'⟩ <;> (rw [hn0] at hb'; cases hb')
        | dead => simp only [Cr.dv] at ed; rw [q] at ed; cases ed
        | lst xs => simp only [Cr.dv] at ed; rw [q] at ed; simp only [Option.map_eq_some_iff] at ed; obtain ⟨_, _, ed⟩ := ed; cases ed
        | ins C xs => simp only [Cr.dv] at ed; rw [q] at ed; simp only [Option.map_eq_some_iff] at ed; obtain ⟨_, _, ed⟩ := ed; cases ed
  refine ⟨a, kvs, rfl, nap, hh, ha, by rw [ra.length]; exact hk, fun q hq => ?_⟩
  have r3 := r2.setC (co := .dic (mergeS [] (kds.map fun p => (p.1, SV.im p.2)))) (u := .dK (mergeK [] kvs)) e0 rfl hap ⟨hn0, _, upd_same, (rvk_im ra).merge (d := []) (w := []) rfl⟩ rfl
  have hnq := none_back r3.ih hq
  obtain ⟨r4, l4⟩ := r3.newC (o := .dK []) (co := .dic []) hq ⟨hnq, [], upd_same, rfl⟩ rfl
  have c4 := (c1.later l2).later l4
  refine wps_run k r4 (fun ps δ2 vs I5 as5 H5 r5 l5 rv5 k5 => ?_) c4.x
  obtain ⟨hl, e5, e6, k5⟩ := k5
  have hp5 : as5[δ.ce.length]? = some p := l5.a _ _ (l4.a _ _ hap)
  have hq5 : as5[δ1.ce.length]? = some q := l5.a _ _ (by rw [← r2.clen]; simp)
  obtain ⟨hnp5, wp5, hhp5, rp5⟩ := r5.cells _ _ p e5 hp5
  obtain ⟨hnq5, wq5, hhq5, rq5⟩ := r5.cells _ _ q e6 hq5
  have : wq5 = [] := rq5
  subst this
  have nqp : q ≠ p := by
    rintro rfl
    have := r5.inj _ _ _ _ q e5 e6 rfl rfl hp5 hq5
    have hlt : δ.ce.length < δ1.ce.length := (List.getElem?_eq_some_iff.mp e0).1
    omega
  have lmS : ∀ (more kv : List (Key × SV)), (mergeS kv more).length ≤ kv.length + more.length := by
    intro more
    induction more with
    | nil => intro kv; simp [mergeS]
    | cons x xs ih =>
      intro kv
      have h1 := ih (putS kv x.1 x.2)
      have h2 : (putS kv x.1 x.2).length ≤ kv.length + 1 := by
        unfold putS
        split
        · simp
        · simp
      show (mergeS (putS kv x.1 x.2) xs).length ≤ _
      simp only [List.length_cons]
      omega
  have hwl : wp5.length ≤ 1000 := by
    rw [rp5.length]
    have := lmS (kds.map fun p => (p.1, SV.im p.2)) []
    simp only [List.length_map, List.length_nil] at this
    omega
  refine ⟨nqp, hhq5, wp5, vs, hhp5, hwl, rfl, by rw [rv5.length]; exact hl, ?_⟩
  have r6 := r5.setC (co := .dic (mergeS [] ps)) (u := .dK (mergeK [] vs)) e6 rfl hq5 ⟨hnq5, _, upd_same, rv5.merge (d := []) (w := []) rfl⟩ rfl
  have ne : δ1.ce.length ≠ δ.ce.length := by
    have hlt : δ.ce.length < δ1.ce.length := (List.getElem?_eq_some_iff.mp e0).1
    omega
  have r7 := r6.setC (c := δ.ce.length) (co := .dic (mergeS (mergeS [] (kds.map fun p => (p.1, SV.im p.2))) (mergeS [] ps))) (u := .dK (mergeK wp5 (mergeK [] vs))) (by show (δ2.ce.set δ1.ce.length _)[δ.ce.length]? = _; rw [List.getElem?_set_ne ne]; exact e5) rfl hp5 ⟨hnp5, _, upd_same, (rv5.merge (d := []) (w := []) rfl).merge rp5⟩ rfl
  exact c4.v (.cl δ.ce.length) _ _ I5 as5 _ r7 l5 ⟨p, hp5, rfl⟩ k5
end
end Cr
namespace Cr
open PySem L2
section
variable {K : PySem.W.Frag} {E : XK} {Ξ : Xn → Sta → Prop} {δ : Sta} {ta tb te tx : TE} {Ψ : SV → Sta → Prop} {Φ : Post} {tr : TA}
theorem R.reslot {sl : List SV} {ce : List CO} {σ σ' : L2.St} {F : Frm} {I I' : Hp} {as as' : List Addr} {H H' : Hp} (r' : R K ⟨sl, ce⟩ σ' F I' as' H') (r : R K δ σ F I as H) (l : Le I as I' as') : R K ⟨δ.sl, ce⟩ σ F I' as' H' :=
  ⟨r'.fh, r'.nf, r'.cf, r'.ih, r.len, fun i s h => by
    rcases r.slots i s h with z | ⟨v, z1, z2⟩
    · exact .inl z
    · exact .inr ⟨v, z1, z2.mono l⟩, r'.clen, r'.cells, r'.inj⟩
theorem R.slBnd {σ : L2.St} {F : Frm} {I : Hp} {as : List Addr} {H : Hp} (r : R K δ σ F I as H) : δ.sl.map (cutS δ.ce.length) = δ.sl := by
  have h : ∀ s ∈ δ.sl, cutS δ.ce.length s = s := fun s hs => by
    obtain ⟨i, hi⟩ := List.getElem?_of_mem hs
    rcases r.slots i s hi with q | ⟨v, _, q⟩
    · subst q; rfl
    · have := q.bnd
      rw [r.clen] at this
      cases s with
      | no => rfl
      | im d => rfl
      | cl c => exact if_pos (of_decide_eq_true (show decide (c < δ.ce.length) = true from this))
  rw [List.map_congr_left (g := id) h, List.map_id]
/-- several cells at the end dropped -/
theorem R.dropN {σ : L2.St} {F : Frm} {I I' : Hp} {as as' : List Addr} {H H' : Hp} {ce more : List CO} (r0 : R K δ σ F I as H) (hl : ce.length = δ.ce.length) (hb : ce.all (CO.bnd ce.length) = true) (r : R K ⟨δ.sl, ce ++ more⟩ σ F I' as' H') : R K ⟨δ.sl, ce⟩ σ F I' (as'.take ce.length) H' := by
  have e1 : (ce ++ more).take ce.length = ce := by rw [List.take_append_of_le_length (Nat.le_refl _), List.take_length]
  have z := R.cut (k := ce.length) r (by show ((ce ++ more).take ce.length).all _ = true; rw [e1]; exact hb)
  have e : Sta.cut ce.length ⟨δ.sl, ce ++ more⟩ = ⟨δ.sl, ce⟩ := by
    show (⟨δ.sl.map (cutS ce.length), (ce ++ more).take ce.length⟩ : Sta) = _
    rw [e1, hl, r0.slBnd]
  rw [e] at z; exact z
theorem RVL.snoc {I : Hp} {as : List Addr} {s : SV} {v : V} (hv : RV K I as s v) : ∀ {d : List SV} {w : List V}, RVL K I as d w → RVL K I as (d ++ [s]) (w ++ [v])
  | [], w, h => by rw [show w = [] from h]; exact ⟨v, [], rfl, hv, rfl⟩
  | d :: ds, _, ⟨u, r, h1, h2, h3⟩ => by subst h1; exact ⟨u, _, rfl, h2, h3.snoc hv⟩
theorem imL_map {ce : List CO} : ∀ ds : List D, imL ce (ds.map SV.im) = some ds
  | [] => rfl
  | d :: ds => by simp only [List.map_cons, imL, imS, imL_map ds]
/-! ## [e for x in .. if t] -/
theorem we_lc1 {wi : TI} {j : Nat} {tt : TT} (h : WI K E wi (fun ds δ1 => ∃ P : Nat → List D → List CO → Prop, P 0 [] δ1.ce ∧ ds.length ≤ 100000 ∧
    (∀ i d acc ce', ds[i]? = some d → P i acc ce' → ce'.length = δ1.ce.length →
      WT K E0 tt (fun b δ2 => (b = true → WE K E0 te (fun s δ3 => ∃ y ce3, imS δ3.ce s = some y ∧ δ3.ce = ce3 ++ [.lst (acc.map SV.im)] ∧ ce3.length = δ1.ce.length ∧ P (i + 1) (acc ++ [y]) ce3) (fun _ _ => False) δ2) ∧
        (b = false → ∃ ce3, δ2.ce = ce3 ++ [.lst (acc.map SV.im)] ∧ ce3.length = δ1.ce.length ∧ P (i + 1) acc ce3)) (fun _ _ => False) ⟨δ1.sl.set j (.im d), ce' ++ [.lst (acc.map SV.im)]⟩) ∧
    (∀ acc ce', P ds.length acc ce' → ce'.length = δ1.ce.length → ce'.all (CO.bnd δ1.ce.length) = true ∧ Ψ (.im (.lst acc)) ⟨δ1.sl, ce'⟩)) Ξ δ) : WE K E (tLc wi (gName j) tt te [j]) Ψ Ξ δ := by
  intro σ F I as H Q r c
  refine h σ F I as H _ r ⟨fun ds δ1 J I1 as1 H1 r1 l1 w k => ?_, c.x⟩
  obtain ⟨P, p0, hds, pt, pe⟩ := k
  intro D hD
  have hn := none_back r1.ih hD
  obtain ⟨r2, l2⟩ := r1.newC (o := .lst []) (co := .lst []) hD ⟨hn, [], upd_same, rfl⟩ rfl
  have c1 := c.later l1
  have wp : ∀ {σ' : L2.St} {sl : List SV} {ce : List CO} {I' : Hp} {as' : List Addr} {H' : Hp}, R K ⟨δ1.sl, ce⟩ σ F I' as' H' → R K ⟨δ1.sl.set j .no, ce⟩ (wipe σ [j]) F I' as' H' := fun {σ' sl ce I' as' H'} r => by
    refine ⟨r.fh, r.nf, r.cf, r.ih, by simp [wipe, r.len], fun i s hs => ?_, r.clen, r.cells, r.inj⟩
    by_cases hij : i = j
    · subst hij
      by_cases hlt : i < δ1.sl.length
      · rw [List.getElem?_set_self hlt] at hs; cases hs; exact .inl rfl
      · have := (List.getElem?_eq_some_iff.mp hs).1; simp at this; exact absurd this hlt
    · rw [List.getElem?_set_ne (Ne.symm hij)] at hs
      rcases r.slots i s hs with z | ⟨v, z1, z2⟩
      · exact .inl z
      · exact .inr ⟨v, by show (σ.set j none)[i]? = _; rw [List.getElem?_set_ne (Ne.symm hij)]; exact z1, z2⟩
  refine ⟨fun i m H' => m = ds.length - i ∧ i ≤ ds.length ∧ ∃ I' as' acc ce', R K ⟨δ1.sl, ce' ++ [.lst (acc.map SV.im)]⟩ σ F I' as' H' ∧ Le I1 (as1 ++ [D]) I' as' ∧ P i acc ce' ∧ ce'.length = δ1.ce.length ∧ acc.length ≤ i, ⟨ds.length, by simp, Nat.zero_le _, I1, as1 ++ [D], [], δ1.ce, r2, Le.refl _ _, p0, rfl, Nat.le_refl _⟩, ?_⟩
  rintro i m H2 ⟨rfl, hi, I2, as2, acc, ce2, r3, l3, p2, hl2, hacc⟩
  have l12 : Le I1 as1 I2 as2 := l2.trans l3
  have e2 : Same I1 H2 := l12.i.trans r3.ih
  have hD2 : ∀ {I' : Hp} {as' : List Addr}, Le I2 as2 I' as' → as'[δ1.ce.length]? = some D := fun l => l.a _ _ (l3.a _ _ (by rw [← r1.clen]; simp))
  by_cases hlt : i < ds.length
  · refine .inr ⟨w.go i H2 e2 hlt, fun H' => ∃ I' as' acc ce', R K ⟨δ1.sl, ce' ++ [.lst (acc.map SV.im)]⟩ σ F I' as' H' ∧ Le I1 (as1 ++ [D]) I' as' ∧ P (i + 1) acc ce' ∧ ce'.length = δ1.ce.length ∧ acc.length ≤ i + 1, fun H' p' => ⟨ds.length - (i + 1), by omega, rfl, hlt, p'⟩, fun x H3 y => ?_⟩
    have hd : ds[i]? = some ds[i] := List.getElem?_eq_getElem hlt
    obtain ⟨I3, r4, l4, q4⟩ := w.yld i _ x H2 H3 _ _ F I2 as2 hd l12.i r3 y
    refine ⟨by show ((wipe σ [j]).set j (some x)).set j none = (σ.set j none); show ((σ.set j none).set j (some x)).set j none = _; simp, ?_⟩
    have r5 : R K ⟨δ1.sl.set j (.im ds[i]), ce2 ++ [.lst (acc.map SV.im)]⟩ ((wipe σ [j]).set j (some x)) F I3 as2 H3 := by
      have := (wp (σ' := σ) (sl := []) r4).store (i := j) (s := .im ds[i]) (v := x) q4
      simpa using this
    have l34 : Le I2 as2 I3 as2 := l4
    refine pt i _ acc ce2 hd p2 hl2 _ F I3 as2 H3 _ r5 ⟨fun b δ2 I4 as4 H4 r6 l6 k6 => ?_, fun _ _ _ _ _ _ _ _ _ z => z.elim⟩
    have l36 : Le I2 as2 I4 as4 := l34.trans l6
    cases b with
    | true =>
      show te _ H4 _
      refine k6.1 rfl _ F I4 as4 H4 _ r6 ⟨fun s δ3 v I5 as5 H5 r7 l7 rv7 k7 => ?_, fun _ _ _ _ _ _ _ _ _ z => z.elim⟩
      obtain ⟨yd, ce3, ey, ec, hl3, pn⟩ := k7
      have l37 : Le I2 as2 I5 as5 := l36.trans l7
      have hDa := hD2 l37
      have r7' : R K ⟨δ3.sl, ce3 ++ [.lst (acc.map SV.im)]⟩ ((wipe σ [j]).set j (some x)) F I5 as5 H5 := by rw [← ec]; exact r7
      have hcell : (ce3 ++ [CO.lst (acc.map SV.im)])[δ1.ce.length]? = some (.lst (acc.map SV.im)) := by rw [← hl3]; simp
      obtain ⟨hn5, ws, hh5, rr5⟩ := r7'.cells δ1.ce.length _ D hcell hDa
      have hwl : ws.length = acc.length := by rw [rr5.length]; simp
      refine ⟨ws, hh5, by rw [hwl]; exact Nat.lt_of_lt_of_le (show acc.length < 100001 by omega) (by decide), ?_⟩
      have rep := r7.imS ey rv7
      have r8 := r7'.setC (c := δ1.ce.length) (co := .lst ((acc ++ [yd]).map SV.im)) (u := .lst (ws ++ [v])) hcell rfl hDa ⟨hn5, _, upd_same, by rw [List.map_append]; exact rr5.snoc (s := .im yd) rep⟩ rfl
      have e8 : (ce3 ++ [CO.lst (acc.map SV.im)]).set δ1.ce.length (.lst ((acc ++ [yd]).map SV.im)) = ce3 ++ [.lst ((acc ++ [yd]).map SV.im)] := by
        rw [← hl3, List.set_append_right _ _ (Nat.le_refl _)]; simp
      have r9 : R K ⟨δ3.sl, ce3 ++ [.lst ((acc ++ [yd]).map SV.im)]⟩ ((wipe σ [j]).set j (some x)) F I5 as5 (upd H5 D (.lst (ws ++ [v]))) := by rw [← e8]; exact r8
      have r10 := R.reslot r9 r1 (l12.trans l37)
      exact ⟨I5, as5, acc ++ [yd], ce3, r10, l3.trans l37, pn, hl3, by simp; omega⟩
    | false =>
      obtain ⟨ce3, ec, hl3, pn⟩ := k6.2 rfl
      have r7' : R K ⟨δ2.sl, ce3 ++ [.lst (acc.map SV.im)]⟩ ((wipe σ [j]).set j (some x)) F I4 as4 H4 := by rw [← ec]; exact r6
      exact ⟨I4, as4, acc, ce3, R.reslot r7' r1 (l12.trans l36), l3.trans l36, pn, hl3, by omega⟩
  · have e : i = ds.length := by omega
    subst e
    refine .inl ⟨w.stop H2 e2, ?_⟩
    obtain ⟨hb, k⟩ := pe acc ce2 p2 hl2
    have ed : Cr.dv (ce2 ++ [CO.lst (acc.map SV.im)]) (.cl δ1.ce.length) = some (.lst acc) := by
      simp only [Cr.dv]
      rw [show (ce2 ++ [CO.lst (acc.map SV.im)])[δ1.ce.length]? = some (.lst (acc.map SV.im)) from by rw [← hl2]; simp]
      simp only [imL_map, Option.map_some]
    obtain ⟨I4, r4, l4⟩ := R.freeze (c := δ1.ce.length) r3 ed
    have e4 : (ce2 ++ [CO.lst (acc.map SV.im)]).set δ1.ce.length (.fz (.lst acc)) = ce2 ++ [.fz (.lst acc)] := by
      rw [← hl2, List.set_append_right _ _ (Nat.le_refl _)]; simp
    have r5 : R K ⟨δ1.sl, ce2 ++ [.fz (.lst acc)]⟩ σ F I4 as2 H2 := by rw [← e4]; exact r4
    have r6 := R.dropN r1 hl2 (by rw [hl2]; exact hb) r5
    have hDa := hD2 (Le.refl I2 as2)
    refine c1.v (.im (.lst acc)) ⟨δ1.sl, ce2⟩ (.ref D) I4 _ H2 r6 ((l12.trans l4).cut (by rw [hl2, r1.clen]; exact Nat.le_refl _)) ?_ k
    exact r5.cells δ1.ce.length (.fz (.lst acc)) D (by show (ce2 ++ [CO.fz (.lst acc)])[δ1.ce.length]? = _; rw [← hl2]; simp) hDa
theorem wt_yes {Ψt : Bool → Sta → Prop} (k : Ψt true δ) : WT K E tYes Ψt Ξ δ := fun σ F I as H Q r c => c.v true δ I as H r (Le.refl I as) k
/-! ## list(range(..)) -/
def WR (K : PySem.W.Frag) (E : XK) (t : L2.St → Hp → (Int → Int → Hp → Prop) → Prop) (Ψ : Int → Int → Sta → Prop) (Ξ : Xn → Sta → Prop) (δ : Sta) : Prop :=
  ∀ (σ : L2.St) (F : Frm) (I : Hp) (as : List Addr) (H : Hp) (Q : Int → Int → Hp → Prop), R K δ σ F I as H →
    (∀ i j δ' I' as' H', R K δ' σ F I' as' H' → Le I as I' as' → Ψ i j δ' → Q i j H') →
    (∀ (x : Xn) δ' d I' as' H', R K δ' σ F I' as' H' → Le I as I' as' → (∃ fs, H' d = some (.xd fs) ∧ RVF K I' as' x.fs fs) → Ξ x δ' → E x.cls (some d) H') → t σ H Q
theorem wr_2 {Ψr : Int → Int → Sta → Prop} (h : WE K E ta (fun s1 δ1 => WE K E tb (fun s2 δ2 => ∃ i j, dv δ2.ce s1 = some (.int i) ∧ dv δ2.ce s2 = some (.int j) ∧ Ψr i j δ2) Ξ δ1) Ξ δ) : WR K E (tRg2 ta tb) Ψr Ξ δ := fun σ F I as H Q r c x =>
  h σ F I as H _ r ⟨fun s1 δ1 v1 I1 as1 H1 r1 l1 rv1 k1 => k1 σ F I1 as1 H1 _ r1 ⟨fun s2 δ2 v2 I2 as2 H2 r2 l2 rv2 k2 => by
    obtain ⟨i, j, e1, e2, k⟩ := k2
    exact ⟨i, j, r2.dv e1 (rv1.mono l2), r2.dv e2 rv2, c i j δ2 I2 as2 H2 r2 (l1.trans l2) k⟩, fun y δ' d I' as' H' r' l' z q => x y δ' d I' as' H' r' (l1.trans l') z q⟩, x⟩
theorem wr_1 {Ψr : Int → Int → Sta → Prop} (h : WE K E ta (fun s1 δ1 => ∃ j, dv δ1.ce s1 = some (.int j) ∧ Ψr 0 j δ1) Ξ δ) : WR K E (tRg1 ta) Ψr Ξ δ := fun σ F I as H Q r c x =>
  h σ F I as H _ r ⟨fun s1 δ1 v1 I1 as1 H1 r1 l1 rv1 k1 => by
    obtain ⟨j, e1, k⟩ := k1
    exact ⟨j, r1.dv e1 rv1, c 0 j δ1 I1 as1 H1 r1 l1 k⟩, x⟩
theorem repL_rg {I : Hp} (a : Int) : ∀ l : List Nat, RepL K I (l.map fun i => D.int (a + (i : Nat))) (l.map fun i => V.int (a + (i : Nat)))
  | [] => rfl
  | i :: l => ⟨_, _, rfl, rfl, repL_rg a l⟩
theorem we_lstRg {trg : L2.St → Hp → (Int → Int → Hp → Prop) → Prop} (h : WR K E trg (fun i j δ1 => RgOk i j ∧ Ψ (.im (.lst (rgD i (j - i).toNat))) δ1) Ξ δ) : WE K E (tLstRg trg) Ψ Ξ δ := fun σ F I as H Q r c =>
  h σ F I as H _ r (fun i j δ1 I1 as1 H1 r1 l1 k => ⟨k.1, fun q hq => by
    obtain ⟨r2, l2⟩ := r1.newF (o := .lst (rgV i j)) hq
    exact c.v (.im (.lst (rgD i (j - i).toNat))) δ1 _ _ as1 _ r2 (l1.trans l2) ⟨q, _, rfl, upd_same, repL_rg i _⟩ k.2⟩) c.x
/-! ## for a, b in d.items(), d a cell just made: it is frozen then -/
theorem walks_items {I : Hp} {d : Addr} {o : Obj} {kvs : List (Key × V)} {kds : List (Key × D)} (hd : I d = some (.frz o (.dK kvs))) (hr : RepK K I kds kvs) : Walks K (Iti d o kvs) I (kds.map fun p => D.tup [match p.1 with | .inl i => .int i | .inr x => .str x, p.2]) := by
  have get : ∀ {kds : List (Key × D)} {kvs : List (Key × V)}, RepK K I kds kvs → ∀ (i : Nat) (p : Key × D), kds[i]? = some p → ∃ v, kvs[i]? = some (p.1, v) ∧ Rep K I p.2 v := fun {kds} => by
    induction kds with
    | nil => intro kvs h i p e; simp at e
    | cons q qs ih =>
      intro kvs h i p e
      obtain ⟨k, x⟩ := q
      obtain ⟨v, r, h1, h2, h3⟩ := h
      subst h1
      cases i with
      | zero => simp at e; subst e; exact ⟨v, rfl, h2⟩
      | succ i => obtain ⟨v', g1, g2⟩ := ih h3 i p (by simpa using e); exact ⟨v', by simpa using g1, g2⟩
  have hlen := hr.length
  refine ⟨fun i H e hi => ⟨e _ _ hd, by rw [hlen]; simpa using hi⟩, fun H e => ⟨e _ _ hd, by rw [hlen]; simp⟩, fun i d' x H H' δ σ F I2 as hd' e r y => ?_⟩
  obtain ⟨T, k, v, hk, rfl, hT, rfl⟩ := y
  rw [List.getElem?_map] at hd'
  cases q : kds[i]? with
  | none => rw [q] at hd'; cases hd'
  | some p =>
    rw [q] at hd'
    have ed : D.tup [match p.1 with | .inl i => .int i | .inr x => .str x, p.2] = d' := Option.some.inj hd'
    subst ed
    obtain ⟨v', g1, g2⟩ := get hr i p q
    rw [hk] at g1
    cases g1
    obtain ⟨r2, l2⟩ := r.newF (o := .tup [kV p.1, v]) hT
    refine ⟨_, r2, l2, T, _, rfl, SqT.of upd_same, kV p.1, [v], rfl, ?_, v, [], rfl, Rep.mono (e.trans l2.i) _ _ g2, rfl⟩
    cases p.1 with
    | inl i => exact rfl
    | inr x => exact rfl
theorem R.lock {σ : L2.St} {F : Frm} {I : Hp} {as : List Addr} {H : Hp} (r : R K δ σ F I as H) {c : Nat} {o : CO} {a : Addr} {u : HO} {d : D} (q : δ.ce[c]? = some o) (hl : o.live = true) (ha : as[c]? = some a) (hd : Rep K (upd I a u) d (.ref a)) :
    R K { δ with ce := δ.ce.set c (.fz d) } σ F (upd I a u) as (upd H a u) ∧ Le I as (upd I a u) as := by
  have z := r.cells c o a q ha
  obtain ⟨hn, w0, hw0⟩ := z.free hl
  have hc : c < δ.ce.length := (List.getElem?_eq_some_iff.mp q).1
  have le : Le I as (upd I a u) as := ⟨same_upd hn, fun _ _ h => h⟩
  refine ⟨⟨fun b w h => ?_, fun b w h => ?_, fun c' o' a' h1 h2 l' => ?_, fun b w h => ?_, r.len, fun i s h => ?_, by simp [r.clen], fun c' o' a' h1 h2 => ?_, fun c1 c2 o1 o2 a1 h1 h2 l1 l2 h3 h4 => ?_⟩, le⟩
  · rw [upd_ne (ne_of_none h (r.cf c o a q ha hl))]; exact r.fh b w h
  · by_cases hb : b = a
    · subst hb; exact .inl (r.cf c o b q ha hl)
    · rw [upd_ne hb] at h; exact r.nf b w h
  · by_cases hcc : c' = c
    · subst hcc
      simp only [List.getElem?_set_self hc] at h1
      cases h1; cases l'
    · simp only [List.getElem?_set_ne (Ne.symm hcc)] at h1
      exact r.cf c' o' a' h1 h2 l'
  · by_cases hb : b = a
    · subst hb; rw [upd_same] at h ⊢; exact h
    · rw [upd_ne hb] at h ⊢; exact r.ih b w h
  · rcases r.slots i s h with h | ⟨v, h1, h2⟩
    · exact .inl h
    · exact .inr ⟨v, h1, h2.mono le⟩
  · by_cases hcc : c' = c
    · subst hcc
      simp only [List.getElem?_set_self hc] at h1
      cases h1
      rw [ha] at h2; cases h2
      exact hd
    · simp only [List.getElem?_set_ne (Ne.symm hcc)] at h1
      have z' := r.cells c' o' a' h1 h2
      have ne : o'.live = true → a' ≠ a := fun l ea => hcc (r.inj c' c o' o a' h1 q l hl h2 (ea ▸ ha))
      refine z'.mono le (fun l => ?_) fun l w hw => ?_
      · rw [upd_ne (ne l)]; exact (z'.free l).1
      · rw [upd_ne (ne l)]; exact hw
  · have n1 : c1 ≠ c := fun z => by subst z; simp only [List.getElem?_set_self hc] at h1; cases h1; cases l1
    have n2 : c2 ≠ c := fun z => by subst z; simp only [List.getElem?_set_self hc] at h2; cases h2; cases l2
    simp only [List.getElem?_set_ne (Ne.symm n1)] at h1
    simp only [List.getElem?_set_ne (Ne.symm n2)] at h2
    exact r.inj c1 c2 o1 o2 a1 h1 h2 l1 l2 h3 h4
def pairsD (kds : List (Key × D)) : List D := kds.map fun p => D.tup [match p.1 with | .inl i => .int i | .inr x => .str x, p.2]
theorem wi_items {Ψi : List D → Sta → Prop} (h : WE K E te (fun s δ1 => ∃ c kvs kds, s = .cl c ∧ δ1.ce[c]? = some (.dic kvs) ∧ imK δ1.ce kvs = some kds ∧ Ψi (pairsD kds) { δ1 with ce := δ1.ce.set c (.fz (.dic kds)) }) Ξ δ) : WI K E (iItems (tLk te)) Ψi Ξ δ := fun σ F I as H Q r c =>
  h σ F I as H _ r ⟨fun s δ1 v I1 as1 H1 r1 l1 rv k => by
    obtain ⟨c0, kvs, kds, rfl, e, ek, k⟩ := k
    obtain ⟨a, ha, rfl⟩ := rv
    obtain ⟨hn, vs, hh, ra⟩ := r1.cells c0 _ a e ha
    have rk := r1.imK ek ra
    refine ⟨a, vs, rfl, hh, fun o => ?_⟩
    have sm : Same I1 (upd I1 a (.frz o (.dK vs))) := same_upd hn
    obtain ⟨r2, l2⟩ := r1.lock (u := .frz o (.dK vs)) (d := .dic kds) e rfl ha ⟨a, vs, rfl, .inr ⟨o, upd_same⟩, RepK.mono sm _ _ rk⟩
    exact ⟨a, o, vs, rfl, upd_same, c.v _ _ _ _ as1 _ r2 (l1.trans l2) (walks_items upd_same (RepK.mono sm _ _ rk)) k⟩, c.x⟩
/-! ## dict(d), d.update(e) -/
def rDictD : List V → Hp → VK → Prop := fun xs H Q => ∃ (a : Addr) (kvs : List (Key × V)), xs = [.ref a] ∧ Rd H a (.dK kvs) ∧ ∀ p, H p = none → Q (.ref p) (upd H p (.dK kvs))
theorem cb_dict {s : SV} {kds : List (Key × D)} (e : dv δ.ce s = some (.dic kds)) (k : Ψ (.cl δ.ce.length) { δ with ce := δ.ce ++ [.dic (kds.map fun p => (p.1, SV.im p.2))] }) : CbW K rDictD [s] Ψ δ := by
  intro σ F I as H Q vs r h1 c
  obtain ⟨w, t, rfl, h, rfl⟩ := h1
  obtain ⟨a, kvs, rfl, ha, ra⟩ := r.dvK e h
  refine ⟨a, kvs, rfl, ha, fun p hp => ?_⟩
  have hn := none_back r.ih hp
  obtain ⟨r2, l2⟩ := r.newC (o := .dK kvs) (co := .dic (kds.map fun p => (p.1, SV.im p.2))) hp ⟨hn, kvs, upd_same, rvk_im ra⟩ rfl
  exact c (.cl δ.ce.length) _ _ I (as ++ [p]) _ r2 l2 ⟨p, by rw [← r.clen]; simp, rfl⟩ k
/-- a method of a built-in, by values -/
def MtW (K : PySem.W.Frag) (T : String) (r : V → List V → Hp → VK → Prop) (s : SV) (ss : List SV) (Ψ : SV → Sta → Prop) (δ : Sta) : Prop :=
  ∀ (σ : L2.St) (F : Frm) (I : Hp) (as : List Addr) (H : Hp) (Q : VK) (v : V) (vs : List V), R K δ σ F I as H → RV K I as s v → RVL K I as ss vs →
    (∀ s δ' v I' as' H', R K δ' σ F I' as' H' → Le I as I' as' → RV K I' as' s v → Ψ s δ' → Q v H') → r v vs H Q
def TyS (K : PySem.W.Frag) (T : String) (s : SV) (δ : Sta) : Prop := ∀ (σ : L2.St) (F : Frm) (I : Hp) (as : List Addr) (H : Hp) (v : V), R K δ σ F I as H → RV K I as s v → tyV K T v H
theorem we_bm {T : String} {r : V → List V → Hp → VK → Prop} (h : WE K E ta (fun s δ1 => TyS K T s δ1 ∧ WA K E tr (fun ss δ2 => MtW K T r s ss Ψ δ2) Ξ δ1) Ξ δ) : WE K E (tBM K T r ta tr) Ψ Ξ δ := fun σ F I as H Q r c =>
  h σ F I as H _ r ⟨fun s δ1 v I1 as1 H1 r1 l1 rv k => ⟨k.1 σ F I1 as1 H1 v r1 rv, k.2 σ F I1 as1 H1 _ r1 ⟨fun ss δ2 vs I2 as2 H2 r2 l2 rv2 k2 => k2 σ F I2 as2 H2 Q v vs r2 (rv.mono l2) rv2 ((c.later l1).later l2).v, (c.later l1).x⟩⟩, c.x⟩
theorem we_bm0 {T : String} {r : V → List V → Hp → VK → Prop} (h : WE K E ta (fun s δ1 => TyS K T s δ1 ∧ MtW K T r s [] Ψ δ1) Ξ δ) : WE K E (tBM0 K T r ta) Ψ Ξ δ := fun σ F I as H Q r c =>
  h σ F I as H _ r ⟨fun s δ1 v I1 as1 H1 r1 l1 rv k => ⟨k.1 σ F I1 as1 H1 v r1 rv, k.2 σ F I1 as1 H1 Q v [] r1 rv rfl (c.later l1).v⟩, c.x⟩
theorem ty_str {s : SV} {x : Str} (e : dv δ.ce s = some (.str x)) : TyS K "str" s δ := fun σ F I as H v r rv => by
  cases (show v = _ from r.dv e rv); exact rfl
theorem ty_dicC {c : Nat} {kvs : List (Key × SV)} (e : δ.ce[c]? = some (.dic kvs)) : TyS K "dict" (.cl c) δ := fun σ F I as H v r rv => by
  obtain ⟨a, ha, rfl⟩ := rv
  obtain ⟨_, vs, hh, _⟩ := r.cells c _ a e ha
  exact .inr (.inr (.inl ⟨rfl, .inl ⟨vs, hh⟩⟩))
theorem ty_lstC {c : Nat} {xs : List SV} (e : δ.ce[c]? = some (.lst xs)) : TyS K "list" (.cl c) δ := fun σ F I as H v r rv => by
  obtain ⟨a, ha, rfl⟩ := rv
  obtain ⟨_, vs, hh, _⟩ := r.cells c _ a e ha
  exact .inl ⟨rfl, vs, SqL.of hh⟩
theorem mt_append' {c : Nat} {xs : List SV} {s : SV} (e : δ.ce[c]? = some (.lst xs)) (hl : xs.length < 100000) (k : Ψ (.im .non) { δ with ce := δ.ce.set c (.lst (xs ++ [s])) }) : MtW K "list" rAppend (.cl c) [s] Ψ δ := by
  intro σ F I as H Q v vs r rv rvs cc
  obtain ⟨a, ha, rfl⟩ := rv
  obtain ⟨w, _, rfl, hw, rfl⟩ := rvs
  obtain ⟨hn, ws, hh, ra⟩ := r.cells c _ a e ha
  refine ⟨a, ws, w, rfl, rfl, hh, by rw [ra.length]; exact Nat.lt_of_lt_of_le hl (by decide), ?_⟩
  exact cc (.im .non) _ _ I as _ (r.setC (co := .lst (xs ++ [s])) e rfl ha ⟨hn, _, upd_same, ra.snoc hw⟩ rfl) (Le.refl I as) rfl k
theorem mt_update' {c : Nat} {kvs : List (Key × SV)} {s : SV} {kds : List (Key × D)} (e : δ.ce[c]? = some (.dic kvs)) (es : dv δ.ce s = some (.dic kds)) (hne : ∀ c', s = .cl c' → c' ≠ c) (hl : kvs.length + kds.length ≤ 1000) (k : Ψ (.im .non) { δ with ce := δ.ce.set c (.dic (mergeS kvs (kds.map fun p => (p.1, SV.im p.2)))) }) : MtW K "dict" rUpdD (.cl c) [s] Ψ δ := by
  intro σ F I as H Q v vs r rv rvs cc
  obtain ⟨a, ha, rfl⟩ := rv
  obtain ⟨w, _, rfl, hw, rfl⟩ := rvs
  obtain ⟨hn, ws, hh, ra⟩ := r.cells c _ a e ha
  obtain ⟨b, kv', rfl, hb, rb⟩ := r.dvK es hw
  have nab : a ≠ b := by
    rintro rfl
    cases s with
    | no => cases es
    | im d =>
      cases es
      obtain ⟨b', kv2, eb, hb', _⟩ := (show Rep K I (.dic kds) (.ref a) from hw)
      cases eb
      rcases hb' with hb' | ⟨o, hb'⟩ <;> (rw [hn] at hb'; cases hb')
    | cl c' =>
      obtain ⟨b', hb', eb⟩ := hw
      cases eb
      cases q : δ.ce[c']? with
      | none => simp only [Cr.dv] at es; rw [q] at es; cases es
      | some o =>
        cases o with
        | dic kv2 => exact hne c' rfl (r.inj c' c _ _ a q e rfl rfl hb' ha)
        | fz d =>
          have z := r.cells c' _ a q hb'
          simp only [Cr.dv] at es
          rw [q] at es
          cases es
          obtain ⟨b2, kv2, eb, hb2, _⟩ := (show Rep K I (.dic kds) (.ref a) from z)
          cases eb
          rcases hb2 with hb2 | ⟨o, hb2⟩ <;> (rw [hn] at hb2; cases hb2)
        | dead => simp only [Cr.dv] at es; rw [q] at es; cases es
        | lst xs => simp only [Cr.dv] at es; rw [q] at es; simp only [Option.map_eq_some_iff] at es; obtain ⟨_, _, es⟩ := es; cases es
        | ins C xs => simp only [Cr.dv] at es; rw [q] at es; simp only [Option.map_eq_some_iff] at es; obtain ⟨_, _, es⟩ := es; cases es
  refine ⟨a, b, ws, kv', rfl, rfl, nab, hh, hb, by rw [ra.length, rb.length]; exact Nat.le_trans hl (by decide), ?_⟩
  exact cc (.im .non) _ _ I as _ (r.setC (co := .dic (mergeS kvs (kds.map fun p => (p.1, SV.im p.2)))) e rfl ha ⟨hn, _, upd_same, (rvk_im rb).merge ra⟩ rfl) (Le.refl I as) rfl k
end
end Cr
namespace Cr
open PySem L2
/-! ## operators of any sort -/
section
variable {X : Cx}
def rAddA (K : PySem.W.Frag) : R2 := fun x y H Q => rI0 (fun i j => .int (i + j)) x y H Q ∨ (rAddStr x y H Q ∨ (rCat x y H Q ∨ rCatT K x y H Q))
theorem op_addA : OpR X (binaryOp .Add) (rAddA X.K) := op_add.or (op_add_str.or (op_cat.or op_catT))
def rMulA : R2 := fun x y H Q => rI CMul (fun i j => .int (i * j)) x y H Q ∨ rRep x y H Q
theorem op_mulA : OpR X (binaryOp .Mult) rMulA := op_mul.or op_rep
def rEqA (K : PySem.W.Frag) : R2 := fun x y H Q => rEq x y H Q ∨ rEqD K x y H Q
def rNeA (K : PySem.W.Frag) : R2 := fun x y H Q => rNe x y H Q ∨ rNeD K x y H Q
theorem op_eqA {k : Nat} (hr : Room k X.A) : OpR X (compareOp .Eq) (rEqA X.K) := op_eq.or (op_eqD hr.units)
theorem op_neA {k : Nat} (hr : Room k X.A) : OpR X (compareOp .NotEq) (rNeA X.K) := op_ne.or (op_neD hr.units)
def rLtA : R2 := fun x y H Q => rI0 (fun i j => .bl (decide (i < j))) x y H Q ∨ rLtStr x y H Q
theorem op_ltA : OpR X (compareOp .Lt) rLtA := op_lt.or op_lt_str
def rInD (neg : Bool) : R2 := fun y x H Q => ∃ a o, x = .ref a ∧ DGet H a y o ∧ Q (.bl (if neg then !o.isSome else o.isSome)) H
theorem op_inD (hu : X.A.units + 1 < cLine) : OpR X (compareOp .In) (rInD false) := by
  intro pins s σ H x y v u Q I rx ry h
  obtain ⟨a, o, rfl, g, q⟩ := h
  obtain rfl : u = Value.ref a := ry
  exact d_in hu I g rx fun s3 I3 => ⟨.bl o.isSome, H, I3, rfl, q⟩
theorem op_notinD (hu : X.A.units + 1 < cLine) : OpR X (compareOp .NotIn) (rInD true) := by
  intro pins s σ H x y v u Q I rx ry h
  obtain ⟨a, o, rfl, g, q⟩ := h
  obtain rfl : u = Value.ref a := ry
  exact d_notIn hu I g rx fun s3 I3 => ⟨.bl (!o.isSome), H, I3, rfl, q⟩
def rInStr : R2 := fun x y H Q => ∃ i j, x = .str i ∧ y = .str j ∧ Q (.bl (!(Builtin.Str.occurrences j i 0 j.length 1).isEmpty)) H
def rNotInStr : R2 := fun x y H Q => ∃ i j, x = .str i ∧ y = .str j ∧ Q (.bl (!(!(Builtin.Str.occurrences j i 0 j.length 1).isEmpty))) H
def rInA (K : PySem.W.Frag) : R2 := fun x y H Q => rIn K false x y H Q ∨ (rInStr x y H Q ∨ rInD false x y H Q)
def rNotInA (K : PySem.W.Frag) : R2 := fun x y H Q => rIn K true x y H Q ∨ (rNotInStr x y H Q ∨ rInD true x y H Q)
theorem op_inA (hu : X.A.units + 1 < cLine) : OpR X (compareOp .In) (rInA X.K) := op_in_seq.or (op_in_str.or (op_inD hu))
theorem op_notinA (hu : X.A.units + 1 < cLine) : OpR X (compareOp .NotIn) (rNotInA X.K) := op_notIn_seq.or (op_notin_str.or (op_notinD hu))
theorem op_isN' : OpR X (compareOp .Is) rIsN := op_isN
theorem op_notN' : OpR X (compareOp .IsNot) rNotN := op_notN
theorem cl_abs : CallR X (.builtin "abs") rAbs := call_abs
theorem cl_int : CallR X (.type "int") rInt1 := call_int1
theorem cl_max (hc : X.calm = true) : CallR X (.builtin "max") rMax2 := call_max2 hc
theorem cl_min (hc : X.calm = true) : CallR X (.builtin "min") rMin2 := call_min2 hc
theorem cl_repr : CallR X (.builtin "repr") rReprI := SkE.call_repr_int
theorem cl_len : CallR X (.builtin "len") (rLenA X.K) := call_len
theorem cl_dict : CallR X (.type "dict") rDictD := call_dictD
end
section
variable {K : PySem.W.Frag} {E : XK} {Ξ : Xn → Sta → Prop} {δ : Sta} {Ψ : SV → Sta → Prop}
/-! isinstance with a built-in class -/
def tyN : D → Option String
  | .non => some "NoneType" | .bl _ => some "bool" | .int _ => some "int" | .str _ => some "str" | .lst _ => some "list" | .tup _ => some "tuple" | .dic _ => some "dict" | _ => none
theorem tyX_of {H : Hp} {x : D} {v : V} {n : String} (e : tyN x = some n) (h : Rep K H x v) : TyX K H v (.type n) := by
  cases x with
  | non => cases e; cases (show v = _ from h); exact .base .non
  | bl b => cases e; cases (show v = _ from h); exact .base (.bl b)
  | int b => cases e; cases (show v = _ from h); exact .base (.int b)
  | str b => cases e; cases (show v = _ from h); exact .base (.str b)
  | lst b => cases e; obtain ⟨a, vs, rfl, ha, _⟩ := h; exact .base (.lst ha)
  | tup b =>
    cases e
    obtain ⟨a, vs, rfl, ha, _⟩ := h
    rcases ha with (ha | ⟨o, ha⟩) | ⟨o, its, n, h1, h2, _⟩
    · exact .base (.tup ha)
    · exact .fTuple ha
    · exact .kTuple h1 h2
  | dic b =>
    cases e
    obtain ⟨a, vs, rfl, ha, _⟩ := h
    rcases ha with ha | ⟨o, ha⟩
    · exact .base (.dK ha)
    · exact .fDict ha
  | _ => cases e
theorem cb_isi {s t : SV} {x : D} {n m : String} {b : Bool} (e : dv δ.ce s = some x) (e2 : dv δ.ce t = some (.ty m)) (hn : tyN x = some n) (hk : kitB n m = some b) (k : Ψ (.im (.bl b)) δ) : CbW K (rIsi K) [s, t] Ψ δ := by
  intro σ F I as H Q vs r h1 c
  obtain ⟨w, _, rfl, h, w', _, rfl, h', rfl⟩ := h1
  have hx := r.dv e h
  cases (show w' = _ from r.dv e2 h')
  exact ⟨w, .ty m, .type n, .type m, b, rfl, .ty m, tyX_of hn hx, kit_ty hk, c (.im (.bl b)) δ _ I as H r (Le.refl I as) rfl k⟩
/-! x in (..): flat values -/
def eqF : D → D → Bool
  | .non, .non => true
  | .bl a, .bl b => a == b
  | .bl a, .int b => (if a then 1 else 0) == b
  | .int a, .bl b => a == (if b then 1 else 0)
  | .int a, .int b => a == b
  | .str a, .str b => a == b
  | _, _ => false
def flatD : D → Bool
  | .non => true | .bl _ => true | .int _ => true | .str _ => true | _ => false
def inF (x : D) (xs : List D) : Bool := xs.any fun y => eqF y x
theorem flat_of {H : Hp} {x : D} {v : V} (f : flatD x = true) (h : Rep K H x v) : flatV v = true := by
  cases x <;> first | exact absurd (show false = true from f) Bool.false_ne_true | (cases (show v = _ from h); rfl)
theorem eqF_of {H : Hp} {x y : D} {v w : V} (fx : flatD x = true) (fy : flatD y = true) (hx : Rep K H x v) (hy : Rep K H y w) : eqV v w = eqF x y := by
  cases x <;> first
    | exact absurd (show false = true from fx) Bool.false_ne_true
    | (cases (show v = _ from hx)
       cases y <;> first
         | exact absurd (show false = true from fy) Bool.false_ne_true
         | (cases (show w = _ from hy); rfl))
theorem inF_of {H : Hp} {x : D} {v : V} (fx : flatD x = true) (hx : Rep K H x v) : ∀ {xs : List D} {vs : List V}, xs.all flatD = true → RepL K H xs vs → inV v vs = inF x xs ∧ vs.all flatV = true
  | [], vs, _, h => by rw [show vs = [] from h]; exact ⟨rfl, rfl⟩
  | y :: ys, _, f, ⟨u, r, e, h1, h2⟩ => by
    subst e
    have f' : (flatD y && ys.all flatD) = true := f
    rw [Bool.and_eq_true] at f'
    obtain ⟨g1, g2⟩ := inF_of fx hx f'.2 h2
    refine ⟨?_, ?_⟩
    · show (eqV u v || inV v r) = (eqF y x || inF x ys)
      rw [eqF_of f'.1 fx h1 hx, g1]
    · show (flatV u && r.all flatV) = true
      rw [flat_of f'.1 h1, g2]; rfl
theorem ow_in {neg : Bool} {s1 s2 : SV} {x : D} {xs : List D} (e1 : dv δ.ce s1 = some x) (e2 : dv δ.ce s2 = some (.lst xs) ∨ dv δ.ce s2 = some (.tup xs)) (fx : flatD x = true) (fs : xs.all flatD = true) (k : Ψ (.im (.bl (if neg then !inF x xs else inF x xs))) δ) : OpW K (rIn K neg) s1 s2 Ψ δ := by
  intro σ F I as H Q v w r h1 h2 c
  have hx := r.dv e1 h1
  rcases e2 with e2 | e2
  · obtain ⟨a, vs, rfl, ha, ra⟩ := r.dv e2 h2
    obtain ⟨g1, g2⟩ := inF_of fx hx fs ra
    exact ⟨a, vs, rfl, .inl (SqL.of ha), flat_of fx hx, g2, by rw [g1]; exact c (.im (.bl _)) δ _ I as H r (Le.refl I as) rfl k⟩
  · obtain ⟨a, vs, rfl, ha, ra⟩ := r.dv e2 h2
    obtain ⟨g1, g2⟩ := inF_of fx hx fs ra
    exact ⟨a, vs, rfl, .inr ha, flat_of fx hx, g2, by rw [g1]; exact c (.im (.bl _)) δ _ I as H r (Le.refl I as) rfl k⟩
/-! a dict of the module's top -/
theorem ow_ixK {w : World} {s1 s2 : SV} {a : Addr} {z : Str} {d : D} {v : V} (e1 : dv δ.ce s1 = some (.raw a)) (e2 : dv δ.ce s2 = some (.str z)) (hk : KDct K w a z v) (hd : ∀ I, Rep K I d v) (k : Ψ (.im d) δ) : OpW K (L2.rIxD K w) s1 s2 Ψ δ := by
  intro σ F I as H Q v1 v2 r h1 h2 c
  exact ⟨a, z, v, r.dv e1 h1, r.dv e2 h2, hk, c (.im d) δ _ I as H r (Le.refl I as) (hd I) k⟩
/-! texts -/
def rRstripC : V → List V → Hp → VK → Prop := fun x xs H Q => ∃ a b, x = .str a ∧ xs = [.str b] ∧ a.length ≤ sizeLine ∧ Q (.str (Txt.rstripChars a b)) H
def rLower : V → List V → Hp → VK → Prop := fun x xs H Q => ∃ a, x = .str a ∧ xs = [] ∧ a.length ≤ 5592405 ∧ Q (.str (Txt.lower a)) H
theorem mtr_rstrip {X : Cx} : MtR X "str.rstrip" rRstripC := mt_rstripChars
theorem mtr_lower {X : Cx} : MtR X "str.lower" rLower := mt_lower
theorem mw_rstrip {s t : SV} {a b : Str} (e1 : dv δ.ce s = some (.str a)) (e2 : dv δ.ce t = some (.str b)) (hz : a.length ≤ sizeLine) (k : Ψ (.im (.str (Txt.rstripChars a b))) δ) : MtW K "str" rRstripC s [t] Ψ δ := by
  intro σ F I as H Q v vs r rv rvs cc
  obtain ⟨w, _, rfl, hw, rfl⟩ := rvs
  cases (show v = _ from r.dv e1 rv)
  cases (show w = _ from r.dv e2 hw)
  exact ⟨a, b, rfl, rfl, hz, cc (.im (.str _)) δ _ I as H r (Le.refl I as) rfl k⟩
theorem mw_lower {s : SV} {a : Str} (e1 : dv δ.ce s = some (.str a)) (hz : a.length ≤ 5592405) (k : Ψ (.im (.str (Txt.lower a))) δ) : MtW K "str" rLower s [] Ψ δ := by
  intro σ F I as H Q v vs r rv rvs cc
  cases (show vs = [] from rvs)
  cases (show v = _ from r.dv e1 rv)
  exact ⟨a, rfl, rfl, hz, cc (.im (.str _)) δ _ I as H r (Le.refl I as) rfl k⟩
end
/-! ## defs as facts -/
/-- a def of the module: called by its name -/
structure GF (P : Program) (w : World) (K : PySem.W.Frag) (mg : Str → Option Value) (base : Heap) (CX : CXT) (x : Str) (ps : List Str) (k : Nat) (A : ASpec) : Prop where
  mono : AMono A
  ex : ∃ (f : Addr) (fd : FuncData), FnOk P w K mg base CX k f fd ps (spAbs K A) ∧ mg x = some (.ref f) ∧ PySem.W.keepIn K (.ref f) = true ∧ Binds K fd ps []
/-- a method of the class at C -/
structure GM (P : Program) (w : World) (K : PySem.W.Frag) (mg : Str → Option Value) (base : Heap) (CX : CXT) (C : Addr) (m : Str) (ps : List Str) (k : Nat) (A : ASpec) : Prop where
  mono : AMono A
  cl : Cls K C
  ex : ∃ (f : Addr) (fd : FuncData), FnOk P w K mg base CX k f fd ps (spAbs K A) ∧ Meth K C m f ∧ Binds K fd ps []
/-- a class: made by its name, its __init__, with the defaults that fill up -/
structure GK (P : Program) (w : World) (K : PySem.W.Frag) (mg : Str → Option Value) (base : Heap) (CX : CXT) (x : Str) (C : Addr) (ps : List Str) (dvs : List V) (k : Nat) (A : ASpec) : Prop where
  mono : AMono A
  ex : ∃ (f : Addr) (fd : FuncData) (ds : List Value), FnOk P w K mg base CX k f fd ps (spAbs K A) ∧ Mk K C f ∧ mg x = some (.ref C) ∧ Binds K fd ps ds ∧ Vals dvs ds
section
variable {X : Cx} {CX : CXT} {k : Nat} {C : Addr} {ps : List Str} {A : ASpec} {E : XK} {x m : Str} {p pos apos : Pos} {e o : Expr} {es : List Expr} {ta : TE} {t : TA} {dvs : List V}
theorem pe_gf (G : GF X.prog X.w X.K X.mg X.base CX x ps k A) (hr : Room k X.A) (hg : Gl X x) (hx : Passes CX X E) (ha : PA X (e :: es) t) (hdb : (x == ("__debug__" : Str)) = false := by decide)
    (he : starEach (e :: es) X.env = (false, eval e X.env) :: starEach es X.env := by rfl) (hpl : (backTo pos (starEach es X.env)).any (·.1) = false := by rfl) : PE X (.Call (.Name x p) (e :: es) [] pos) (tCall (spAbs X.K A) [] E t) := by
  obtain ⟨f, fd, F, hm, hk, hb⟩ := G.ex
  exact pe_call F hr hg hm hk hb .nil hx ha hdb he hpl
theorem pe_gm {e0 : Expr} {t0 : TE} (G : GM X.prog X.w X.K X.mg X.base CX C m ps k A)
    (H : ∀ {f : Addr} {fd : FuncData}, Meth X.K C m f → FnOk X.prog X.w X.K X.mg X.base CX k f fd ps (spAbs X.K A) → Binds X.K fd ps [] → PE X e0 t0) : PE X e0 t0 := by
  obtain ⟨f, fd, F, hm, hb⟩ := G.ex
  exact H hm F hb
theorem pe_gk {e0 : Expr} {t0 : TE} (G : GK X.prog X.w X.K X.mg X.base CX x C ps dvs k A)
    (H : ∀ {f : Addr} {fd : FuncData} {ds : List Value}, Mk X.K C f → FnOk X.prog X.w X.K X.mg X.base CX k f fd ps (spAbs X.K A) → X.mg x = some (.ref C) → Binds X.K fd ps ds → Vals dvs ds → PE X e0 t0) : PE X e0 t0 := by
  obtain ⟨f, fd, ds, F, hm, hg, hb, hd⟩ := G.ex
  exact H hm F hg hb hd
end
/-! ## a def that lets nothing out -/
section
variable {P : Program} {w : World} {K : PySem.W.Frag} {mg : Str → Option Value} {base : Heap} {x qual : Str} {params : Arguments} {body : List Stmt} {scope : Scope} {dvs : List V} {kws : List (Str × V)} {f : Addr} {fd : FuncData}
def NoX (A : ASpec) : Prop := ∀ ss ce Ψ Ξ Ξ', A ss ce Ψ Ξ → A ss ce Ψ Ξ'
theorem spAbs_nox {A : ASpec} (nA : NoX A) {vs : List V} {H : Hp} {Q : VK} {E E' : XK} (h : spAbs K A vs H Q E) : spAbs K A vs H Q E' := by
  obtain ⟨ss, ce, as, I, lv, r, rv, hA⟩ := h
  exact ⟨ss, ce, as, I, lv, r, rv, nA _ _ _ _ _ hA⟩
theorem fn_abs0 {A : ASpec} (mA : AMono A) (nA : NoX A) {N ps : List Str} {k : Nat} (F : FunD K x qual params body scope dvs kws f fd) (S : FnScope N ps scope) (hps : ps.length ≤ N.length) (len : ∀ ss ce Ψ Ξ, A ss ce Ψ Ξ → ss.length = ps.length)
    (hb : ∀ (cdv : Value) (Ar : Around) (outer : List Env) (s : Shared) (H : Hp) (E : XK), Room k (Ar.deeper (PyProof.Rows.envOfC qual scope s.heap.objs.size f cdv)) →
      ∃ t, PSs (cxOf CX0 P w K mg base N qual scope f cdv Ar outer s H E).nox body t ∧
        ∀ ss ce Ψ, A ss ce Ψ (fun _ _ => False) → WS K E0 t (bodyPost Ψ (fun _ _ => False) ce.length) ⟨ss ++ List.replicate (N.length - ss.length) .no, ce⟩) : FnOk P w K mg base CX0 (k + 1) f fd ps (spAbs K A) := by
  have hl : ∀ vs H Q E, spAbs K A vs H Q E → vs.length = ps.length := fun vs H Q E h => by
    obtain ⟨ss, ce, as, I, _, _, rv, hA⟩ := h
    rw [rv.length]; exact len _ _ _ _ hA
  refine F.ok S hl fun cdv Ar outer s H vs Q E hr h => ?_
  obtain ⟨t, h1, h2⟩ := hb cdv Ar outer s H E hr
  refine ⟨t, h1.nox, body_abs (E := E0) mA (by rw [hl vs H Q E h]; exact hps) (spAbs_nox nA h) fun ss ce Ψ Ξ hA => ?_⟩
  exact ws_imp (h2 ss ce Ψ (nA _ _ _ _ _ hA)) (fun _ q => q) (fun _ _ q => q) (fun _ q => q) (fun _ q => q) fun _ _ q => q.elim
end
end Cr
namespace Cr
open PySem L2
section
variable {K : PySem.W.Frag} {E : XK} {Ψ : SV → Sta → Prop} {Ξ : Xn → Sta → Prop} {δ : Sta} {s1 s2 : SV} {w : World}
/-! ## operators of any sort: the case picked -/
theorem oa_add {i j : Int} (e1 : dv δ.ce s1 = some (.int i)) (e2 : dv δ.ce s2 = some (.int j)) (k : Ψ (.im (.int (i + j))) δ) : OpW K (rAddA K) s1 s2 Ψ δ := ow_l (ow_add e1 e2 k)
theorem oa_addS {i j : Str} (e1 : dv δ.ce s1 = some (.str i)) (e2 : dv δ.ce s2 = some (.str j)) (hc : i.length + j.length ≤ sizeLine) (k : Ψ (.im (.str (i ++ j))) δ) : OpW K (rAddA K) s1 s2 Ψ δ := ow_r (ow_l (ow_addS e1 e2 hc k))
theorem oa_addL {xs ys : List D} (e1 : imS δ.ce s1 = some (.lst xs)) (e2 : imS δ.ce s2 = some (.lst ys)) (hc : xs.length + ys.length ≤ 1000000) (k : Ψ (.im (.lst (xs ++ ys))) δ) : OpW K (rAddA K) s1 s2 Ψ δ := ow_r (ow_r (ow_l (ow_catL e1 e2 hc k)))
theorem oa_mul {i j : Int} (e1 : dv δ.ce s1 = some (.int i)) (e2 : dv δ.ce s2 = some (.int j)) (hc : CMul i j) (k : Ψ (.im (.int (i * j))) δ) : OpW K rMulA s1 s2 Ψ δ := ow_l (ow_mul e1 e2 hc k)
theorem oa_eq {x y : D} {b : Bool} (e1 : dv δ.ce s1 = some x) (e2 : dv δ.ce s2 = some y) (h : scEq x y = some b) (k : Ψ (.im (.bl b)) δ) : OpW K (rEqA K) s1 s2 Ψ δ := ow_l (ow_eq e1 e2 h k)
theorem oa_ne {x y : D} {b : Bool} (e1 : dv δ.ce s1 = some x) (e2 : dv δ.ce s2 = some y) (h : scEq x y = some b) (k : Ψ (.im (.bl (!b))) δ) : OpW K (rNeA K) s1 s2 Ψ δ := ow_l (ow_ne e1 e2 h k)
theorem oa_lt {i j : Int} (e1 : dv δ.ce s1 = some (.int i)) (e2 : dv δ.ce s2 = some (.int j)) (k : Ψ (.im (.bl (decide (i < j)))) δ) : OpW K rLtA s1 s2 Ψ δ := ow_l (ow_lt e1 e2 k)
theorem oa_in {x : D} {xs : List D} (e1 : dv δ.ce s1 = some x) (e2 : dv δ.ce s2 = some (.lst xs) ∨ dv δ.ce s2 = some (.tup xs)) (fx : flatD x = true) (fs : xs.all flatD = true) (k : Ψ (.im (.bl (inF x xs))) δ) : OpW K (rInA K) s1 s2 Ψ δ := ow_l (ow_in (neg := false) e1 e2 fx fs k)
theorem oa_notin {x : D} {xs : List D} (e1 : dv δ.ce s1 = some x) (e2 : dv δ.ce s2 = some (.lst xs) ∨ dv δ.ce s2 = some (.tup xs)) (fx : flatD x = true) (fs : xs.all flatD = true) (k : Ψ (.im (.bl (!inF x xs))) δ) : OpW K (rNotInA K) s1 s2 Ψ δ := ow_l (ow_in (neg := true) e1 e2 fx fs k)
theorem oa_ixL {ds : List D} {i : Int} {d : D} (e1 : imS δ.ce s1 = some (.lst ds)) (e2 : dv δ.ce s2 = some (.int i)) (h : atI ds i = some d) (k : Ψ (.im d) δ) : OpW K (rIxB K w) s1 s2 Ψ δ := ow_l (ow_ixL e1 e2 h k)
theorem oa_ixT {ds : List D} {i : Int} {d : D} (e1 : imS δ.ce s1 = some (.tup ds)) (e2 : dv δ.ce s2 = some (.int i)) (h : atI ds i = some d) (k : Ψ (.im d) δ) : OpW K (rIxB K w) s1 s2 Ψ δ := ow_l (ow_ixT e1 e2 h k)
theorem oa_ixP {ns : List Int} {i n : Int} (e1 : imS δ.ce s1 = some (.scr ns)) (e2 : dv δ.ce s2 = some (.int i)) (h : atI ns i = some n) (k : Ψ (.im (.int n)) δ) : OpW K (rIxB K w) s1 s2 Ψ δ := ow_l (ow_ixP e1 e2 h k)
theorem oa_ixC {c : Nat} {xs : List SV} {i : Int} {s : SV} (e1 : δ.ce[c]? = some (.lst xs)) (e2 : dv δ.ce s2 = some (.int i)) (h : atI xs i = some s) (k : Ψ s δ) : OpW K (rIxB K w) (.cl c) s2 Ψ δ := ow_l (ow_ixC e1 e2 h k)
theorem oa_ixD {kds : List (Key × D)} {y d : D} {kk : Key} (e1 : imS δ.ce s1 = some (.dic kds)) (e2 : dv δ.ce s2 = some y) (hk : Cr.keyOf y = some kk) (h : lookD kds kk = some d) (k : Ψ (.im d) δ) : OpW K (rIxB K w) s1 s2 Ψ δ := ow_l (ow_ixD e1 e2 hk h k)
theorem oa_ixDC {c : Nat} {kds : List (Key × SV)} {y : D} {s : SV} {kk : Key} (e1 : δ.ce[c]? = some (.dic kds)) (e2 : dv δ.ce s2 = some y) (hk : Cr.keyOf y = some kk) (h : lookC kds kk = some s) (k : Ψ s δ) : OpW K (rIxB K w) (.cl c) s2 Ψ δ := ow_l (ow_ixDC e1 e2 hk h k)
theorem oa_ixK {a : Addr} {z : Str} {d : D} {v : V} (e1 : dv δ.ce s1 = some (.raw a)) (e2 : dv δ.ce s2 = some (.str z)) (hk : KDct K w a z v) (hd : ∀ I, Rep K I d v) (k : Ψ (.im d) δ) : OpW K (rIxB K w) s1 s2 Ψ δ := ow_r (ow_ixK e1 e2 hk hd k)
theorem CMul.r {i j : Int} (h : -(2 ^ 64) < j ∧ j < 2 ^ 64) : CMul i j := .inr h
theorem CMul.l {i j : Int} (h : -(2 ^ 64) < i ∧ i < 2 ^ 64) : CMul i j := .inl h
end
/-! ## promises by shape -/
/-- data in, data out -/
def aP (P : List D → D → Prop) : ASpec := fun ss ce Ψ _ => ∃ ds d, ss = ds.map SV.im ∧ ce = [] ∧ P ds d ∧ Ψ (.im d) []
theorem aP.mono {P : List D → D → Prop} : AMono (aP P) := fun _ _ _ _ _ _ h _ ⟨ds, d, e1, e2, p, q⟩ => ⟨ds, d, e1, e2, p, h _ _ q⟩
theorem aP.nox {P : List D → D → Prop} : NoX (aP P) := fun _ _ _ _ _ ⟨ds, d, e1, e2, p, q⟩ => ⟨ds, d, e1, e2, p, q⟩
theorem aP.len {P : List D → D → Prop} {n : Nat} (h : ∀ ds d, P ds d → ds.length = n) : ∀ ss ce Ψ Ξ, aP P ss ce Ψ Ξ → ss.length = n := fun _ _ _ _ ⟨ds, d, e1, _, p, _⟩ => by rw [e1, List.length_map]; exact h ds d p
/-- data in, a new cell out -/
def aN (P : List D → CO → Prop) : ASpec := fun ss ce Ψ _ => ∃ ds co, ss = ds.map SV.im ∧ ce = [] ∧ P ds co ∧ Ψ (.cl 0) [co]
theorem aN.mono {P : List D → CO → Prop} : AMono (aN P) := fun _ _ _ _ _ _ h _ ⟨ds, d, e1, e2, p, q⟩ => ⟨ds, d, e1, e2, p, h _ _ q⟩
theorem aN.nox {P : List D → CO → Prop} : NoX (aN P) := fun _ _ _ _ _ ⟨ds, d, e1, e2, p, q⟩ => ⟨ds, d, e1, e2, p, q⟩
theorem aN.len {P : List D → CO → Prop} {n : Nat} (h : ∀ ds d, P ds d → ds.length = n) : ∀ ss ce Ψ Ξ, aN P ss ce Ψ Ξ → ss.length = n := fun _ _ _ _ ⟨ds, d, e1, _, p, _⟩ => by rw [e1, List.length_map]; exact h ds d p
/-- one cell first, then data; the cell goes on, data comes -/
def aB (P : CO → List D → D → CO → Prop) : ASpec := fun ss ce Ψ _ => ∃ co ds d co', ss = .cl 0 :: ds.map SV.im ∧ ce = [co] ∧ P co ds d co' ∧ Ψ (.im d) [co']
theorem aB.mono {P : CO → List D → D → CO → Prop} : AMono (aB P) := fun _ _ _ _ _ _ h _ ⟨co, ds, d, co', e1, e2, p, q⟩ => ⟨co, ds, d, co', e1, e2, p, h _ _ q⟩
theorem aB.nox {P : CO → List D → D → CO → Prop} : NoX (aB P) := fun _ _ _ _ _ ⟨co, ds, d, co', e1, e2, p, q⟩ => ⟨co, ds, d, co', e1, e2, p, q⟩
theorem aB.len {P : CO → List D → D → CO → Prop} {n : Nat} (h : ∀ co ds d co', P co ds d co' → ds.length = n) : ∀ ss ce Ψ Ξ, aB P ss ce Ψ Ξ → ss.length = n + 1 := fun _ _ _ _ ⟨co, ds, d, co', e1, _, p, _⟩ => by rw [e1, List.length_cons, List.length_map, h _ _ _ _ p]
/-- returns data: what a body has to show -/
theorem ret_im {Ψ : SV → List CO → Prop} {k : Nat} {d : D} {ce : List CO} (hb : (ce.take k).all (CO.bnd k) = true) (q : Ψ (.im d) (ce.take k)) : Ret Ψ k (.im d) ce := .inr (.inl ⟨d, rfl, hb, (fun _ z => by cases z), q⟩)
theorem ret_cl {Ψ : SV → List CO → Prop} {k c : Nat} {co : CO} {ce : List CO} (hc : ce[c]? = some co) (hk : Nat.ble k c = true) (hco : co.bnd k = true) (hb : (ce.take k).all (CO.bnd k) = true) (q : Ψ (.cl k) (ce.take k ++ [co])) : Ret Ψ k (.cl c) ce := .inr (.inr ⟨c, co, rfl, Nat.le_of_ble_eq_true hk, hc, hco, hb, q⟩)
theorem ret_fz {Ψ : SV → List CO → Prop} {k c : Nat} {d : D} {ce : List CO} (hd : dv ce (.cl c) = some d) (hk : Nat.ble k c = true) (hb : (ce.take k).all (CO.bnd k) = true) (q : Ψ (.im d) (ce.take k)) : Ret Ψ k (.cl c) ce := .inr (.inl ⟨d, hd, hb, (fun _ z => by cases z; exact Nat.le_of_ble_eq_true hk), q⟩)
/-! ## calls by shape -/
section
variable {K : PySem.W.Frag} {E : XK} {Ξ : Xn → Sta → Prop} {δ : Sta} {Ψ : SV → Sta → Prop} {ta te : TE} {tr : TA}
/-- a name whose cell is frozen: read as data -/
theorem we_varZ {i c : Nat} {d : D} (h : δ.sl[i]? = some (.cl c)) (e : imS δ.ce (.cl c) = some d) (k : Ψ (.im d) δ) : WE K E (tVar i) Ψ Ξ δ := by
  intro σ F I as H Q r cc
  rcases r.slots i _ h with z | ⟨v, h1, h2⟩
  · cases z
  · exact ⟨v, h1, cc.v (.im d) δ v I as H r (Le.refl I as) (r.imS e h2) k⟩
theorem bnd_im (ds : List D) (n : Nat) : (ds.map SV.im).all (SV.bnd n) = true := by
  induction ds with
  | nil => rfl
  | cons d ds ih => exact ih
def unIm : List SV → Option (List D)
  | [] => some []
  | .im d :: ss => (unIm ss).map (d :: ·)
  | _ => none
theorem unIm_map : ∀ {ss : List SV} {ds : List D}, unIm ss = some ds → ss = ds.map SV.im
  | [], ds, h => by cases h; rfl
  | .im d :: ss, ds, h => by
    have h' : (unIm ss).map (d :: ·) = some ds := h
    rw [Option.map_eq_some_iff] at h'
    obtain ⟨r, h1, rfl⟩ := h'
    rw [unIm_map h1]; rfl
  | .no :: ss, ds, h => by cases h
  | .cl c :: ss, ds, h => by cases h
theorem wc_P {P : List D → D → Prop} (h : WA K E tr (fun ss δ1 => ∃ ds d, unIm ss = some ds ∧ P ds d ∧ Ψ (.im d) δ1) Ξ δ) : WE K E (tCall (spAbs K (aP P)) [] E tr) Ψ Ξ δ :=
  we_callP aP.mono fun σ F I as H Q r c => h σ F I as H Q r ⟨fun s δ' v I' as' H' r' l rv k => by
    obtain ⟨ds, d, e, p, q⟩ := k
    cases unIm_map e
    exact c.v _ δ' v I' as' H' r' l rv ⟨bnd_im ds 0, ds, d, rfl, rfl, p, d, rfl, rfl, q⟩, c.x⟩
theorem wc_N {P : List D → CO → Prop} (h : WA K E tr (fun ss δ1 => ∃ ds co, unIm ss = some ds ∧ P ds co ∧ co.bnd 0 = true ∧ Ψ (.cl δ1.ce.length) ⟨δ1.sl, δ1.ce ++ [co]⟩) Ξ δ) : WE K E (tCall (spAbs K (aN P)) [] E tr) Ψ Ξ δ :=
  we_callN aN.mono fun σ F I as H Q r c => h σ F I as H Q r ⟨fun s δ' v I' as' H' r' l rv k => by
    obtain ⟨ds, co, e, p, hb, q⟩ := k
    cases unIm_map e
    exact c.v _ δ' v I' as' H' r' l rv ⟨bnd_im ds 0, ds, co, rfl, rfl, p, co, rfl, rfl, hb, q⟩, c.x⟩
/-! the box that the digits are drawn from: any three ints -/
def Bx (co : CO) : Prop := ∃ g s c : Int, co = .lst [.im (.int g), .im (.int s), .im (.int c)]
theorem Bx.live {co : CO} (h : Bx co) : co.live = true := by obtain ⟨g, s, c, rfl⟩ := h; rfl
theorem Bx.bnd {co : CO} {n : Nat} (h : Bx co) : co.bnd n = true := by obtain ⟨g, s, c, rfl⟩ := h; rfl
/-- the box and data in; any data of a kind out, the box goes on -/
def aX (pre : List D → Prop) (P : List D → D → Prop) : ASpec := fun ss ce Ψ _ => ∃ co ds, ss = .cl 0 :: ds.map SV.im ∧ ce = [co] ∧ Bx co ∧ pre ds ∧ ∀ d co', P ds d → Bx co' → Ψ (.im d) [co']
theorem aX.mono {pre : List D → Prop} {P : List D → D → Prop} : AMono (aX pre P) := fun _ _ _ _ _ _ h _ ⟨co, ds, e1, e2, b, p, q⟩ => ⟨co, ds, e1, e2, b, p, fun d co' h1 h2 => h _ _ (q d co' h1 h2)⟩
theorem aX.nox {pre : List D → Prop} {P : List D → D → Prop} : NoX (aX pre P) := fun _ _ _ _ _ ⟨co, ds, e1, e2, b, p, q⟩ => ⟨co, ds, e1, e2, b, p, q⟩
theorem aX.len {pre : List D → Prop} {P : List D → D → Prop} {n : Nat} (h : ∀ ds, pre ds → ds.length = n) : ∀ ss ce Ψ Ξ, aX pre P ss ce Ψ Ξ → ss.length = n + 1 := fun _ _ _ _ ⟨co, ds, e1, _, _, p, _⟩ => by rw [e1, List.length_cons, List.length_map, h _ p]
theorem wc_X {pre : List D → Prop} {P : List D → D → Prop} (h : WA K E tr (fun ss δ1 => ∃ b co rest ds, ss = .cl b :: rest ∧ unIm rest = some ds ∧ δ1.ce[b]? = some co ∧ Bx co ∧ pre ds ∧ ∀ d co', P ds d → Bx co' → Ψ (.im d) ⟨δ1.sl, δ1.ce.set b co'⟩) Ξ δ) : WE K E (tCall (spAbs K (aX pre P)) [] E tr) Ψ Ξ δ :=
  we_call1 aX.mono fun σ F I as H Q r c => h σ F I as H Q r ⟨fun s δ' v I' as' H' r' l rv k => by
    obtain ⟨b, co, rest, ds, rfl, e', e, hb, p, q⟩ := k
    cases unIm_map e'
    refine c.v _ δ' v I' as' H' r' l rv ⟨b, co, .cl 0 :: ds.map SV.im, e, hb.live, hb.bnd, ?_, ?_, co, ds, rfl, rfl, hb, p, fun d co' h1 h2 => ⟨d, co', rfl, rfl, h2.bnd, q d co' h1 h2⟩⟩
    · have : (ds.map SV.im).map (SV.ren fun _ => b) = ds.map SV.im := by rw [List.map_map]; rfl
      rw [List.map_cons, this]; rfl
    · show (decide (0 < 1) && (ds.map SV.im).all (SV.bnd 1)) = true
      rw [bnd_im]; rfl, c.x⟩
theorem wm_P {P : List D → D → Prop} {C : Addr} {m : Str} (h : WE K E ta (fun s δ1 => ∃ d fs, s = .im d ∧ d = .ins C fs ∧ fs.lookup m = none ∧
    WA K E tr (fun ss δ2 => ∃ ds r, unIm ss = some ds ∧ P (d :: ds) r ∧ Ψ (.im r) δ2) Ξ δ1) Ξ δ) : WE K E (tMeth C m (spAbs K (aP P)) [] E ta tr) Ψ Ξ δ :=
  we_methP aP.mono fun σ F I as H Q r c => h σ F I as H Q r ⟨fun s δ1 v I1 as1 H1 r1 l1 rv1 k1 => by
    obtain ⟨d, fs, e1, e2, e3, k1⟩ := k1
    refine c.v s δ1 v I1 as1 H1 r1 l1 rv1 ⟨d, fs, e1, e2, e3, fun σ F I as H Q r c => k1 σ F I as H Q r ⟨fun s δ' v I' as' H' r' l rv k => ?_, c.x⟩⟩
    obtain ⟨ds, y, e, p, q⟩ := k
    cases unIm_map e
    exact c.v _ δ' v I' as' H' r' l rv ⟨bnd_im ds 0, d :: ds, y, rfl, rfl, p, y, rfl, rfl, q⟩, c.x⟩
theorem wm_N {P : List D → CO → Prop} {C : Addr} {m : Str} (h : WE K E ta (fun s δ1 => ∃ d fs, imS δ1.ce s = some d ∧ d = .ins C fs ∧ fs.lookup m = none ∧
    WA K E tr (fun ss δ2 => ∃ ds co, unIm ss = some ds ∧ P (d :: ds) co ∧ co.bnd 0 = true ∧ Ψ (.cl δ2.ce.length) ⟨δ2.sl, δ2.ce ++ [co]⟩) Ξ δ1) Ξ δ) : WE K E (tMeth C m (spAbs K (aN P)) [] E ta tr) Ψ Ξ δ :=
  we_methN aN.mono fun σ F I as H Q r c => h σ F I as H Q r ⟨fun s δ1 v I1 as1 H1 r1 l1 rv1 k1 => by
    obtain ⟨d, fs, e1, e2, e3, k1⟩ := k1
    refine c.v s δ1 v I1 as1 H1 r1 l1 rv1 ⟨d, fs, e1, e2, e3, fun σ F I as H Q r c => k1 σ F I as H Q r ⟨fun s δ' v I' as' H' r' l rv k => ?_, c.x⟩⟩
    obtain ⟨ds, co, e, p, hb, q⟩ := k
    cases unIm_map e
    exact c.v _ δ' v I' as' H' r' l rv ⟨bnd_im ds 0, d :: ds, co, rfl, rfl, p, co, rfl, rfl, hb, q⟩, c.x⟩
/-- C(..), __init__ promises by aB: the cell is filled -/
theorem wk_B {P : CO → List D → D → CO → Prop} {C : Addr} {dds : List D} {dvs : List V} (hdv : ∀ I, RepL K I dds dvs) (h : WA K E tr (fun ss δ1 => ∃ ds co d, unIm ss = some ds ∧ P (.ins C []) (ds ++ dds) .non co ∧ co.bnd 0 = true ∧ dv [co] (.cl 0) = some d ∧ Ψ (.im d) δ1) Ξ δ) : WE K E (tMake C (spAbs K (aB P)) dvs E tr) Ψ Ξ δ :=
  we_make aB.mono hdv fun σ F I as H Q r c => h σ F I as H Q r ⟨fun s δ' v I' as' H' r' l rv k => by
    obtain ⟨ds, co, d, e', p, hb, e, q⟩ := k
    cases unIm_map e'
    exact c.v _ δ' v I' as' H' r' l rv ⟨bnd_im ds 0, .ins C [], ds ++ dds, .non, co, by rw [List.map_append], rfl, p, rfl, co, d, rfl, hb, e, q⟩, c.x⟩
end
end Cr
namespace Cr
open PySem L2
section
variable {K : PySem.W.Frag} {E : XK} {Ψ : SV → Sta → Prop} {Ξ : Xn → Sta → Prop} {δ : Sta} {s t : SV} {tr : TA}
/-! ## isinstance with one built-in class -/
def isiI : D → Option Bool
  | .non => some false | .bl _ => some true | .int _ => some true | .str _ => some false | .lst _ => some false | .tup _ => some false | .dic _ => some false | _ => none
def isiB : D → Option Bool
  | .non => some false | .bl _ => some true | .int _ => some false | .str _ => some false | .lst _ => some false | .tup _ => some false | .dic _ => some false | _ => none
def isiS : D → Option Bool
  | .non => some false | .bl _ => some false | .int _ => some false | .str _ => some true | .lst _ => some false | .tup _ => some false | .dic _ => some false | _ => none
theorem ci_int {x : D} {b : Bool} (e : dv δ.ce s = some x) (e2 : dv δ.ce t = some (.ty "int")) (h : isiI x = some b) (k : Ψ (.im (.bl b)) δ) : CbW K (rIsi K) [s, t] Ψ δ := by
  cases x <;> first
    | (cases h; done)
    | (cases h; exact cb_isi e e2 rfl (by decide +kernel) k)
theorem ci_bool {x : D} {b : Bool} (e : dv δ.ce s = some x) (e2 : dv δ.ce t = some (.ty "bool")) (h : isiB x = some b) (k : Ψ (.im (.bl b)) δ) : CbW K (rIsi K) [s, t] Ψ δ := by
  cases x <;> first
    | (cases h; done)
    | (cases h; exact cb_isi e e2 rfl (by decide +kernel) k)
theorem ci_str {x : D} {b : Bool} (e : dv δ.ce s = some x) (e2 : dv δ.ce t = some (.ty "str")) (h : isiS x = some b) (k : Ψ (.im (.bl b)) δ) : CbW K (rIsi K) [s, t] Ψ δ := by
  cases x <;> first
    | (cases h; done)
    | (cases h; exact cb_isi e e2 rfl (by decide +kernel) k)
/-! ## a digit of the box -/
def aT : ASpec := fun ss ce Ψ _ => ∃ co m, ss = [.cl 0, .im (.int m)] ∧ ce = [co] ∧ Bx co ∧ 0 < m ∧ m < 1073741824 ∧ ∀ (k : Int) co', 0 ≤ k → k < m → Bx co' → Ψ (.im (.int k)) [co']
theorem aT.mono : AMono aT := fun _ _ _ _ _ _ h _ ⟨co, m, e1, e2, b, p1, p2, q⟩ => ⟨co, m, e1, e2, b, p1, p2, fun k co' h1 h2 h3 => h _ _ (q k co' h1 h2 h3)⟩
theorem aT.nox : NoX aT := fun _ _ _ _ _ ⟨co, m, e1, e2, b, p1, p2, q⟩ => ⟨co, m, e1, e2, b, p1, p2, q⟩
theorem aT.len : ∀ ss ce Ψ Ξ, aT ss ce Ψ Ξ → ss.length = 2 := fun _ _ _ _ ⟨co, m, e1, _⟩ => by rw [e1]; rfl
theorem wc_T (h : WA K E tr (fun ss δ1 => ∃ b co m, ss = [.cl b, .im (.int m)] ∧ δ1.ce[b]? = some co ∧ Bx co ∧ 0 < m ∧ m < 1073741824 ∧ ∀ (k : Int) co', 0 ≤ k → k < m → Bx co' → Ψ (.im (.int k)) ⟨δ1.sl, δ1.ce.set b co'⟩) Ξ δ) : WE K E (tCall (spAbs K aT) [] E tr) Ψ Ξ δ :=
  we_call1 aT.mono fun σ F I as H Q r c => h σ F I as H Q r ⟨fun s δ' v I' as' H' r' l rv k => by
    obtain ⟨b, co, m, rfl, e, hb, p1, p2, q⟩ := k
    exact c.v _ δ' v I' as' H' r' l rv ⟨b, co, [.cl 0, .im (.int m)], e, hb.live, hb.bnd, rfl, rfl, co, m, rfl, rfl, hb, p1, p2, fun k co' h1 h2 h3 => ⟨.int k, co', rfl, rfl, h3.bnd, q k co' h1 h2 h3⟩⟩, c.x⟩
/-! ## one of a list -/
def aK : ASpec := fun ss ce Ψ _ => ∃ co xs, ss = [.cl 0, .im (.lst xs)] ∧ ce = [co] ∧ Bx co ∧ 0 < xs.length ∧ xs.length < 1000000 ∧ ∀ x co', x ∈ xs → Bx co' → Ψ (.im x) [co']
theorem aK.mono : AMono aK := fun _ _ _ _ _ _ h _ ⟨co, m, e1, e2, b, p1, p2, q⟩ => ⟨co, m, e1, e2, b, p1, p2, fun k co' h1 h2 => h _ _ (q k co' h1 h2)⟩
theorem aK.nox : NoX aK := fun _ _ _ _ _ ⟨co, m, e1, e2, b, p1, p2, q⟩ => ⟨co, m, e1, e2, b, p1, p2, q⟩
theorem aK.len : ∀ ss ce Ψ Ξ, aK ss ce Ψ Ξ → ss.length = 2 := fun _ _ _ _ ⟨co, m, e1, _⟩ => by rw [e1]; rfl
theorem wc_K (h : WA K E tr (fun ss δ1 => ∃ b co xs, ss = [.cl b, .im (.lst xs)] ∧ δ1.ce[b]? = some co ∧ Bx co ∧ 0 < xs.length ∧ xs.length < 1000000 ∧ ∀ x co', x ∈ xs → Bx co' → Ψ (.im x) ⟨δ1.sl, δ1.ce.set b co'⟩) Ξ δ) : WE K E (tCall (spAbs K aK) [] E tr) Ψ Ξ δ :=
  we_call1 aK.mono fun σ F I as H Q r c => h σ F I as H Q r ⟨fun s δ' v I' as' H' r' l rv k => by
    obtain ⟨b, co, xs, rfl, e, hb, p1, p2, q⟩ := k
    exact c.v _ δ' v I' as' H' r' l rv ⟨b, co, [.cl 0, .im (.lst xs)], e, hb.live, hb.bnd, rfl, rfl, co, xs, rfl, rfl, hb, p1, p2, fun k co' h1 h2 => ⟨k, co', rfl, rfl, h2.bnd, q k co' h1 h2⟩⟩, c.x⟩
theorem atI_of {xs : List D} {k : Int} (h0 : 0 ≤ k) (h1 : k < xs.length) : ∃ x, atI xs k = some x ∧ x ∈ xs := by
  obtain ⟨n, rfl⟩ := Int.eq_ofNat_of_zero_le h0
  have hn : n < xs.length := by omega
  refine ⟨xs[n], ?_, List.getElem_mem hn⟩
  unfold atI ixN
  simp [hn]
theorem atI_int {xs : List Int} {k : Int} (h0 : 0 ≤ k) (h1 : k < xs.length) : ∃ x, atI xs k = some x ∧ x ∈ xs := by
  obtain ⟨n, rfl⟩ := Int.eq_ofNat_of_zero_le h0
  have hn : n < xs.length := by omega
  refine ⟨xs[n], ?_, List.getElem_mem hn⟩
  unfold atI ixN
  simp [hn]
/-! ## the box's making: any box -/
def aM : ASpec := fun ss ce Ψ _ => ∃ (ns : List Int) (k : Int), ss = [.im (.scr ns), .im (.int k)] ∧ ce = [] ∧ 0 ≤ k ∧ ns.length < 1000000 ∧ ∀ co, Bx co → Ψ (.cl 0) [co]
theorem aM.mono : AMono aM := fun _ _ _ _ _ _ h _ ⟨co, m, e1, e2, b, p1, q⟩ => ⟨co, m, e1, e2, b, p1, fun co' h2 => h _ _ (q co' h2)⟩
theorem aM.nox : NoX aM := fun _ _ _ _ _ ⟨co, m, e1, e2, b, p1, q⟩ => ⟨co, m, e1, e2, b, p1, q⟩
theorem aM.len : ∀ ss ce Ψ Ξ, aM ss ce Ψ Ξ → ss.length = 2 := fun _ _ _ _ ⟨co, m, e1, _⟩ => by rw [e1]; rfl
theorem wc_M (h : WA K E tr (fun ss δ1 => ∃ (ns : List Int) (k : Int), ss = [.im (.scr ns), .im (.int k)] ∧ 0 ≤ k ∧ ns.length < 1000000 ∧ ∀ co, Bx co → Ψ (.cl δ1.ce.length) ⟨δ1.sl, δ1.ce ++ [co]⟩) Ξ δ) : WE K E (tCall (spAbs K aM) [] E tr) Ψ Ξ δ :=
  we_callN aM.mono fun σ F I as H Q r c => h σ F I as H Q r ⟨fun s δ' v I' as' H' r' l rv k => by
    obtain ⟨ns, m, rfl, p1, p2, q⟩ := k
    exact c.v _ δ' v I' as' H' r' l rv ⟨rfl, ns, m, rfl, rfl, p1, p2, fun co h1 => ⟨co, rfl, rfl, h1.bnd, q co h1⟩⟩, c.x⟩
theorem oa_ixI {w : World} {s1 s2 : SV} {x y : Int} {b : Bool} (e1 : imS δ.ce s1 = some (.lst [.int x, .int y])) (e2 : dv δ.ce s2 = some (.int (if b then 1 else 0))) (k : Ψ (.im (.int (if b then y else x))) δ) : OpW K (rIxB K w) s1 s2 Ψ δ := by
  cases b
  · exact oa_ixL e1 e2 rfl k
  · exact oa_ixL e1 e2 rfl k
theorem wps_nil {Ψp : List (Key × SV) → Sta → Prop} (h : Ψp [] δ) : WPs K E [] Ψp Ξ δ := h
theorem wps_cons {Ψp : List (Key × SV) → Sta → Prop} {tk tv : TE} {r : List (TE × TE)} (h : WE K E tk (fun s δ1 => WE K E tv (fun t δ2 => WPs K E r (fun ps δ3 => ∃ kd kk, imS δ3.ce s = some kd ∧ Cr.keyOf kd = some kk ∧ Ψp ((kk, t) :: ps) δ3) Ξ δ2) Ξ δ1) Ξ δ) : WPs K E ((tk, tv) :: r) Ψp Ξ δ := h
/-- for, where the cells made in a turn are dropped at its end -/
theorem ws_forC {Φ : Post} {ts : TS} {wi : TI} {g : TG} (h : WI K E wi (fun ds δ1 => ∃ P : Nat → Sta → Prop, P 0 δ1 ∧ (∀ i d δ2, ds[i]? = some d → P i δ2 → WG K g (.im d) (fun δ3 => WS K E ts { Φ with nx := fun δ4 => (δ4.ce.take δ1.ce.length).all (CO.bnd δ1.ce.length) = true ∧ P (i + 1) (δ4.cut δ1.ce.length), ct := fun δ4 => (δ4.ce.take δ1.ce.length).all (CO.bnd δ1.ce.length) = true ∧ P (i + 1) (δ4.cut δ1.ce.length), bk := Φ.nx } δ3) δ2) ∧ ∀ δ2, P ds.length δ2 → Φ.nx δ2) Φ.ex δ) : WS K E (tFor wi g ts) Φ δ := by
  intro σ F I as H D r c
  refine h σ F I as H _ r ⟨fun ds δ1 J I1 as1 H1 r1 l1 w k => ?_, fun x δ1 d I1 as1 H1 r1 l1 z k => c.x x δ1 σ d I1 as1 H1 r1 l1 z k⟩
  obtain ⟨P, p0, pt, pe⟩ := k
  refine ⟨fun i m σ' H' => m = ds.length - i ∧ i ≤ ds.length ∧ ∃ δ' I' as', R K δ' σ' F I' as' H' ∧ Le I1 as1 I' as' ∧ P i δ', ⟨ds.length, by simp, Nat.zero_le _, δ1, I1, as1, r1, Le.refl I1 as1, p0⟩, ?_⟩
  rintro i m σ2 H2 ⟨rfl, hi, δ2, I2, as2, r2, l2, p2⟩
  have e2 : Same I1 H2 := l2.i.trans r2.ih
  by_cases hlt : i < ds.length
  · refine .inr ⟨w.go i H2 e2 hlt, fun σ' H' => ∃ δ' I' as', R K δ' σ' F I' as' H' ∧ Le I1 as1 I' as' ∧ P (i + 1) δ', fun σ' H' p' => ⟨ds.length - (i + 1), by omega, rfl, hlt, p'⟩, fun x H3 y => ?_⟩
    have hd : ds[i]? = some ds[i] := List.getElem?_eq_getElem hlt
    obtain ⟨I3, r3, l3, q3⟩ := w.yld i _ x H2 H3 δ2 σ2 F I2 as2 hd l2.i r2 y
    refine pt i _ δ2 hd p2 σ2 F I3 as2 H3 x _ r3 q3 fun δ4 σ4 I4 as4 H4 r4 l4 k4 => ?_
    have l14 := (l2.trans l3).trans l4
    have c4 := c.later (l1.trans l14)
    have hk : as1.length ≤ δ1.ce.length := Nat.le_of_eq r1.clen
    refine k4 σ4 F I4 as4 H4 _ r4 ⟨fun δ5 σ5 I5 as5 H5 r5 l5 k5 => ⟨δ5.cut δ1.ce.length, I5, _, r5.cut k5.1, (l14.trans l5).cut hk, k5.2⟩, c4.rt, c4.nx, fun δ5 σ5 I5 as5 H5 r5 l5 k5 => ⟨δ5.cut δ1.ce.length, I5, _, r5.cut k5.1, (l14.trans l5).cut hk, k5.2⟩, c4.x⟩
  · have e : i = ds.length := by omega
    subst e
    exact .inl ⟨w.stop H2 e2, (c.later l1).nx δ2 σ2 I2 as2 H2 r2 l2 (pe δ2 p2)⟩
theorem Bx.mk (g s c : Int) : Bx (.lst [.im (.int g), .im (.int s), .im (.int c)]) := ⟨g, s, c, rfl⟩
end
end Cr
namespace Cr
open PySem L2
/-! ## the rules with K told: for blocks of comprehensions -/
section
variable {X : Cx} {K : PySem.W.Frag} {w : World}
theorem op_addA' (hK : X.K = K := by rfl) : OpR X (binaryOp .Add) (rAddA K) := by subst hK; exact op_addA
theorem op_eqA' {k : Nat} (hr : Room k X.A) (hK : X.K = K := by rfl) : OpR X (compareOp .Eq) (rEqA K) := by subst hK; exact op_eqA hr
theorem op_neA' {k : Nat} (hr : Room k X.A) (hK : X.K = K := by rfl) : OpR X (compareOp .NotEq) (rNeA K) := by subst hK; exact op_neA hr
theorem op_inA' (hu : X.A.units + 1 < cLine) (hK : X.K = K := by rfl) : OpR X (compareOp .In) (rInA K) := by subst hK; exact op_inA hu
theorem op_notinA' (hu : X.A.units + 1 < cLine) (hK : X.K = K := by rfl) : OpR X (compareOp .NotIn) (rNotInA K) := by subst hK; exact op_notinA hu
theorem ix_all' (hu : X.A.units + 1 < cLine) (hK : X.K = K := by rfl) (hw : X.w = w := by rfl) : IxR X (rIxB K w) := by subst hK hw; exact ix_all hu
theorem cl_len' (hK : X.K = K := by rfl) : CallR X (.builtin "len") (rLenA K) := by subst hK; exact cl_len
theorem call_isi' (hK : X.K = K := by rfl) : CallR X (.builtin "isinstance") (rIsi K) := by subst hK; exact call_isi
end
section
variable {X : Cx} {P : Program} {w : World} {K : PySem.W.Frag} {mg : Str → Option Value} {base : Heap} {CX : CXT} {k : Nat} {C : Addr} {ps : List Str} {A : ASpec} {E : XK} {x m : Str} {p pos apos : Pos} {e o : Expr} {es : List Expr} {ta : TE} {t : TA} {dvs : List V}
theorem pe_gf' (G : GF P w K mg base CX x ps k A) (hr : Room k X.A) (hg : Gl X x) (hx : Passes CX X E) (ha : PA X (e :: es) t) (hX : X.prog = P ∧ X.w = w ∧ X.K = K ∧ X.mg = mg ∧ X.base = base := by exact ⟨rfl, rfl, rfl, rfl, rfl⟩) (hdb : (x == ("__debug__" : Str)) = false := by decide)
    (he : starEach (e :: es) X.env = (false, eval e X.env) :: starEach es X.env := by rfl) (hpl : (backTo pos (starEach es X.env)).any (·.1) = false := by rfl) : PE X (.Call (.Name x p) (e :: es) [] pos) (tCall (spAbs K A) [] E t) := by
  obtain ⟨rfl, rfl, rfl, rfl, rfl⟩ := hX
  exact pe_gf G hr hg hx ha hdb he hpl
end
end Cr
namespace Cr
open PySem L2
/-! ## the head: a dict of tuples -/
def tabT (K : PySem.W.Frag) (g z : Str) (vs : List V) : Bool := match PySem.W.nsIn K (He.ga K g) z with
  | some (some (.ref t)) => (match K.lookup t with
    | some ⟨.type c, _, .seq its _, _⟩ => decide (c = "tuple") && (decide (its.size ≤ sizeLine) && He.relAll vs its.toList)
    | _ => false)
  | _ => false
theorem tabT_ok {K : PySem.W.Frag} {g z : Str} {vs : List V} (h : tabT K g z vs = true) : ∃ t, PySem.W.nsIn K (He.ga K g) z = some (some (.ref t)) ∧ ∀ H, SqT K H t vs := by
  unfold tabT at h
  split at h
  · rename_i t e
    split at h
    · rename_i c od its n sl q
      obtain ⟨h1, h2⟩ := He.ba h
      obtain ⟨h3, h4⟩ := He.ba h2
      exact ⟨t, e, fun H => .inr ⟨_, its, n, q, congrArg Value.type (of_decide_eq_true h1), rfl, of_decide_eq_true h3, He.relAll_ok h4⟩⟩
    · cases h
  · cases h
theorem kdct_of {K : PySem.W.Frag} {w : World} {a : Addr} {z : Str} {t : Addr} {es : Array DictEntry} {n : Nat} (k : KDict K w a es n) (h : PySem.W.nsIn K a z = some (some (.ref t))) : KDct K w a z (.ref t) := ⟨es, n, .ref t, k.at_, k.lit, h, rfl⟩
/-- the law's promise holds of any script -/
theorem spAbs_start {K : PySem.W.Frag} {A : ASpec} {H : Hp} {Q : VK} {E : XK} {a : Addr} {ns : List Int} (hS : SqL K H a (ns.map V.int)) (h : A [.im (.scr ns)] [] (fun s _ => s = .im (.bl true)) (fun _ _ => False)) (mA : AMono A) (hq : ∀ H', Q (.bl true) H') : spAbs K A [.ref a] H Q E := by
  refine ⟨[.im (.scr ns)], [], [], H, (fun o h => by cases h), ⟨fun b u e => ?_, fun b u e => .inr e, (fun c o b h1 => by simp at h1), Same.refl H, rfl, (fun i s h => by simp at h), rfl, (fun c o b h1 => by simp at h1), (fun c c' o o' b h1 => by simp at h1)⟩, ⟨.ref a, [], rfl, ⟨a, rfl, hS⟩, rfl⟩, ?_⟩
  · have e' : hid [] H b = some u := e
    rw [hid_out (by simp)] at e'; exact e'
  · refine mA _ _ _ _ _ _ (fun s ce hs => ?_) (fun x c h => h.elim) h
    intro v I' as' H' r l rv
    subst hs
    cases (show v = .bl true from rv)
    exact hq H'
end Cr
namespace K03
open PySem PySem.Spec PyProof.Rows L2 Cr
local macro_rules | `(tactic| walk_at "s") => `(tactic| first
  | ((with_reducible refine Cr.ws_seq ?_); try dsimp only [List.set, Int.reduceToNat, List.length, List.append_eq, List.cons_append, List.nil_append]) | ((with_reducible refine Cr.ws_ret (Cr.we_lst ?_)); try dsimp only [List.set, Int.reduceToNat, List.length, List.append_eq, List.cons_append, List.nil_append]) | with_reducible refine Cr.ws_set ?_ | with_reducible refine Cr.ws_asg ?_ | ((with_reducible refine Cr.ws_ret ?_); try dsimp only [List.set, Int.reduceToNat, List.length, List.append_eq, List.cons_append, List.nil_append]) | with_reducible refine Cr.ws_if ?_ | with_reducible refine Cr.ws_drop ?_ | with_reducible refine Cr.ws_par ?_ | with_reducible refine Cr.ws_next ?_ | with_reducible refine Cr.ws_dput ?_
  | with_reducible refine Cr.we_op ?_ | with_reducible refine Cr.we_cb ?_ | with_reducible refine Cr.wa_nil ?_ | with_reducible refine Cr.wa_cons ?_ | with_reducible refine Cr.we_int ?_ | with_reducible refine Cr.we_str ?_ | with_reducible refine Cr.we_bl ?_ | with_reducible refine Cr.we_ty ?_ | with_reducible refine Cr.we_non ?_ | with_reducible refine Cr.we_raw ?_
  | ((with_reducible apply Cr.we_varZ); rfl; rfl)
  | ((with_reducible apply Cr.we_var); rfl; (focus (intro z; cases z; done)))
  | with_reducible refine Cr.wt_test ?_ | with_reducible refine Cr.wt_B ?_ | with_reducible refine Cr.wt_and ?_ | with_reducible refine Cr.wt_or ?_ | with_reducible refine Cr.wt_not ?_ | with_reducible refine Cr.we_if ?_ | with_reducible refine Cr.we_andV ?_ | with_reducible refine Cr.we_orV ?_ | with_reducible refine Cr.we_notV ?_
  | with_reducible refine Cr.we_fld ?_ | with_reducible refine Cr.we_bm ?_ | with_reducible refine Cr.we_bm0 ?_ | with_reducible refine Cr.we_tup ?_ | with_reducible refine Cr.wc_P ?_ | with_reducible refine Cr.wc_X ?_ | with_reducible refine Cr.wc_T ?_ | with_reducible refine Cr.wc_K ?_ | with_reducible refine Cr.wc_M ?_ | with_reducible refine Cr.wc_N ?_ | with_reducible refine Cr.wm_N ?_ | with_reducible refine Cr.wg_setL ?_ | with_reducible refine Cr.wg_name ?_ | with_reducible refine Cr.wgs_cons ?_ | with_reducible refine Cr.wgs_nil ?_ | with_reducible refine Cr.we_lstF ?_ | with_reducible refine Cr.we_disp ?_ | with_reducible refine Cr.we_dispS ?_ | with_reducible refine Cr.wps_nil ?_ | with_reducible refine Cr.wps_cons ?_ | with_reducible refine Cr.wm_P ?_
  | ((with_reducible apply Cr.wg_fld); rfl; rfl; assumption; assumption; (exact Nat.le_of_ble_eq_true rfl))
  | ((with_reducible apply Cr.wg_tup); rfl; rfl)
  | ((with_reducible apply Cr.oa_add); rfl; rfl)
  | ((with_reducible apply Cr.ow_sub); rfl; rfl)
  | ((with_reducible apply Cr.oa_mul); rfl; rfl; (first | assumption | exact Cr.CMul.r (by decide) | exact Cr.CMul.l (by decide)))
  | ((with_reducible apply Cr.ow_div); rfl; rfl; (first | assumption | exact ⟨by decide, by decide⟩))
  | ((with_reducible apply Cr.ow_mod); rfl; rfl; (first | assumption | exact (by decide)))
  | ((with_reducible apply Cr.ow_pow); rfl; rfl; (exact ⟨by decide, by decide, by decide⟩))
  | ((with_reducible apply Cr.oa_lt); rfl; rfl)
  | ((with_reducible apply Cr.ow_le); rfl; rfl)
  | ((with_reducible apply Cr.ow_gt); rfl; rfl)
  | ((with_reducible apply Cr.ow_ge); rfl; rfl)
  | ((with_reducible apply Cr.ow_isN); rfl; rfl)
  | ((with_reducible apply Cr.ow_notN); rfl; rfl)
  | ((with_reducible apply Cr.oa_eq); rfl; rfl; rfl)
  | ((with_reducible apply Cr.oa_ne); rfl; rfl; rfl)
  | ((with_reducible apply Cr.oa_ixC); rfl; rfl; rfl)
  | ((with_reducible apply Cr.oa_ixI); rfl; rfl)
  | ((with_reducible apply Cr.oa_ixL); rfl; rfl; rfl)
  | ((with_reducible apply Cr.oa_ixT); rfl; rfl; rfl)
  | ((with_reducible apply Cr.oa_ixD); rfl; rfl; rfl; rfl)
  | ((with_reducible apply Cr.cb_int); rfl)
  | ((with_reducible apply Cr.cb_intB); rfl)
  | ((with_reducible apply Cr.cb_abs); rfl)
  | ((with_reducible apply Cr.cb_reprI); rfl; assumption)
  | ((with_reducible apply Cr.cb_dict); rfl)
  | ((with_reducible apply Cr.cb_max); rfl; rfl)
  | ((with_reducible apply Cr.cb_min); rfl; rfl)
  | ((with_reducible apply Cr.cb_len); rfl; (first | exact Cr.len_lst | exact Cr.len_scr | exact Cr.len_tup))
  | ((with_reducible apply Cr.ci_int); rfl; rfl; rfl)
  | ((with_reducible apply Cr.ci_bool); rfl; rfl; rfl)
  | ((with_reducible apply Cr.ci_str); rfl; rfl; rfl)
  | (apply And.intro; rotate_left; (focus (intro z; cases z; done)); intro _)
  | (apply And.intro; (focus (intro z; cases z; done)); intro _)
  | (refine ⟨_, _, _, rfl, rfl, by assumption, by first | decide | assumption | omega, by first | decide | assumption | omega, ?_⟩; intros)
  | refine ⟨_, _, _, rfl, by assumption, by assumption, rfl, ?_⟩
  | refine ⟨_, _, _, _, rfl, rfl, rfl, rfl, ?_⟩
  | refine ⟨_, _, _, _, rfl, rfl, rfl, rfl, by decide, ?_⟩
  | refine ⟨_, Nat.le_of_ble_eq_true rfl, rfl, ?_⟩
  | refine ⟨Nat.le_of_ble_eq_true rfl, ?_⟩
  | refine ⟨_, _, rfl, ?_⟩
  | refine ⟨_, _, rfl, rfl, ?_⟩
  | refine ⟨_, rfl, ?_⟩
  | refine ⟨rfl, ?_⟩
  | (apply And.intro; (focus (intro c z; cases z; first | done | exact Nat.ne_of_beq_eq_false rfl))))
local macro_rules | `(tactic| walk_at "go") => `(tactic| repeat (first | walk_at "s" | (dsimp only [List.set]; walk_at "s")))
local macro_rules | `(tactic| walk_at "in") => `(tactic| dsimp only [L2.cxOf, L2.Cx.nox, List.map, List.length_cons, List.length_nil, List.replicate, List.cons_append, List.nil_append, bodyPost, Nat.reduceAdd, Nat.reduceSub])
def top (i : Nat) : Stmt := PySem.Challenge.pw_sentparts_k03_numbers_rounded.main.body.getD i (.Pass ⟨0, 0, 0, 0⟩)
abbrev s_is_integer : Stmt := top 6
theorem sc_is_integer : FnScope ["value"] ["value"] (defScope s_is_integer) := ⟨rfl, rfl, rfl, by decide +kernel, rfl, by decide +kernel, by decide +kernel⟩
abbrev s_is_rule : Stmt := top 10
theorem sc_is_rule : FnScope ["word", "value"] ["word", "value"] (defScope s_is_rule) := ⟨rfl, rfl, rfl, by decide +kernel, rfl, by decide +kernel, by decide +kernel⟩
abbrev s_Ways___init__ : Stmt := inClass (top 11) 0
theorem sc_Ways___init__ : FnScope ["self", "case", "blanks", "empty", "lacking", "last", "unit", "halves", "word", "value"] ["self", "case", "blanks", "empty", "lacking", "last", "unit", "halves"] (defScope s_Ways___init__) := ⟨rfl, rfl, rfl, by decide +kernel, rfl, by decide +kernel, by decide +kernel⟩
abbrev s_Ways_rules : Stmt := inClass (top 11) 2
theorem sc_Ways_rules : FnScope ["self", "found"] ["self"] (defScope s_Ways_rules) := ⟨rfl, rfl, rfl, by decide +kernel, rfl, by decide +kernel, by decide +kernel⟩
abbrev s_Ways_rounded : Stmt := inClass (top 11) 4
theorem sc_Ways_rounded : FnScope ["self", "number", "low", "high", "twice"] ["self", "number"] (defScope s_Ways_rounded) := ⟨rfl, rfl, rfl, by decide +kernel, rfl, by decide +kernel, by decide +kernel⟩
abbrev s_Ways_seen : Stmt := inClass (top 11) 5
theorem sc_Ways_seen : FnScope ["self", "cell", "found"] ["self", "cell"] (defScope s_Ways_seen) := ⟨rfl, rfl, rfl, by decide +kernel, rfl, by decide +kernel, by decide +kernel⟩
abbrev s__law_box : Stmt := top 13
theorem sc__law_box : FnScope ["_law_script", "_law_k", "_law_great", "_law_seed"] ["_law_script", "_law_k"] (defScope s__law_box) := ⟨rfl, rfl, rfl, by decide +kernel, rfl, by decide +kernel, by decide +kernel⟩
abbrev s__law_take : Stmt := top 14
theorem sc__law_take : FnScope ["_law_box_here", "_law_many", "_law_digit", "_law_near"] ["_law_box_here", "_law_many"] (defScope s__law_take) := ⟨rfl, rfl, rfl, by decide +kernel, rfl, by decide +kernel, by decide +kernel⟩
abbrev s__law_pick : Stmt := top 15
theorem sc__law_pick : FnScope ["_law_box_here", "_law_some"] ["_law_box_here", "_law_some"] (defScope s__law_pick) := ⟨rfl, rfl, rfl, by decide +kernel, rfl, by decide +kernel, by decide +kernel⟩
abbrev s__law_number : Stmt := top 16
theorem sc__law_number : FnScope ["_law_box_here"] ["_law_box_here"] (defScope s__law_number) := ⟨rfl, rfl, rfl, by decide +kernel, rfl, by decide +kernel, by decide +kernel⟩
abbrev s__law_rules : Stmt := top 17
theorem sc__law_rules : FnScope ["_law_box_here", "_law_found"] ["_law_box_here"] (defScope s__law_rules) := ⟨rfl, rfl, rfl, by decide +kernel, rfl, by decide +kernel, by decide +kernel⟩
abbrev s__law_ways : Stmt := top 18
theorem sc__law_ways : FnScope ["_law_rules_here", "_law_first"] ["_law_rules_here"] (defScope s__law_ways) := ⟨rfl, rfl, rfl, by decide +kernel, rfl, by decide +kernel, by decide +kernel⟩
abbrev s__law_rounded : Stmt := top 19
theorem sc__law_rounded : FnScope ["_law_rules_here", "_law_number_here", "_law_size", "_law_half", "_law_below", "_law_off"] ["_law_rules_here", "_law_number_here"] (defScope s__law_rounded) := ⟨rfl, rfl, rfl, by decide +kernel, rfl, by decide +kernel, by decide +kernel⟩
abbrev s_law : Stmt := top 20
theorem sc_law : FnScope ["_law_script", "_law_k", "_law_box_here", "_law_rules_here", "_law_ways_here", "_law_numbers", "_law_turn", "_law_number_here", "_law_found", "_law_unit", "_law_halves", "_law_near", "_law_made", "_law_spot"] ["_law_script"] (defScope s_law) := ⟨rfl, rfl, rfl, by decide +kernel, rfl, by decide +kernel, by decide +kernel⟩
/-! ### what the top holds -/
def ruleD : List (Str × D) := [("case", .tup [.str "exact", .str "folded"]), ("blanks", .tup [.str "kept", .str "dropped"]), ("empty", .tup [.str "text", .str "lacks"]), ("lacking", .tup [.str "unknown", .str "unlike", .str "alike"]), ("unit", .tup [.int 1, .int 2, .int 5, .int 10]), ("halves", .tup [.str "up", .str "even", .str "cut"])]
structure Txt (mg : Str → Option Value) (K : PySem.W.Frag) (w : World) (A_RULES C : Addr) : Prop where
  b_len : mg "len" = none
  b_abs : mg "abs" = none
  b_int : mg "int" = none
  b_max : mg "max" = none
  b_min : mg "min" = none
  b_repr : mg "repr" = none
  b_isinstance : mg "isinstance" = none
  b_dict : mg "dict" = none
  b_range : mg "range" = none
  b_list : mg "list" = none
  b_bool : mg "bool" = none
  b_str : mg "str" = none
  g_RULES : mg "RULES" = some (.ref A_RULES)
  rules : ∀ z d, (z, d) ∈ ruleD → ∃ v, KDct K w A_RULES z v ∧ ∀ I, Rep K I d v
  cls : Cls K C
  n1 : NoAttr K C "case"
  n2 : NoAttr K C "blanks"
  n3 : NoAttr K C "empty"
  n4 : NoAttr K C "lacking"
  n5 : NoAttr K C "last"
  n6 : NoAttr K C "unit"
  n7 : NoAttr K C "halves"
section
variable {P : Program} {w : World} {K : PySem.W.Frag} {mg : Str → Option Value} {base : Heap} {f A_RULES C : Addr} {fd : FuncData}
abbrev FnP (K : PySem.W.Frag) (x q : Str) (st : Stmt) (f : Addr) (fd : FuncData) : Prop := FunD K x q (defArgs st) (defBody st) (defScope st) [] [] f fd
/-! ### the box -/
theorem ok_take (T : Txt mg K w A_RULES C) (F : FnP K "_law_take" "_law_take" s__law_take f fd) : FnOk P w K mg base CX0 1 f fd ["_law_box_here", "_law_many"] (spAbs K aT) := by
  refine fn_abs0 aT.mono aT.nox F sc__law_take (by decide) aT.len fun cdv Ar outer s H E hr => ?_
  have hu := hu_of hr
  refine ⟨_, (pss_cons (ps_if (pt_cmpR op_gt (pe_ix (ix_all hu) (pv 0) pe_int (fun _ _ => rfl)) pe_int (nomark _)) (pss_cons (ps_set (i := 2) sc__law_take.nd rfl (Or.inl rfl) (pe_op op_mod (pe_callTy cl_int (by rfl) T.b_int (by decide +kernel) (pa_cons (pe_ix (ix_all hu) (pv 0) pe_int (fun _ _ => rfl)) pa_nil)) (pv 1)))
      (pss_cons (ps_asg (pe_op op_fdiv (pe_ix (ix_all hu) (pv 0) pe_int (fun _ _ => rfl)) (pv 1)) (pg_sub (pv 0) pe_int set_list))
      (pss_one (ps_ret (pv 2))))) pss_nil)
      (pss_cons (ps_asg (pe_op op_addA (pe_ix (ix_all hu) (pv 0) pe_int (fun _ _ => rfl)) pe_int) (pg_sub (pv 0) pe_int set_list))
      (pss_cons (ps_set (i := 3) sc__law_take.nd rfl (Or.inl rfl) (pe_op op_mod (pe_callTy cl_int (by rfl) T.b_int (by decide +kernel) (pa_cons (pe_op op_mulA (pe_op op_addA (pe_ix (ix_all hu) (pv 0) pe_int (fun _ _ => rfl)) (pe_op op_mulA pe_int (pe_ix (ix_all hu) (pv 0) pe_int (fun _ _ => rfl)))) pe_int) pa_nil)) pe_int))
      (pss_cons (ps_asg (pe_op op_addA (pe_op op_mod (pe_callTy cl_int (by rfl) T.b_int (by decide +kernel) (pa_cons (pe_op op_addA (pe_op op_mulA (pv 3) pe_int) pe_int) pa_nil)) pe_int) pe_int) (pg_sub (pv 0) pe_int set_list))
      (pss_one (ps_ret (pe_op op_mod (pe_callTy cl_int (by rfl) T.b_int (by decide +kernel) (pa_cons (pe_op op_fdiv (pe_op op_addA (pe_op op_mulA (pv 3) pe_int) (pe_ix (ix_all hu) (pv 0) pe_int (fun _ _ => rfl))) pe_int) pa_nil)) (pv 1)))))))), fun ss ce Ψ h => ?_⟩
  obtain ⟨co, m, rfl, rfl, ⟨g, sd, c, rfl⟩, m0, m1, q⟩ := h
  have hm : CDiv g m := ⟨m0, m1⟩
  walk_at "in"
  walk_at "go"
  refine ⟨fun _ => ?_, fun _ => ?_⟩
  · walk_at "go"
    exact ret_im rfl (q _ _ (Int.emod_nonneg _ (by omega)) (Int.emod_lt_of_pos _ m0) (Bx.mk _ _ _))
  · walk_at "go"
    exact ret_im rfl (q _ _ (Int.emod_nonneg _ (by omega)) (Int.emod_lt_of_pos _ m0) (Bx.mk _ _ _))
theorem ok_box (T : Txt mg K w A_RULES C) (F : FnP K "_law_box" "_law_box" s__law_box f fd) : FnOk P w K mg base CX0 1 f fd ["_law_script", "_law_k"] (spAbs K aM) := by
  refine fn_abs0 aM.mono aM.nox F sc__law_box (by decide) aM.len fun cdv Ar outer s H E hr => ?_
  have hu := hu_of hr
  refine ⟨_, (pss_cons (ps_set (i := 2) sc__law_box.nd rfl (Or.inl rfl) (pe_op op_addA (pe_op op_mulA pe_int (pv 1)) pe_int))
      (pss_cons (ps_if (pt_cmpR op_ltA (pv 1) (pe_callB cl_len (by rfl) T.b_len (by decide +kernel) (pa_cons (pv 0) pa_nil)) (nomark _)) (pss_one (ps_set (i := 2) sc__law_box.nd rfl (Or.inl rfl) (pe_callB cl_abs (by rfl) T.b_abs (by decide +kernel) (pa_cons (pe_callTy cl_int (by rfl) T.b_int (by decide +kernel) (pa_cons (pe_ix (ix_all hu) (pv 0) (pv 1) (fun _ _ => rfl)) pa_nil)) pa_nil)))) (pss_one (ps_if (pt_cmpR op_gt (pe_callB cl_len (by rfl) T.b_len (by decide +kernel) (pa_cons (pv 0) pa_nil)) pe_int (nomark _)) (pss_one (ps_set (i := 2) sc__law_box.nd rfl (Or.inl rfl) (pe_op op_addA (pv 2) (pe_op op_mulA (pe_op op_mod (pe_callTy cl_int (by rfl) T.b_int (by decide +kernel) (pa_cons (pe_ix (ix_all hu) (pv 0) (pe_op op_mod (pe_callTy cl_int (by rfl) T.b_int (by decide +kernel) (pa_cons (pv 1) pa_nil)) (pe_callB cl_len (by rfl) T.b_len (by decide +kernel) (pa_cons (pv 0) pa_nil))) (fun _ _ => rfl)) pa_nil)) pe_int) pe_int)))) pss_nil)))
      (pss_cons (ps_set (i := 3) sc__law_box.nd rfl (Or.inl rfl) (pe_op op_addA (pe_op op_mod (pe_callTy cl_int (by rfl) T.b_int (by decide +kernel) (pa_cons (pe_op op_addA (pe_op op_addA (pe_op op_mulA (pe_op op_mod (pe_callTy cl_int (by rfl) T.b_int (by decide +kernel) (pa_cons (pv 2) pa_nil)) pe_int) pe_int) (pe_op op_mulA pe_int (pv 1))) pe_int) pa_nil)) pe_int) pe_int))
      (pss_one (ps_ret (pe_lst (pa_cons (pe_ix (ix_all hu) (pe_lst (pa_cons pe_int (pa_cons (pv 2) pa_nil))) (pe_callTy cl_int (by rfl) T.b_int (by decide +kernel) (pa_cons (pe_cmpR op_ge (pv 2) (pe_op op_pow pe_int pe_int) (nomark _)) pa_nil)) (fun _ _ => rfl)) (pa_cons (pv 3) (pa_cons pe_int pa_nil))))))))), fun ss ce Ψ h => ?_⟩
  obtain ⟨ns, k, rfl, rfl, k0, hn, q⟩ := h
  walk_at "in"
  walk_at "go"
  refine ⟨fun hk => ?_, fun hk => ?_⟩
  · have hk' : k < ns.length := of_decide_eq_true hk
    obtain ⟨x, e, _⟩ := atI_int k0 hk'
    walk_at "go"
    refine oa_ixP rfl rfl e ?_
    walk_at "go"
    exact .inl (q _ (Bx.mk _ _ _))
  · walk_at "go"
    refine ⟨fun hl => ?_, fun hl => ?_⟩
    · have hl' : (0 : Int) < ns.length := of_decide_eq_true hl
      obtain ⟨x, e, _⟩ := atI_int (Int.emod_nonneg k (by omega)) (Int.emod_lt_of_pos k hl')
      walk_at "go"
      refine oa_ixP rfl rfl e ?_
      walk_at "go"
      exact .inl (q _ (Bx.mk _ _ _))
    · walk_at "go"
      exact .inl (q _ (Bx.mk _ _ _))
theorem ok_pick (T : Txt mg K w A_RULES C) (G__law_take : GF P w K mg base CX0 "_law_take" ["_law_box_here", "_law_many"] 1 aT) (F : FnP K "_law_pick" "_law_pick" s__law_pick f fd) : FnOk P w K mg base CX0 2 f fd ["_law_box_here", "_law_some"] (spAbs K aK) := by
  refine fn_abs0 aK.mono aK.nox F sc__law_pick (by decide) aK.len fun cdv Ar outer s H E hr => ?_
  have hu := hu_of hr
  refine ⟨_, (pss_one (ps_ret (pe_ix (ix_all hu) (pv 1) (pe_gf G__law_take (hr.mono (by decide)) (by rfl) pass0 (pa_cons (pv 0) (pa_cons (pe_callB cl_len (by rfl) T.b_len (by decide +kernel) (pa_cons (pv 1) pa_nil)) pa_nil))) (fun _ _ => rfl)))), fun ss ce Ψ h => ?_⟩
  obtain ⟨co, xs, rfl, rfl, hb, h0, h1, q⟩ := h
  walk_at "in"
  walk_at "go"
  rename_i k1 co1 p1 p2 hb1
  obtain ⟨x, e, hx⟩ := atI_of p1 p2
  refine oa_ixL rfl rfl e ?_
  exact ret_im (by show (co1.bnd 1 && true) = true; rw [hb1.bnd]; rfl) (q _ _ hx hb1)
/-! ### is_integer, is_rule -/
def isIntD : D → Bool
  | .int _ => true
  | _ => false
def pIsInt (ds : List D) (d : D) : Prop := ∃ x n, ds = [x] ∧ tyN x = some n ∧ d = .bl (isIntD x)
theorem ok_is_integer (T : Txt mg K w A_RULES C) (F : FnP K "is_integer" "is_integer" s_is_integer f fd) : FnOk P w K mg base CX0 1 f fd ["value"] (spAbs K (aP pIsInt)) := by
  refine fn_abs0 aP.mono aP.nox F sc_is_integer (by decide) (aP.len (n := 1) fun ds d ⟨x, n, e, _⟩ => by rw [e]; rfl) fun cdv Ar outer s H E hr => ?_
  have hu := hu_of hr
  refine ⟨_, (pss_one (ps_ret (pe_and (pe_callB call_isi (by rfl) T.b_isinstance (by decide +kernel) (pa_cons (pv 0) (pa_cons (pe_bltn (v := .ty "int") rfl T.b_int (by decide +kernel) rfl) pa_nil))) (pe_one (pe_not (pe_callB call_isi (by rfl) T.b_isinstance (by decide +kernel) (pa_cons (pv 0) (pa_cons (pe_bltn (v := .ty "bool") rfl T.b_bool (by decide +kernel) rfl) pa_nil)))))))), fun ss ce Ψ h => ?_⟩
  obtain ⟨ds, d, rfl, rfl, ⟨x, n, rfl, hx, rfl⟩, q⟩ := h
  walk_at "in"
  cases x with
  | ty n => cases hx
  | raw n => cases hx
  | ins C fs => cases hx
  | scr n => cases hx
  | _ =>
    walk_at "go"
    exact ret_im rfl q
/-- a rule's word and a value it takes -/
def okRule (z : Str) (x : D) : Prop := (z = "last" ∧ ∃ b, x = .bl b) ∨ (z = "unit" ∧ ∃ i : Int, x = .int i ∧ i ∈ [1, 2, 5, 10]) ∨ (z = "case" ∧ ∃ i : Str, x = .str i ∧ i ∈ ([("exact" : Str), "folded"] : List Str)) ∨ (z = "blanks" ∧ ∃ i : Str, x = .str i ∧ i ∈ ([("kept" : Str), "dropped"] : List Str)) ∨ (z = "empty" ∧ ∃ i : Str, x = .str i ∧ i ∈ ([("text" : Str), "lacks"] : List Str)) ∨ (z = "lacking" ∧ ∃ i : Str, x = .str i ∧ i ∈ ([("unknown" : Str), "unlike", "alike"] : List Str)) ∨ (z = "halves" ∧ ∃ i : Str, x = .str i ∧ i ∈ ([("up" : Str), "even", "cut"] : List Str))
def pIsRule (ds : List D) (d : D) : Prop := ∃ z x, ds = [.str z, x] ∧ okRule z x ∧ d = .bl true
theorem in_yes {x : D} {xs : List D} (h : x ∈ xs) (hf : flatD x = true) : inF x xs = true := by
  unfold inF
  refine List.any_eq_true.mpr ⟨x, h, ?_⟩
  cases x <;> first | (cases hf; done) | rfl | simp [eqF]
theorem ok_is_rule (T : Txt mg K w A_RULES C) (G_is_integer : GF P w K mg base CX0 "is_integer" ["value"] 1 (aP pIsInt)) (F : FnP K "is_rule" "is_rule" s_is_rule f fd) : FnOk P w K mg base CX0 2 f fd ["word", "value"] (spAbs K (aP pIsRule)) := by
  refine fn_abs0 aP.mono aP.nox F sc_is_rule (by decide) (aP.len (n := 2) fun ds d ⟨x, n, e, _⟩ => by rw [e]; rfl) fun cdv Ar outer s H E hr => ?_
  have hu := hu_of hr
  refine ⟨_, (pss_cons (ps_if (pt_cmpR (op_eqA hr) (pv 0) pe_str (nomark _)) (pss_one (ps_ret (pe_callB call_isi (by rfl) T.b_isinstance (by decide +kernel) (pa_cons (pv 1) (pa_cons (pe_bltn (v := .ty "bool") rfl T.b_bool (by decide +kernel) rfl) pa_nil))))) pss_nil)
      (pss_cons (ps_if (pt_cmpR (op_eqA hr) (pv 0) pe_str (nomark _)) (pss_one (ps_ret (pe_and (pe_gf G_is_integer (hr.mono (by decide)) (by rfl) pass0 (pa_cons (pv 1) pa_nil)) (pe_one (pe_cmpR (op_inA hu) (pv 1) (pe_ix (ix_all hu) (pe_glob (v := .ref A_RULES) rfl T.g_RULES rfl) (pv 0) (fun _ _ => rfl)) (by rfl)))))) pss_nil)
      (pss_one (ps_ret (pe_and (pe_callB call_isi (by rfl) T.b_isinstance (by decide +kernel) (pa_cons (pv 1) (pa_cons (pe_bltn (v := .ty "str") rfl T.b_str (by decide +kernel) rfl) pa_nil))) (pe_one (pe_cmpR (op_inA hu) (pv 1) (pe_ix (ix_all hu) (pe_glob (v := .ref A_RULES) rfl T.g_RULES rfl) (pv 0) (fun _ _ => rfl)) (by rfl)))))))), fun ss ce Ψ h => ?_⟩
  obtain ⟨ds, d, rfl, rfl, ⟨z, x, rfl, hx, rfl⟩, q⟩ := h
  rcases hx with ⟨rfl, b, rfl⟩ | ⟨rfl, i, rfl, hi⟩ | ⟨rfl, i, rfl, hi⟩ | ⟨rfl, i, rfl, hi⟩ | ⟨rfl, i, rfl, hi⟩ | ⟨rfl, i, rfl, hi⟩ | ⟨rfl, i, rfl, hi⟩
  · walk_at "in"
    walk_at "go"
    exact ret_im rfl q
  · obtain ⟨v, hk, hd⟩ := T.rules "unit" _ (List.Mem.tail _ (List.Mem.tail _ (List.Mem.tail _ (List.Mem.tail _ (List.Mem.head _)))))
    walk_at "in"
    walk_at "go"
    refine ⟨_, _, rfl, ⟨_, _, rfl, rfl, rfl⟩, ?_⟩
    walk_at "go"
    refine oa_ixK rfl rfl hk hd ?_
    refine oa_in rfl (.inr rfl) rfl rfl ?_
    refine ret_im rfl ?_
    rw [in_yes (by simp; simpa using hi) rfl]
    exact q
  · obtain ⟨v, hk, hd⟩ := T.rules "case" _ (List.Mem.head _)
    walk_at "in"
    walk_at "go"
    refine oa_ixK rfl rfl hk hd ?_
    refine oa_in rfl (.inr rfl) rfl rfl ?_
    refine ret_im rfl ?_
    rw [in_yes (by simp; simpa using hi) rfl]
    exact q
  · obtain ⟨v, hk, hd⟩ := T.rules "blanks" _ (List.Mem.tail _ (List.Mem.head _))
    walk_at "in"
    walk_at "go"
    refine oa_ixK rfl rfl hk hd ?_
    refine oa_in rfl (.inr rfl) rfl rfl ?_
    refine ret_im rfl ?_
    rw [in_yes (by simp; simpa using hi) rfl]
    exact q
  · obtain ⟨v, hk, hd⟩ := T.rules "empty" _ (List.Mem.tail _ (List.Mem.tail _ (List.Mem.head _)))
    walk_at "in"
    walk_at "go"
    refine oa_ixK rfl rfl hk hd ?_
    refine oa_in rfl (.inr rfl) rfl rfl ?_
    refine ret_im rfl ?_
    rw [in_yes (by simp; simpa using hi) rfl]
    exact q
  · obtain ⟨v, hk, hd⟩ := T.rules "lacking" _ (List.Mem.tail _ (List.Mem.tail _ (List.Mem.tail _ (List.Mem.head _))))
    walk_at "in"
    walk_at "go"
    refine oa_ixK rfl rfl hk hd ?_
    refine oa_in rfl (.inr rfl) rfl rfl ?_
    refine ret_im rfl ?_
    rw [in_yes (by simp; simpa using hi) rfl]
    exact q
  · obtain ⟨v, hk, hd⟩ := T.rules "halves" _ (List.Mem.tail _ (List.Mem.tail _ (List.Mem.tail _ (List.Mem.tail _ (List.Mem.tail _ (List.Mem.head _))))))
    walk_at "in"
    walk_at "go"
    refine oa_ixK rfl rfl hk hd ?_
    refine oa_in rfl (.inr rfl) rfl rfl ?_
    refine ret_im rfl ?_
    rw [in_yes (by simp; simpa using hi) rfl]
    exact q
/-! ### Ways -/
/-- an instance of Ways, as data -/
def wy (C : Addr) (a b e l : Str) (la : Bool) (u : Int) (h : Str) : D := .ins C [("case", .str a), ("blanks", .str b), ("empty", .str e), ("lacking", .str l), ("last", .bl la), ("unit", .int u), ("halves", .str h)]
structure Vw (a b e l : Str) (u : Int) (h : Str) : Prop where
  a : a ∈ ([("exact" : Str), "folded"] : List Str)
  b : b ∈ ([("kept" : Str), "dropped"] : List Str)
  e : e ∈ ([("text" : Str), "lacks"] : List Str)
  l : l ∈ ([("unknown" : Str), "unlike", "alike"] : List Str)
  u : u ∈ ([1, 2, 5, 10] : List Int)
  h : h ∈ ([("up" : Str), "even", "cut"] : List Str)
/-- its rules, as data -/
def rlD (a b e l : Str) (la : Bool) (u : Int) (h : Str) : List (Key × D) := [(.inr "case", .str a), (.inr "blanks", .str b), (.inr "empty", .str e), (.inr "lacking", .str l), (.inr "last", .bl la), (.inr "unit", .int u), (.inr "halves", .str h)]
def imKv (kds : List (Key × D)) : List (Key × SV) := kds.map fun p => (p.1, SV.im p.2)
def pRules (C : Addr) (ds : List D) (co : CO) : Prop := ∃ a b e l la u h, ds = [wy C a b e l la u h] ∧ co = .dic (imKv (rlD a b e l la u h))
theorem ok_rules (T : Txt mg K w A_RULES C) (F : FnP K "rules" "Ways.rules" s_Ways_rules f fd) : FnOk P w K mg base CX0 1 f fd ["self"] (spAbs K (aN (pRules C))) := by
  refine fn_abs0 aN.mono aN.nox F sc_Ways_rules (by decide) (aN.len (n := 1) fun ds d ⟨a, b, e, l, la, u, h, z, _⟩ => by rw [z]; rfl) fun cdv Ar outer s H E hr => ?_
  have hu := hu_of hr
  refine ⟨_, (pss_cons (ps_set (i := 1) sc_Ways_rules.nd rfl (Or.inl rfl) (pe_disp (pps_cons pe_str (pe_fld (pv 0) rfl) (pps_cons pe_str (pe_fld (pv 0) rfl) (pps_cons pe_str (pe_fld (pv 0) rfl) (pps_cons pe_str (pe_fld (pv 0) rfl) pps_nil)))) (by rfl) (by rfl) (fun z => by cases z) (by decide)))
      (pss_one (ps_ret (pe_dispS (pv 1) (pps_cons pe_str (pe_fld (pv 0) rfl) (pps_cons pe_str (pe_fld (pv 0) rfl) (pps_cons pe_str (pe_fld (pv 0) rfl) pps_nil))) (by rfl) (by rfl) (fun z => by cases z) (by decide))))), fun ss ce Ψ hh => ?_⟩
  obtain ⟨ds, d, rfl, rfl, ⟨a, b, e, l, la, u, h, rfl, rfl⟩, q⟩ := hh
  have c0 := T.cls
  have c1 := T.n1
  have c2 := T.n2
  have c3 := T.n3
  have c4 := T.n4
  have c5 := T.n5
  have c6 := T.n6
  have c7 := T.n7
  walk_at "in"
  walk_at "go"
  exact ret_cl (co := .dic (imKv (rlD a b e l la u h))) rfl rfl rfl rfl q
end
section
variable {P : Program} {w : World} {K : PySem.W.Frag} {mg : Str → Option Value} {base : Heap} {f A_RULES C : Addr} {fd : FuncData}
/-! ### Ways(..) -/
def pInit (C : Addr) (co : CO) (ds : List D) (d : D) (co' : CO) : Prop := ∃ a b e l la u h, co = .ins C [] ∧ ds = [.str a, .str b, .str e, .str l, .bl la, .int u, .str h] ∧ Vw a b e l u h ∧ d = .non ∧ co' = .fz (wy C a b e l la u h)
theorem pairs_ok {a b e l : Str} {la : Bool} {u : Int} {h : Str} (v : Vw a b e l u h) {i : Nat} {d : D} (hd : (pairsD (rlD a b e l la u h))[i]? = some d) : ∃ z x, d = .tup [.str z, x] ∧ okRule z x := by
  have hm := List.mem_of_getElem? hd
  simp only [pairsD, rlD, List.map, List.mem_cons, List.not_mem_nil, or_false] at hm
  rcases hm with rfl | rfl | rfl | rfl | rfl | rfl | rfl
  · exact ⟨_, _, rfl, .inr (.inr (.inl ⟨rfl, a, rfl, v.a⟩))⟩
  · exact ⟨_, _, rfl, .inr (.inr (.inr (.inl ⟨rfl, b, rfl, v.b⟩)))⟩
  · exact ⟨_, _, rfl, .inr (.inr (.inr (.inr (.inl ⟨rfl, e, rfl, v.e⟩))))⟩
  · exact ⟨_, _, rfl, .inr (.inr (.inr (.inr (.inr (.inl ⟨rfl, l, rfl, v.l⟩)))))⟩
  · exact ⟨_, _, rfl, .inl ⟨rfl, la, rfl⟩⟩
  · exact ⟨_, _, rfl, .inr (.inl ⟨rfl, u, rfl, v.u⟩)⟩
  · exact ⟨_, _, rfl, .inr (.inr (.inr (.inr (.inr (.inr ⟨rfl, h, rfl, v.h⟩)))))⟩
theorem ok_init {dvs : List V} (T : Txt mg K w A_RULES C) (G_rules : GM P w K mg base CX0 C "rules" ["self"] 1 (aN (pRules C))) (G_is_rule : GF P w K mg base CX0 "is_rule" ["word", "value"] 2 (aP pIsRule)) (F : FunD K "__init__" "Ways.__init__" (defArgs s_Ways___init__) (defBody s_Ways___init__) (defScope s_Ways___init__) dvs [] f fd) : FnOk P w K mg base CX0 3 f fd ["self", "case", "blanks", "empty", "lacking", "last", "unit", "halves"] (spAbs K (aB (pInit C))) := by
  refine fn_abs0 aB.mono aB.nox F sc_Ways___init__ (by decide) (aB.len (n := 7) fun co ds d co' ⟨a, b, e, l, la, u, h, _, z, _⟩ => by rw [z]; rfl) fun cdv Ar outer s H E hr => ?_
  have hu := hu_of hr
  refine ⟨_, (pss_cons (ps_asg (pe_tup (pa_cons (pv 1) (pa_cons (pv 2) (pa_cons (pv 3) (pa_cons (pv 4) pa_nil))))) (pg_tup rfl (pgs_cons (pg_fld (pv 0)) (pgs_cons (pg_fld (pv 0)) (pgs_cons (pg_fld (pv 0)) (pgs_cons (pg_fld (pv 0)) pgs_nil))))))
      (pss_cons (ps_asg (pe_tup (pa_cons (pv 5) (pa_cons (pv 6) (pa_cons (pv 7) pa_nil)))) (pg_tup rfl (pgs_cons (pg_fld (pv 0)) (pgs_cons (pg_fld (pv 0)) (pgs_cons (pg_fld (pv 0)) pgs_nil)))))
      (pss_one (ps_for PassesOwn.never rfl (pi_items (pe_lk (pe_gm G_rules (fun hm F hb => pe_meth0 (pv 0) G_rules.cl hm F (hr.mono (by decide)) hb .nil pass0)))) (pg_tup rfl (pgs_cons (pg_name (i := 8) sc_Ways___init__.nd rfl (Or.inl rfl)) (pgs_cons (pg_name (i := 9) sc_Ways___init__.nd rfl (Or.inl rfl)) pgs_nil))) (pss_one (ps_if (pt_not (pt_val (pe_gf G_is_rule (hr.mono (by decide)) (by rfl) pass0 (pa_cons (pv 8) (pa_cons (pv 9) pa_nil))))) (pss_one ps_never) pss_nil)))))), fun ss ce Ψ hh => ?_⟩
  obtain ⟨co, ds, d, co', rfl, rfl, ⟨a, b, e, l, la, u, h, rfl, rfl, v, rfl, rfl⟩, q⟩ := hh
  have c0 := T.cls
  have c1 := T.n1
  have c2 := T.n2
  have c3 := T.n3
  have c4 := T.n4
  have c5 := T.n5
  have c6 := T.n6
  have c7 := T.n7
  walk_at "in"
  walk_at "go"
  refine ws_fz (c := 0) (d := wy C a b e l la u h) rfl ?_
  refine ws_for ?_
  refine wi_items ?_
  walk_at "go"
  refine ⟨[], _, rfl, ⟨a, b, e, l, la, u, h, rfl, rfl⟩, rfl, ?_⟩
  refine ⟨_, _, rlD a b e l la u h, rfl, rfl, rfl, ?_⟩
  refine ⟨fun _ δ => ∃ s1 s2, δ = ⟨[.cl 0, .im (.str a), .im (.str b), .im (.str e), .im (.str l), .im (.bl la), .im (.int u), .im (.str h), s1, s2], [.fz (wy C a b e l la u h), .fz (.dic (rlD a b e l la u h))]⟩, ⟨.no, .no, rfl⟩, ?_, ?_⟩
  · rintro i d δ2 hd ⟨s1, s2, rfl⟩
    obtain ⟨z, x, rfl, hx⟩ := pairs_ok v hd
    walk_at "go"
    refine ⟨_, _, rfl, ⟨_, _, rfl, hx, rfl⟩, ?_⟩
    walk_at "go"
    exact ⟨_, _, rfl⟩
  · rintro δ2 ⟨s1, s2, rfl⟩
    exact ret_im rfl q
end
section
variable {P : Program} {w : World} {K : PySem.W.Frag} {mg : Str → Option Value} {base : Heap} {f A_RULES C : Addr} {fd : FuncData}
/-! ### rounded, seen -/
def rnd (u : Int) (h : Str) (n : Int) : Int :=
  if 2 * (n - n / u * u) = 0 then n else
  if h = "cut" then (if 0 < n then n / u * u else n / u * u + u) else
  if 2 * (n - n / u * u) = u then (if h = "even" then (if n / u * u / u % 2 = 0 then n / u * u else n / u * u + u) else n / u * u + u) else
  if 2 * (n - n / u * u) < u then n / u * u else n / u * u + u
def pRound (C : Addr) (ds : List D) (d : D) : Prop := ∃ a b e l la u h n, ds = [wy C a b e l la u h, .int n] ∧ 0 < u ∧ u < 1073741824 ∧ d = .int (rnd u h n)
theorem ok_rounded (T : Txt mg K w A_RULES C) (F : FnP K "rounded" "Ways.rounded" s_Ways_rounded f fd) : FnOk P w K mg base CX0 1 f fd ["self", "number"] (spAbs K (aP (pRound C))) := by
  refine fn_abs0 aP.mono aP.nox F sc_Ways_rounded (by decide) (aP.len (n := 2) fun ds d ⟨a, b, e, l, la, u, h, n, z, _⟩ => by rw [z]; rfl) fun cdv Ar outer s H E hr => ?_
  have hu := hu_of hr
  refine ⟨_, (pss_cons (ps_set (i := 2) sc_Ways_rounded.nd rfl (Or.inl rfl) (pe_op op_mulA (pe_op op_fdiv (pv 1) (pe_fld (pv 0) rfl)) (pe_fld (pv 0) rfl)))
      (pss_cons (ps_par (i := 3) (j := 4) rfl sc_Ways_rounded.nd rfl rfl (by decide) rfl rfl (pa_cons (pe_op op_addA (pv 2) (pe_fld (pv 0) rfl)) (pa_cons (pe_op op_mulA pe_int (pe_op op_sub (pv 1) (pv 2))) pa_nil)) (by rfl))
      (pss_cons (ps_if (pt_cmpR (op_eqA hr) (pv 4) pe_int (nomark _)) (pss_one (ps_ret (pv 1))) pss_nil)
      (pss_cons (ps_if (pt_cmpR (op_eqA hr) (pe_fld (pv 0) rfl) pe_str (nomark _)) (pss_one (ps_ret (pe_ifExp (pt_cmpR op_gt (pv 1) pe_int (nomark _)) (pv 2) (pv 3)))) pss_nil)
      (pss_cons (ps_if (pt_cmpR (op_neA hr) (pv 4) (pe_fld (pv 0) rfl) (nomark _)) (pss_one (ps_ret (pe_ifExp (pt_cmpR op_ltA (pv 4) (pe_fld (pv 0) rfl) (nomark _)) (pv 2) (pv 3)))) pss_nil)
      (pss_one (ps_ret (pe_ifExp (PW.pt (pw_and (pt_cmpR (op_eqA hr) (pe_fld (pv 0) rfl) pe_str (nomark _)) (pw_and1 (pt_cmpR (op_eqA hr) (pe_op op_mod (pe_callTy cl_int (by rfl) T.b_int (by decide +kernel) (pa_cons (pe_op op_fdiv (pv 2) (pe_fld (pv 0) rfl)) pa_nil)) pe_int) pe_int (nomark _))))) (pv 2) (pv 3))))))))), fun ss ce Ψ hh => ?_⟩
  obtain ⟨ds, d, rfl, rfl, ⟨a, b, e, l, la, u, h, n, rfl, u0, u1, rfl⟩, q⟩ := hh
  have c0 := T.cls
  have c6 := T.n6
  have c7 := T.n7
  have hd : ∀ i, CDiv i u := fun i => ⟨u0, u1⟩
  have hm : ∀ i, CMul i u := fun i => .inr ⟨by omega, by omega⟩
  have hd1 := hd n
  have hm1 := hm (n / u)
  have hd2 := hd (n / u * u)
  unfold rnd at q
  walk_at "in"
  walk_at "go"
  refine ⟨fun h1 => ?_, fun h1 => ?_⟩
  · walk_at "go"
    rw [if_pos (of_decide_eq_true h1)] at q
    exact ret_im rfl q
  rw [if_neg (of_decide_eq_false h1)] at q
  walk_at "go"
  refine ⟨fun h2 => ?_, fun h2 => ?_⟩
  · rw [if_pos (of_decide_eq_true h2)] at q
    walk_at "go"
    refine ⟨fun h3 => ?_, fun h3 => ?_⟩
    · rw [if_pos (of_decide_eq_true h3)] at q
      walk_at "go"
      exact ret_im rfl q
    · rw [if_neg (of_decide_eq_false h3)] at q
      walk_at "go"
      exact ret_im rfl q
  rw [if_neg (of_decide_eq_false h2)] at q
  walk_at "go"
  refine ⟨fun h3 => ?_, fun h3 => ?_⟩
  · have h3' : decide (2 * (n - n / u * u) = u) = false := by revert h3; cases decide (2 * (n - n / u * u) = u) <;> simp
    rw [if_neg (of_decide_eq_false h3')] at q
    walk_at "go"
    refine ⟨fun h4 => ?_, fun h4 => ?_⟩
    · rw [if_pos (of_decide_eq_true h4)] at q
      walk_at "go"
      exact ret_im rfl q
    · rw [if_neg (of_decide_eq_false h4)] at q
      walk_at "go"
      exact ret_im rfl q
  have h3' : decide (2 * (n - n / u * u) = u) = true := by revert h3; cases decide (2 * (n - n / u * u) = u) <;> simp
  rw [if_pos (of_decide_eq_true h3')] at q
  walk_at "go"
  refine ⟨fun h4 => ?_, fun h4 => ?_⟩
  · rw [if_pos (of_decide_eq_true h4)] at q
    walk_at "go"
    refine ⟨fun h5 => ?_, fun h5 => ?_⟩
    · rw [if_pos (of_decide_eq_true h5)] at q
      walk_at "go"
      exact ret_im rfl q
    · rw [if_neg (of_decide_eq_false h5)] at q
      walk_at "go"
      exact ret_im rfl q
  · rw [if_neg (of_decide_eq_false h4)] at q
    walk_at "go"
    exact ret_im rfl q
def pSeenN (C : Addr) (ds : List D) (d : D) : Prop := ∃ a b e l la u h n, ds = [wy C a b e l la u h, .int n] ∧ 0 < u ∧ u < 1073741824 ∧ d = .int (rnd u h n)
theorem ok_seenN (T : Txt mg K w A_RULES C) (G_rounded : GM P w K mg base CX0 C "rounded" ["self", "number"] 1 (aP (pRound C))) (F : FnP K "seen" "Ways.seen" s_Ways_seen f fd) : FnOk P w K mg base CX0 2 f fd ["self", "cell"] (spAbs K (aP (pSeenN C))) := by
  refine fn_abs0 aP.mono aP.nox F sc_Ways_seen (by decide) (aP.len (n := 2) fun ds d ⟨a, b, e, l, la, u, h, n, z, _⟩ => by rw [z]; rfl) fun cdv Ar outer s H E hr => ?_
  have hu := hu_of hr
  refine ⟨_, (pss_cons (ps_if (pt_cmpR op_isN' (pv 1) pe_non (nomark _)) (pss_one (ps_ret pe_non)) pss_nil)
      (pss_cons (ps_if (pt_not (pt_val (pe_callB call_isi (by rfl) T.b_isinstance (by decide +kernel) (pa_cons (pv 1) (pa_cons (pe_bltn (v := .ty "str") rfl T.b_str (by decide +kernel) rfl) pa_nil))))) (pss_one (ps_ret (pe_gm G_rounded (fun hm F hb => pe_meth (pv 0) G_rounded.cl hm F (hr.mono (by decide)) hb .nil pass0 (pa_cons (pv 1) pa_nil))))) pss_nil)
      (pss_cons (ps_set (i := 2) sc_Ways_seen.nd rfl (Or.inl rfl) (pe_ifExp (pt_cmpR (op_eqA hr) (pe_fld (pv 0) rfl) pe_str (nomark _)) (pe_bm PySem.F.plainAttrs_str PySem.F.slot_str_rstrip PySem.F.type_str_rstrip mtr_rstrip (pv 1) (pa_cons pe_str pa_nil)) (pv 1)))
      (pss_cons (ps_if (PW.pt (pw_and (pt_cmpR (op_eqA hr) (pv 2) pe_str (nomark _)) (pw_and1 (pt_cmpR (op_eqA hr) (pe_fld (pv 0) rfl) pe_str (nomark _))))) (pss_one (ps_ret pe_non)) pss_nil)
      (pss_one (ps_ret (pe_ifExp (pt_cmpR (op_eqA hr) (pe_fld (pv 0) rfl) pe_str (nomark _)) (pe_bm0 PySem.F.plainAttrs_str PySem.F.slot_str_lower PySem.F.type_str_lower mtr_lower (pv 2)) (pv 2)))))))), fun ss ce Ψ hh => ?_⟩
  obtain ⟨ds, d, rfl, rfl, ⟨a, b, e, l, la, u, h, n, rfl, u0, u1, rfl⟩, q⟩ := hh
  walk_at "in"
  walk_at "go"
  exact ⟨_, _, rfl, ⟨a, b, e, l, la, u, h, n, rfl, u0, u1, rfl⟩, ret_im rfl q⟩
end
section
variable {P : Program} {w : World} {K : PySem.W.Frag} {mg : Str → Option Value} {base : Heap} {f A_RULES C : Addr} {fd : FuncData}
/-! ### the law's own rules, ways, numbers -/
def pNumber (ds : List D) (d : D) : Prop := ∃ n : Int, d = .int n ∧ -1000000 ≤ n ∧ n ≤ 1000000
theorem ok_number (T : Txt mg K w A_RULES C) (G__law_take : GF P w K mg base CX0 "_law_take" ["_law_box_here", "_law_many"] 1 aT) (F : FnP K "_law_number" "_law_number" s__law_number f fd) : FnOk P w K mg base CX0 2 f fd ["_law_box_here"] (spAbs K (aX (fun ds => ds = []) pNumber)) := by
  refine fn_abs0 aX.mono aX.nox F sc__law_number (by decide) (aX.len (n := 0) fun ds e => by rw [e]; rfl) fun cdv Ar outer s H E hr => ?_
  have hu := hu_of hr
  refine ⟨_, (pss_cons (ps_if (pt_cmpR (op_eqA hr) (pe_gf G__law_take (hr.mono (by decide)) (by rfl) pass0 (pa_cons (pv 0) (pa_cons pe_int pa_nil))) pe_int (nomark _)) (pss_one (ps_ret (pe_op op_mulA (pe_ix (ix_all hu) (pe_lst (pa_cons pe_int (pa_cons (pe_op op_sub pe_int pe_int) pa_nil))) (pe_gf G__law_take (hr.mono (by decide)) (by rfl) pass0 (pa_cons (pv 0) (pa_cons pe_int pa_nil))) (fun _ _ => rfl)) (pe_op op_sub (pe_op op_pow pe_int pe_int) (pe_gf G__law_take (hr.mono (by decide)) (by rfl) pass0 (pa_cons (pv 0) (pa_cons pe_int pa_nil))))))) pss_nil)
      (pss_one (ps_ret (pe_op op_sub (pe_op op_addA (pe_op op_mulA pe_int (pe_op op_sub (pe_gf G__law_take (hr.mono (by decide)) (by rfl) pass0 (pa_cons (pv 0) (pa_cons pe_int pa_nil))) pe_int)) (pe_gf G__law_take (hr.mono (by decide)) (by rfl) pass0 (pa_cons (pv 0) (pa_cons pe_int pa_nil)))) pe_int)))), fun ss ce Ψ h => ?_⟩
  obtain ⟨co, ds, rfl, rfl, hb, rfl, q⟩ := h
  walk_at "in"
  walk_at "go"
  refine ⟨fun _ => ?_, fun _ => ?_⟩
  · walk_at "go"
    rename_i k2 co2 p1 p2 hb2
    obtain ⟨x, e, hx⟩ := atI_of (xs := [.int 1, .int (0 - 1)]) p1 p2
    have hx' : ∃ i : Int, x = .int i ∧ (i = 1 ∨ i = -1) := by
      simp only [List.mem_cons, List.not_mem_nil, or_false] at hx
      rcases hx with rfl | rfl
      · exact ⟨_, rfl, .inl rfl⟩
      · exact ⟨_, rfl, .inr rfl⟩
    obtain ⟨i, rfl, hi⟩ := hx'
    refine oa_ixL rfl rfl e ?_
    walk_at "go"
    rename_i k3 co3 p3 p4 hb3
    refine oa_mul rfl rfl (.inl (by omega)) ?_
    refine ret_im (by show (co3.bnd 1 && true) = true; rw [hb3.bnd]; rfl) (q _ _ ⟨_, rfl, ?_, ?_⟩ hb3)
    · rcases hi with rfl | rfl <;> simp <;> omega
    · rcases hi with rfl | rfl <;> simp <;> omega
  · walk_at "go"
    rename_i k3 co3 p3 p4 hb3 k4 co4 p5 p6 hb4
    refine ret_im (by show (co4.bnd 1 && true) = true; rw [hb4.bnd]; rfl) (q _ _ ⟨_, rfl, ?_, ?_⟩ hb4)
    · omega
    · omega
def pLawRules (ds : List D) (d : D) : Prop := ∃ a b e l la u h, Vw a b e l u h ∧ d = .dic (rlD a b e l la u h)
theorem mem_str {x : D} {xs : List Str} (h : x ∈ xs.map D.str) : ∃ s, x = .str s ∧ s ∈ xs := by
  obtain ⟨s, h1, rfl⟩ := List.mem_map.mp h
  exact ⟨s, rfl, h1⟩
theorem mem_int {x : D} {xs : List Int} (h : x ∈ xs.map D.int) : ∃ s, x = .int s ∧ s ∈ xs := by
  obtain ⟨s, h1, rfl⟩ := List.mem_map.mp h
  exact ⟨s, rfl, h1⟩
theorem ok_law_rules (T : Txt mg K w A_RULES C) (G__law_take : GF P w K mg base CX0 "_law_take" ["_law_box_here", "_law_many"] 1 aT) (G__law_pick : GF P w K mg base CX0 "_law_pick" ["_law_box_here", "_law_some"] 2 aK) (F : FnP K "_law_rules" "_law_rules" s__law_rules f fd) : FnOk P w K mg base CX0 3 f fd ["_law_box_here"] (spAbs K (aX (fun ds => ds = []) pLawRules)) := by
  refine fn_abs0 aX.mono aX.nox F sc__law_rules (by decide) (aX.len (n := 0) fun ds e => by rw [e]; rfl) fun cdv Ar outer s H E hr => ?_
  have hu := hu_of hr
  refine ⟨_, (pss_cons (ps_set (i := 1) sc__law_rules.nd rfl (Or.inl rfl) (pe_disp (pps_cons pe_str (pe_gf G__law_pick (hr.mono (by decide)) (by rfl) pass0 (pa_cons (pv 0) (pa_cons (pe_lst (pa_cons pe_str (pa_cons pe_str pa_nil))) pa_nil))) (pps_cons pe_str (pe_gf G__law_pick (hr.mono (by decide)) (by rfl) pass0 (pa_cons (pv 0) (pa_cons (pe_lst (pa_cons pe_str (pa_cons pe_str pa_nil))) pa_nil))) pps_nil)) (by rfl) (by rfl) (fun z => by cases z) (by decide)))
      (pss_cons (ps_dput hu (pv 1) pe_str (pe_gf G__law_pick (hr.mono (by decide)) (by rfl) pass0 (pa_cons (pv 0) (pa_cons (pe_lst (pa_cons pe_str (pa_cons pe_str pa_nil))) pa_nil))) rfl)
      (pss_cons (ps_dput hu (pv 1) pe_str (pe_gf G__law_pick (hr.mono (by decide)) (by rfl) pass0 (pa_cons (pv 0) (pa_cons (pe_lst (pa_cons pe_str (pa_cons pe_str (pa_cons pe_str pa_nil)))) pa_nil))) rfl)
      (pss_cons (ps_dput hu (pv 1) pe_str (pe_cmpR (op_eqA hr) (pe_gf G__law_take (hr.mono (by decide)) (by rfl) pass0 (pa_cons (pv 0) (pa_cons pe_int pa_nil))) pe_int (nomark _)) rfl)
      (pss_cons (ps_dput hu (pv 1) pe_str (pe_gf G__law_pick (hr.mono (by decide)) (by rfl) pass0 (pa_cons (pv 0) (pa_cons (pe_lst (pa_cons pe_int (pa_cons pe_int (pa_cons pe_int (pa_cons pe_int pa_nil))))) pa_nil))) rfl)
      (pss_cons (ps_dput hu (pv 1) pe_str (pe_gf G__law_pick (hr.mono (by decide)) (by rfl) pass0 (pa_cons (pv 0) (pa_cons (pe_lst (pa_cons pe_str (pa_cons pe_str (pa_cons pe_str pa_nil)))) pa_nil))) rfl)
      (pss_one (ps_ret (pv 1))))))))), fun ss ce Ψ h => ?_⟩
  obtain ⟨co, ds, rfl, rfl, hb, rfl, q⟩ := h
  walk_at "in"
  walk_at "go"
  rename_i x1 o1 m1 b1 x2 o2 m2 b2 x3 o3 m3 b3 x4 o4 m4 b4 k5 o5 p5 p5' b5 x6 o6 m6 b6 x7 o7 m7 b7
  obtain ⟨a, rfl, v1⟩ := mem_str (xs := [("exact" : Str), "folded"]) m1
  obtain ⟨b, rfl, v2⟩ := mem_str (xs := [("kept" : Str), "dropped"]) m2
  obtain ⟨e, rfl, v3⟩ := mem_str (xs := [("text" : Str), "lacks"]) m3
  obtain ⟨l, rfl, v4⟩ := mem_str (xs := [("unknown" : Str), "unlike", "alike"]) m4
  obtain ⟨u, rfl, v6⟩ := mem_int (xs := [1, 2, 5, 10]) m6
  obtain ⟨h, rfl, v7⟩ := mem_str (xs := [("up" : Str), "even", "cut"]) m7
  exact ret_fz (d := .dic (rlD a b e l (decide (k5 = 0)) u h)) rfl rfl (by show (o7.bnd 1 && true) = true; rw [b7.bnd]; rfl) (q _ _ ⟨a, b, e, l, _, u, h, ⟨v1, v2, v3, v4, v6, v7⟩, rfl⟩ b7)
def pLawWays (C : Addr) (ds : List D) (d : D) : Prop := ∃ a b e l la u h, ds = [.dic (rlD a b e l la u h)] ∧ Vw a b e l u h ∧ d = wy C a b e l la u h
theorem ok_law_ways (T : Txt mg K w A_RULES C) (G_Ways : GK P w K mg base CX0 "Ways" C ["self", "case", "blanks", "empty", "lacking", "last", "unit", "halves"] [] 3 (aB (pInit C))) (F : FnP K "_law_ways" "_law_ways" s__law_ways f fd) : FnOk P w K mg base CX0 5 f fd ["_law_rules_here"] (spAbs K (aP (pLawWays C))) := by
  refine fn_abs0 aP.mono aP.nox F sc__law_ways (by decide) (aP.len (n := 1) fun ds d ⟨a, b, e, l, la, u, h, z, _⟩ => by rw [z]; rfl) fun cdv Ar outer s H E hr => ?_
  have hu := hu_of hr
  refine ⟨_, (pss_cons (ps_set (i := 1) sc__law_ways.nd rfl (Or.inl rfl) (pe_lst (pa_cons (pe_ix (ix_all hu) (pv 0) pe_str (fun _ _ => rfl)) (pa_cons (pe_ix (ix_all hu) (pv 0) pe_str (fun _ _ => rfl)) (pa_cons (pe_ix (ix_all hu) (pv 0) pe_str (fun _ _ => rfl)) (pa_cons (pe_ix (ix_all hu) (pv 0) pe_str (fun _ _ => rfl)) pa_nil))))))
      (pss_one (ps_ret (pe_gk G_Ways (fun hm F hg hb hd => pe_make hm F (hr.mono (by decide)) (by rfl) hg hb hd pass0 (pa_cons (pe_ix (ix_all hu) (pv 1) pe_int (fun _ _ => rfl)) (pa_cons (pe_ix (ix_all hu) (pv 1) pe_int (fun _ _ => rfl)) (pa_cons (pe_ix (ix_all hu) (pv 1) pe_int (fun _ _ => rfl)) (pa_cons (pe_ix (ix_all hu) (pv 1) pe_int (fun _ _ => rfl)) (pa_cons (pe_ix (ix_all hu) (pv 0) pe_str (fun _ _ => rfl)) (pa_cons (pe_ix (ix_all hu) (pv 0) pe_str (fun _ _ => rfl)) (pa_cons (pe_ix (ix_all hu) (pv 0) pe_str (fun _ _ => rfl)) pa_nil)))))))))))), fun ss ce Ψ hh => ?_⟩
  obtain ⟨ds, d, rfl, rfl, ⟨a, b, e, l, la, u, h, rfl, v, rfl⟩, q⟩ := hh
  walk_at "in"
  walk_at "go"
  refine wk_B (dds := []) (fun _ => rfl) ?_
  walk_at "go"
  exact ⟨_, _, wy C a b e l la u h, rfl, ⟨a, b, e, l, la, u, h, rfl, rfl, v, rfl, rfl⟩, rfl, rfl, ret_im rfl q⟩
end
section
variable {P : Program} {w : World} {K : PySem.W.Frag} {mg : Str → Option Value} {base : Heap} {f A_RULES C : Addr} {fd : FuncData}
/-! ### the law's own rounding -/
theorem lr_cut {u n : Int} (hu : u ∈ ([1, 2, 5, 10] : List Int)) : (if n < 0 then -n else n) / u * u * (if decide (n < 0) then 0 - 1 else 1) = rnd u "cut" n := by
  unfold rnd
  simp only [List.mem_cons, List.not_mem_nil, or_false] at hu
  rw [if_pos (show ("cut" : Str) = "cut" from rfl)]
  by_cases hn : n < 0
  · rw [if_pos hn, decide_eq_true hn, if_pos rfl]
    rcases hu with rfl | rfl | rfl | rfl <;> (repeat' split) <;> omega
  · rw [if_neg hn, decide_eq_false hn, if_neg Bool.false_ne_true]
    rcases hu with rfl | rfl | rfl | rfl <;> (repeat' split) <;> omega
theorem lr_up {u n : Int} {h : Str} (hu : u ∈ ([1, 2, 5, 10] : List Int)) (h1 : ¬ h = "cut") (h2 : 2 * (n - n / u * u) - u = 0) (h3 : h = "up" ∨ n / u % 2 = 1) : u * (n / u + 1) = rnd u h n := by
  unfold rnd
  simp only [List.mem_cons, List.not_mem_nil, or_false] at hu
  rw [if_neg h1]
  have h4 : h = "even" → n / u % 2 = 1 := fun z => by
    rcases h3 with h3 | h3
    · rw [z] at h3; exact absurd h3 (by decide +kernel)
    · exact h3
  by_cases he : h = "even"
  · have h5 := h4 he
    rw [if_pos he]
    rcases hu with rfl | rfl | rfl | rfl <;> (repeat' split) <;> omega
  · rw [if_neg he]
    rcases hu with rfl | rfl | rfl | rfl <;> (repeat' split) <;> omega
theorem lr_dn {u n : Int} {h : Str} (hu : u ∈ ([1, 2, 5, 10] : List Int)) (hh : h ∈ ([("up" : Str), "even", "cut"] : List Str)) (h1 : ¬ h = "cut") (h2 : 2 * (n - n / u * u) - u = 0) (h3 : ¬ h = "up") (h4 : ¬ n / u % 2 = 1) : u * (n / u + 0) = rnd u h n := by
  unfold rnd
  simp only [List.mem_cons, List.not_mem_nil, or_false] at hu hh
  have he : h = "even" := by
    rcases hh with z | z | z
    · exact absurd z h3
    · exact z
    · exact absurd z h1
  rw [if_neg h1, if_pos he]
  rcases hu with rfl | rfl | rfl | rfl <;> (repeat' split) <;> omega
theorem lr_off {u n : Int} {h : Str} (hu : u ∈ ([1, 2, 5, 10] : List Int)) (h1 : ¬ h = "cut") (h2 : ¬ 2 * (n - n / u * u) - u = 0) : u * (n / u + if decide (0 < 2 * (n - n / u * u) - u) then 1 else 0) = rnd u h n := by
  unfold rnd
  simp only [List.mem_cons, List.not_mem_nil, or_false] at hu
  rw [if_neg h1]
  by_cases hp : 0 < 2 * (n - n / u * u) - u
  · rw [decide_eq_true hp, if_pos rfl]
    rcases hu with rfl | rfl | rfl | rfl <;> (repeat' split) <;> omega
  · rw [decide_eq_false hp, if_neg Bool.false_ne_true]
    rcases hu with rfl | rfl | rfl | rfl <;> (repeat' split) <;> omega
/-- rounding twice is rounding once; it goes less than a unit away -/
theorem rnd_twice {u n : Int} {h : Str} (hu : u ∈ ([1, 2, 5, 10] : List Int)) : rnd u h (rnd u h n) = rnd u h n := by
  have : ∀ m : Int, m % u = 0 → rnd u h m = m := fun m hm => by
    unfold rnd
    have e : 2 * (m - m / u * u) = 0 := by
      have := Int.emod_add_mul_ediv m u
      rw [Int.mul_comm] at this
      omega
    rw [if_pos e]
  apply this
  unfold rnd
  simp only [List.mem_cons, List.not_mem_nil, or_false] at hu
  rcases hu with rfl | rfl | rfl | rfl <;> (repeat' split) <;> omega
theorem rnd_near {u n : Int} {h : Str} (hu : u ∈ ([1, 2, 5, 10] : List Int)) : (if rnd u h n - n < 0 then -(rnd u h n - n) else rnd u h n - n) < u := by
  unfold rnd
  simp only [List.mem_cons, List.not_mem_nil, or_false] at hu
  rcases hu with rfl | rfl | rfl | rfl <;> (repeat' split) <;> omega
theorem u_pos {u : Int} (hu : u ∈ ([1, 2, 5, 10] : List Int)) : 0 < u ∧ u < 1073741824 := by
  simp only [List.mem_cons, List.not_mem_nil, or_false] at hu
  rcases hu with rfl | rfl | rfl | rfl <;> omega
def pLawRound (ds : List D) (d : D) : Prop := ∃ a b e l la u h n, ds = [.dic (rlD a b e l la u h), .int n] ∧ u ∈ ([1, 2, 5, 10] : List Int) ∧ h ∈ ([("up" : Str), "even", "cut"] : List Str) ∧ d = .int (rnd u h n)
theorem ok_law_rounded (T : Txt mg K w A_RULES C) (F : FnP K "_law_rounded" "_law_rounded" s__law_rounded f fd) : FnOk P w K mg base CX0 1 f fd ["_law_rules_here", "_law_number_here"] (spAbs K (aP pLawRound)) := by
  refine fn_abs0 aP.mono aP.nox F sc__law_rounded (by decide) (aP.len (n := 2) fun ds d ⟨a, b, e, l, la, u, h, n, z, _⟩ => by rw [z]; rfl) fun cdv Ar outer s H E hr => ?_
  have hu := hu_of hr
  refine ⟨_, (pss_cons (ps_par (i := 2) (j := 3) rfl sc__law_rounded.nd rfl rfl (by decide) rfl rfl (pa_cons (pe_ix (ix_all hu) (pv 0) pe_str (fun _ _ => rfl)) (pa_cons (pe_ix (ix_all hu) (pv 0) pe_str (fun _ _ => rfl)) pa_nil)) (by rfl))
      (pss_cons (ps_if (pt_cmpR (op_eqA hr) (pv 3) pe_str (nomark _)) (pss_one (ps_ret (pe_op op_mulA (pe_op op_mulA (pe_op op_fdiv (pe_callB cl_abs (by rfl) T.b_abs (by decide +kernel) (pa_cons (pv 1) pa_nil)) (pv 2)) (pv 2)) (pe_ix (ix_all hu) (pe_lst (pa_cons pe_int (pa_cons (pe_op op_sub pe_int pe_int) pa_nil))) (pe_callTy cl_int (by rfl) T.b_int (by decide +kernel) (pa_cons (pe_cmpR op_ltA (pv 1) pe_int (nomark _)) pa_nil)) (fun _ _ => rfl))))) pss_nil)
      (pss_cons (ps_set (i := 4) sc__law_rounded.nd rfl (Or.inl rfl) (pe_op op_fdiv (pv 1) (pv 2)))
      (pss_cons (ps_set (i := 5) sc__law_rounded.nd rfl (Or.inl rfl) (pe_op op_sub (pe_op op_mulA pe_int (pe_op op_sub (pv 1) (pe_op op_mulA (pv 4) (pv 2)))) (pv 2)))
      (pss_cons (ps_if (pt_cmpR (op_eqA hr) (pv 5) pe_int (nomark _)) (pss_one (ps_ret (pe_op op_mulA (pv 2) (pe_op op_addA (pv 4) (pe_callTy cl_int (by rfl) T.b_int (by decide +kernel) (pa_cons (pe_or (pe_cmpR (op_eqA hr) (pv 3) pe_str (nomark _)) (pe_one (pe_cmpR (op_eqA hr) (pe_op op_mod (pe_callTy cl_int (by rfl) T.b_int (by decide +kernel) (pa_cons (pv 4) pa_nil)) pe_int) pe_int (nomark _)))) pa_nil)))))) pss_nil)
      (pss_one (ps_ret (pe_op op_mulA (pv 2) (pe_op op_addA (pv 4) (pe_callTy cl_int (by rfl) T.b_int (by decide +kernel) (pa_cons (pe_cmpR op_gt (pv 5) pe_int (nomark _)) pa_nil))))))))))), fun ss ce Ψ hh => ?_⟩
  obtain ⟨ds, d, rfl, rfl, ⟨a, b, e, l, la, u, h, n, rfl, vu, vh, rfl⟩, q⟩ := hh
  obtain ⟨u0, u1⟩ := u_pos vu
  have hd : ∀ i, CDiv i u := fun i => ⟨u0, u1⟩
  have hm : ∀ i, CMul i u := fun i => .inr ⟨by omega, by omega⟩
  have hd1 := hd n
  have hd2 := hd (if n < 0 then -n else n)
  have hm1 := hm (n / u)
  have hm2 := hm ((if n < 0 then -n else n) / u)
  walk_at "in"
  walk_at "go"
  refine ⟨fun h1 => ?_, fun h1 => ?_⟩
  · have h1' : h = "cut" := of_decide_eq_true h1
    subst h1'
    rw [← lr_cut vu] at q
    walk_at "go"
    refine oa_mul rfl rfl (.inr (by split <;> omega)) ?_
    exact ret_im rfl q
  have h1' := of_decide_eq_false h1
  walk_at "go"
  refine ⟨fun h2 => ?_, fun h2 => ?_⟩
  · have h2' := of_decide_eq_true h2
    walk_at "go"
    refine ⟨fun h3 => ?_, fun h3 => ?_⟩
    · have h3' := of_decide_eq_false h3
      walk_at "go"
      have hm3 : CMul u (n / u + if decide (n / u % 2 = 1) then 1 else 0) := .inl ⟨by omega, by omega⟩
      walk_at "go"
      by_cases h4 : n / u % 2 = 1
      · rw [← lr_up vu h1' h2' (.inr h4)] at q
        rw [decide_eq_true h4]
        exact ret_im rfl q
      · rw [← lr_dn vu vh h1' h2' h3' h4] at q
        rw [decide_eq_false h4]
        exact ret_im rfl q
    · have h3' := of_decide_eq_true h3
      have hm3 : CMul u (n / u + if true then 1 else 0) := .inl ⟨by omega, by omega⟩
      walk_at "go"
      rw [← lr_up vu h1' h2' (.inl h3')] at q
      exact ret_im rfl q
  · have h2' := of_decide_eq_false h2
    have hm3 : CMul u (n / u + if decide (0 < 2 * (n - n / u * u) - u) then 1 else 0) := .inl ⟨by omega, by omega⟩
    walk_at "go"
    rw [← lr_off vu h1' h2'] at q
    exact ret_im rfl q
end
section
variable {P : Program} {w : World} {K : PySem.W.Frag} {mg : Str → Option Value} {base : Heap} {f A_RULES C : Addr} {fd : FuncData}
theorem log2_ok {i : Int} (h1 : -2000000 ≤ i) (h2 : i ≤ 2000000) : i.natAbs.log2 < 1920 := by
  have : i.natAbs ≤ 2000000 := by omega
  have h : i.natAbs < 2 ^ 1920 := Nat.lt_of_le_of_lt this (by decide +kernel)
  by_cases h0 : i.natAbs = 0
  · rw [h0]; decide
  · exact (Nat.log2_lt h0).mpr h
theorem rnd_le {u n : Int} {h : Str} (hu : u ∈ ([1, 2, 5, 10] : List Int)) (h1 : -1000000 ≤ n) (h2 : n ≤ 1000000) : -2000000 ≤ rnd u h n ∧ rnd u h n ≤ 2000000 := by
  have := rnd_near (h := h) (n := n) hu
  simp only [List.mem_cons, List.not_mem_nil, or_false] at hu
  split at this <;> omega
def pLaw (ds : List D) (d : D) : Prop := ∃ ns : List Int, ds = [.scr ns] ∧ ns.length ≤ 63 ∧ d = .bl true
/-- ints of a bound -/
def okN (x : D) : Prop := ∃ n : Int, x = .int n ∧ -1000000 ≤ n ∧ n ≤ 1000000
theorem ok_law (T : Txt mg K w A_RULES C) (G__law_box : GF P w K mg base CX0 "_law_box" ["_law_script", "_law_k"] 1 aM) (G__law_take : GF P w K mg base CX0 "_law_take" ["_law_box_here", "_law_many"] 1 aT)
    (G__law_rules : GF P w K mg base CX0 "_law_rules" ["_law_box_here"] 3 (aX (fun ds => ds = []) pLawRules)) (G__law_ways : GF P w K mg base CX0 "_law_ways" ["_law_rules_here"] 5 (aP (pLawWays C)))
    (G__law_number : GF P w K mg base CX0 "_law_number" ["_law_box_here"] 2 (aX (fun ds => ds = []) pNumber)) (G__law_rounded : GF P w K mg base CX0 "_law_rounded" ["_law_rules_here", "_law_number_here"] 1 (aP pLawRound))
    (G_rounded : GM P w K mg base CX0 C "rounded" ["self", "number"] 1 (aP (pRound C))) (G_seen : GM P w K mg base CX0 C "seen" ["self", "cell"] 2 (aP (pSeenN C)))
    (F : FnP K "law" "law" s_law f fd) : FnOk P w K mg base CX0 6 f fd ["_law_script"] (spAbs K (aP pLaw)) := by
  refine fn_abs0 aP.mono aP.nox F sc_law (by decide) (aP.len (n := 1) fun ds d ⟨ns, z, _⟩ => by rw [z]; rfl) fun cdv Ar outer s H E hr => ?_
  have hu := hu_of hr
  refine ⟨_, (pss_cons (ps_for PassesOwn.never rfl (pi_range1 rfl T.b_range (pa_cons (pe_callB (cl_max rfl) (by rfl) T.b_max (by decide +kernel) (pa_cons pe_int (pa_cons (pe_callB (cl_min rfl) (by rfl) T.b_min (by decide +kernel) (pa_cons pe_int (pa_cons (pe_callB cl_len (by rfl) T.b_len (by decide +kernel) (pa_cons (pv 0) pa_nil)) pa_nil))) pa_nil))) pa_nil)) (pg_name (i := 1) sc_law.nd rfl (Or.inl rfl)) (pss_cons (ps_set (i := 2) sc_law.nd rfl (Or.inr rfl) (pe_gf G__law_box (hr.mono (by decide)) (by rfl) pass0 (pa_cons (pv 0) (pa_cons (pv 1) pa_nil))))
      (pss_cons (ps_set (i := 3) sc_law.nd rfl (Or.inl rfl) (pe_gf G__law_rules (hr.mono (by decide)) (by rfl) pass0 (pa_cons (pv 2) pa_nil)))
      (pss_cons (ps_set (i := 4) sc_law.nd rfl (Or.inl rfl) (pe_gf G__law_ways (hr.mono (by decide)) (by rfl) pass0 (pa_cons (pv 3) pa_nil)))
      (pss_cons (ps_set (i := 5) sc_law.nd rfl (Or.inl rfl) (pe_op op_addA (pe_op op_addA (pe_listRg rfl (by rfl) T.b_list (prg_2 (by rfl) T.b_range (pe_op op_sub pe_int pe_int) pe_int)) (pe_lc (own := [("_law_turn", 6)]) (g := gName 6) (tt := tYes) rfl sc_law.nd (pi_range1 rfl T.b_range (pa_cons pe_int pa_nil)) (blkOk_by (N := ["_law_script", "_law_k", "_law_box_here", "_law_rules_here", "_law_ways_here", "_law_numbers", "_law_turn", "_law_number_here", "_law_found", "_law_unit", "_law_halves", "_law_near", "_law_made", "_law_spot"]) (sc := defScope s_law) (by decide +kernel)) (fun _ _ _ _ _ => pg_name (i := 6) sc_law.nd rfl (Or.inl rfl)) (fun _ _ _ _ _ => by exact pts_nil) (fun _ _ _ _ _ => by exact (pe_gf' G__law_number (hr.mono (by decide)) (by rfl) pass0 (pa_cons (pv 2) pa_nil))))) (pe_lst (pa_cons (pe_op op_pow pe_int pe_int) (pa_cons (pe_op op_sub pe_int (pe_op op_pow pe_int pe_int)) pa_nil)))))
      (pss_cons (ps_for PassesOwn.never rfl (pi_list (pv 5)) (pg_name (i := 7) sc_law.nd rfl (Or.inl rfl)) (pss_cons (ps_set (i := 8) sc_law.nd rfl (Or.inl rfl) (pe_gm G_rounded (fun hm F hb => pe_meth (pv 4) G_rounded.cl hm F (hr.mono (by decide)) hb .nil pass0 (pa_cons (pv 7) pa_nil))))
      (pss_cons (ps_if (PW.pt (pw_or (pt_cmpR (op_neA hr) (pe_callB cl_repr (by rfl) T.b_repr (by decide +kernel) (pa_cons (pv 8) pa_nil)) (pe_callB cl_repr (by rfl) T.b_repr (by decide +kernel) (pa_cons (pe_gf G__law_rounded (hr.mono (by decide)) (by rfl) pass0 (pa_cons (pv 3) (pa_cons (pv 7) pa_nil))) pa_nil)) (nomark _)) (pw_or1 (pt_cmpR (op_neA hr) (pe_gm G_rounded (fun hm F hb => pe_meth (pv 4) G_rounded.cl hm F (hr.mono (by decide)) hb .nil pass0 (pa_cons (pv 8) pa_nil))) (pv 8) (nomark _))))) (pss_one (ps_ret pe_bl)) pss_nil)
      (pss_one (ps_if (PW.pt (pw_or (pt_cmpR (op_neA hr) (pe_callB cl_repr (by rfl) T.b_repr (by decide +kernel) (pa_cons (pe_gm G_seen (fun hm F hb => pe_meth (pv 4) G_seen.cl hm F (hr.mono (by decide)) hb .nil pass0 (pa_cons (pv 7) pa_nil))) pa_nil)) (pe_callB cl_repr (by rfl) T.b_repr (by decide +kernel) (pa_cons (pv 8) pa_nil)) (nomark _)) (pw_or1 (pt_cmpR op_ge (pe_callB cl_abs (by rfl) T.b_abs (by decide +kernel) (pa_cons (pe_op op_sub (pv 8) (pv 7)) pa_nil)) (pe_ix (ix_all hu) (pv 3) pe_str (fun _ _ => rfl)) (nomark _))))) (pss_one (ps_ret pe_bl)) pss_nil)))))
      (pss_one (ps_for PassesOwn.never rfl (pi_tup (pe_tup (pa_cons pe_int (pa_cons pe_int (pa_cons pe_int (pa_cons pe_int pa_nil)))))) (pg_name (i := 9) sc_law.nd rfl (Or.inl rfl)) (pss_one (ps_for PassesOwn.never rfl (pi_tup (pe_tup (pa_cons pe_str (pa_cons pe_str (pa_cons pe_str pa_nil))))) (pg_name (i := 10) sc_law.nd rfl (Or.inl rfl)) (pss_cons (ps_set (i := 11) sc_law.nd rfl (Or.inl rfl) (pe_callTy cl_dict (by rfl) T.b_dict (by decide +kernel) (pa_cons (pv 3) pa_nil)))
      (pss_cons (ps_expr (pe_bm PySem.F.plainAttrs_dict PySem.F.slot_dict_update PySem.F.type_dict_update mt_update (pv 11) (pa_cons (pe_disp (pps_cons pe_str (pv 9) (pps_cons pe_str (pv 10) pps_nil)) (by rfl) (by rfl) (fun z => by cases z) (by decide)) pa_nil)))
      (pss_cons (ps_par (i := 12) (j := 13) rfl sc_law.nd rfl rfl (by decide) rfl rfl (pa_cons (pe_gf G__law_ways (hr.mono (by decide)) (by rfl) pass0 (pa_cons (pv 11) pa_nil)) (pa_cons (pe_op op_mulA pe_int (pe_op op_sub (pe_gf G__law_take (hr.mono (by decide)) (by rfl) pass0 (pa_cons (pv 2) (pa_cons pe_int pa_nil))) pe_int)) pa_nil)) (by rfl))
      (pss_one (ps_for PassesOwn.never rfl (pi_tup (pe_tup (pa_cons (pe_op op_sub (pv 13) pe_int) (pa_cons (pv 13) (pa_cons (pe_op op_addA (pv 13) pe_int) pa_nil))))) (pg_name (i := 7) sc_law.nd rfl (Or.inl rfl)) (pss_one (ps_if (pt_cmpR (op_neA hr) (pe_gm G_rounded (fun hm F hb => pe_meth (pv 12) G_rounded.cl hm F (hr.mono (by decide)) hb .nil pass0 (pa_cons (pv 7) pa_nil))) (pe_gf G__law_rounded (hr.mono (by decide)) (by rfl) pass0 (pa_cons (pv 11) (pa_cons (pv 7) pa_nil))) (nomark _)) (pss_one (ps_ret pe_bl)) pss_nil)))))))))))))))))
      (pss_one (ps_ret pe_bl))), fun ss ce Ψ hh => ?_⟩
  obtain ⟨ds, d, rfl, rfl, ⟨ns, rfl, hn, rfl⟩, q⟩ := hh
  walk_at "in"
  walk_at "go"
  refine ws_forC ?_
  refine wi_rng1 ?_
  walk_at "go"
  refine ⟨by (repeat' split) <;> omega, by (repeat' split) <;> omega, ?_⟩
  refine ⟨fun _ δ => ∃ s1 s2 s3 s4 s5 s6 s7 s8 s9 s10 s11 s12 s13, δ = ⟨[.im (.scr ns), s1, s2, s3, s4, s5, s6, s7, s8, s9, s10, s11, s12, s13], []⟩, ⟨_, _, _, _, _, _, _, _, _, _, _, _, _, rfl⟩, ?_, ?_⟩
  rotate_left
  · rintro δ2 ⟨s1, s2, s3, s4, s5, s6, s7, s8, s9, s10, s11, s12, s13, rfl⟩
    walk_at "go"
    exact ret_im rfl q
  rintro i d δ2 hd ⟨s1, s2, s3, s4, s5, s6, s7, s8, s9, s10, s11, s12, s13, rfl⟩
  obtain ⟨_, rfl⟩ := rgD_get hd
  walk_at "go"
  refine ⟨by omega, by omega, fun co hb => ?_⟩
  walk_at "go"
  refine ⟨_, _, [], [], rfl, rfl, rfl, hb, rfl, fun d co1 hP hb1 => ?_⟩
  obtain ⟨a, b, e, l, la, u, h, v, rfl⟩ := hP
  walk_at "go"
  refine ⟨_, _, rfl, ⟨a, b, e, l, la, u, h, rfl, v, rfl⟩, ?_⟩
  walk_at "go"
  refine we_lstRg (wr_2 ?_)
  walk_at "go"
  refine ⟨⟨by decide, by decide, by decide, by decide, by decide⟩, ?_⟩
  refine we_lc1 (wi_rng1 ?_)
  walk_at "go"
  refine ⟨by decide, by decide, ?_⟩
  refine ⟨fun i acc ce => ∃ co, ce = [co] ∧ Bx co ∧ (∀ x ∈ acc, okN x) ∧ acc.length = i, ⟨co1, rfl, hb1, (fun x hx => by cases hx), rfl⟩, by rw [rgD_len]; decide, ?_, ?_⟩
  · rintro j d acc ce' hd ⟨co2, rfl, hb2, hacc, hl⟩ _
    refine wt_yes ⟨fun _ => ?_, fun z => by cases z⟩
    walk_at "go"
    refine ⟨_, _, [], [], rfl, rfl, rfl, hb2, rfl, fun d co3 hP hb3 => ?_⟩
    obtain ⟨m, rfl, m1, m2⟩ := hP
    refine ⟨.int m, [co3], rfl, rfl, rfl, co3, rfl, hb3, fun x hx => ?_, by simp [hl]⟩
    rcases List.mem_append.mp hx with hx | hx
    · exact hacc x hx
    · rw [List.mem_singleton.mp hx]; exact ⟨m, rfl, m1, m2⟩
  rintro acc ce' ⟨co2, rfl, hb2, hacc, hl⟩ _
  refine ⟨by show (co2.bnd 1 && true) = true; rw [hb2.bnd]; rfl, ?_⟩
  rw [rgD_len] at hl
  refine oa_addL rfl rfl (by rw [rgD_len, hl]; decide) ?_
  walk_at "go"
  refine oa_addL rfl rfl (by rw [List.length_append, rgD_len, hl]; decide) ?_
  have hxs : ∀ x ∈ rgD (0 - 21) (22 - (0 - 21) : Int).toNat ++ acc ++ [.int (10 ^ Int.toNat 6), .int (0 - 10 ^ Int.toNat 6)], okN x := fun x hx => by
    rcases List.mem_append.mp hx with hx | hx
    · rcases List.mem_append.mp hx with hx | hx
      · obtain ⟨j, hj⟩ := List.getElem?_of_mem hx
        obtain ⟨h1, rfl⟩ := rgD_get hj
        have h1' : j < 43 := h1
        exact ⟨_, rfl, by omega, by omega⟩
      · exact hacc x hx
    · simp only [List.mem_cons, List.not_mem_nil, or_false] at hx
      rcases hx with rfl | rfl
      · exact ⟨_, rfl, by decide, by decide⟩
      · exact ⟨_, rfl, by decide, by decide⟩
  generalize rgD (0 - 21) (22 - (0 - 21) : Int).toNat ++ acc ++ [.int (10 ^ Int.toNat 6), .int (0 - 10 ^ Int.toNat 6)] = xs at hxs ⊢
  obtain ⟨u0, u1⟩ := u_pos v.u
  walk_at "go"
  refine ws_for (wi_list ?_)
  walk_at "go"
  refine ⟨fun _ δ => ∃ s7 s8, δ = ⟨[.im (.scr ns), .im (.int (0 + (i : Int))), .cl 0, .im (.dic (rlD a b e l la u h)), .im (wy C a b e l la u h), .im (.lst xs), s6, s7, s8, s9, s10, s11, s12, s13], [co2]⟩, ⟨_, _, rfl⟩, ?_, ?_⟩
  · rintro j d δ3 hd ⟨s7, s8, rfl⟩
    obtain ⟨n, rfl, n1, n2⟩ := hxs d (List.mem_of_getElem? hd)
    obtain ⟨z1, z2⟩ := rnd_le (h := h) v.u n1 n2
    have lz := log2_ok z1 z2
    walk_at "go"
    refine ⟨_, _, rfl, ⟨a, b, e, l, la, u, h, n, rfl, u0, u1, rfl⟩, ?_⟩
    walk_at "go"
    refine ⟨_, _, rfl, ⟨a, b, e, l, la, u, h, n, rfl, v.u, v.h, rfl⟩, ?_⟩
    walk_at "go"
    refine ⟨fun _ => ?_, fun z => absurd z (by simp)⟩
    walk_at "go"
    refine ⟨_, _, rfl, ⟨a, b, e, l, la, u, h, _, rfl, u0, u1, rfl⟩, ?_⟩
    walk_at "go"
    refine ⟨fun z => absurd z (by simp [rnd_twice v.u]), fun _ => ?_⟩
    walk_at "go"
    refine ⟨_, _, rfl, ⟨a, b, e, l, la, u, h, n, rfl, u0, u1, rfl⟩, ?_⟩
    walk_at "go"
    refine ⟨fun _ => ?_, fun z => absurd z (by simp)⟩
    walk_at "go"
    refine ⟨fun z => absurd (of_decide_eq_true z) (Int.not_le.mpr (rnd_near v.u)), fun _ => ?_⟩
    walk_at "go"
    exact ⟨_, _, rfl⟩
  rintro δ3 ⟨s7, s8, rfl⟩
  walk_at "go"
  refine ws_for (wi_tup ?_)
  walk_at "go"
  refine ⟨fun _ δ => ∃ co s6 s7 s8 s9 s10 s11 s12 s13, Bx co ∧ δ = ⟨[.im (.scr ns), .im (.int (0 + (i : Int))), .cl 0, .im (.dic (rlD a b e l la u h)), .im (wy C a b e l la u h), .im (.lst xs), s6, s7, s8, s9, s10, s11, s12, s13], [co]⟩, ⟨co2, _, _, _, _, _, _, _, _, hb2, rfl⟩, ?_, ?_⟩
  rotate_left
  · rintro δ3 ⟨co3, s6, s7, s8, s9, s10, s11, s12, s13, hb3, rfl⟩
    exact ⟨rfl, _, _, _, _, _, _, _, _, _, _, _, _, _, rfl⟩
  rintro j d δ3 hd ⟨co3, s6, s7, s8, s9, s10, s11, s12, s13, hb3, rfl⟩
  obtain ⟨u', rfl, vu'⟩ := mem_int (xs := [1, 2, 5, 10]) (List.mem_of_getElem? hd)
  walk_at "go"
  refine ws_forC (wi_tup ?_)
  walk_at "go"
  refine ⟨fun _ δ => ∃ co s6 s7 s8 s10 s11 s12 s13, Bx co ∧ δ = ⟨[.im (.scr ns), .im (.int (0 + (i : Int))), .cl 0, .im (.dic (rlD a b e l la u h)), .im (wy C a b e l la u h), .im (.lst xs), s6, s7, s8, .im (.int u'), s10, s11, s12, s13], [co]⟩, ⟨co3, _, _, _, _, _, _, _, hb3, rfl⟩, ?_, ?_⟩
  rotate_left
  · rintro δ3 ⟨co3, s6, s7, s8, s10, s11, s12, s13, hb3, rfl⟩
    exact ⟨co3, _, _, _, _, _, _, _, _, hb3, rfl⟩
  rintro j2 d δ3 hd2 ⟨co3, s6, s7, s8, s10, s11, s12, s13, hb3, rfl⟩
  obtain ⟨h', rfl, vh'⟩ := mem_str (xs := [("up" : Str), "even", "cut"]) (List.mem_of_getElem? hd2)
  walk_at "go"
  refine ⟨ty_dicC rfl, ?_⟩
  walk_at "go"
  refine mt_update' rfl rfl (fun c z => by cases z; exact Nat.ne_of_beq_eq_false rfl) (Nat.le_of_ble_eq_true rfl) ?_
  refine ws_fz (c := 1) (d := .dic (rlD a b e l la u' h')) rfl ?_
  have v' : Vw a b e l u' h' := ⟨v.a, v.b, v.e, v.l, vu', vh'⟩
  obtain ⟨u2, u3⟩ := u_pos vu'
  walk_at "go"
  refine ⟨_, _, rfl, ⟨a, b, e, l, la, u', h', rfl, v', rfl⟩, ?_⟩
  walk_at "go"
  rename_i k4 co4 p1 p2 hb4
  refine ws_for (wi_tup ?_)
  walk_at "go"
  refine ⟨fun _ δ => ∃ s7, δ = ⟨[.im (.scr ns), .im (.int (0 + (i : Int))), .cl 0, .im (.dic (rlD a b e l la u h)), .im (wy C a b e l la u h), .im (.lst xs), s6, s7, s8, .im (.int u'), .im (.str h'), .cl 1, .im (wy C a b e l la u' h'), .im (.int (5 * (k4 - 20)))], [co4, .fz (.dic (rlD a b e l la u' h')), .dic (mergeS [] [(.inr "unit", .im (.int u')), (.inr "halves", .im (.str h'))])]⟩, ⟨_, rfl⟩, ?_, ?_⟩
  rotate_left
  · rintro δ3 ⟨s7, rfl⟩
    exact ⟨by show (co4.bnd 1 && true) = true; rw [hb4.bnd]; rfl, co4, _, _, _, _, _, _, _, hb4, rfl⟩
  rintro j3 d δ3 hd3 ⟨s7, rfl⟩
  have hd' : ∃ n : Int, d = .int n := by
    have := List.mem_of_getElem? hd3
    simp only [List.mem_cons, List.not_mem_nil, or_false] at this
    rcases this with rfl | rfl | rfl <;> exact ⟨_, rfl⟩
  obtain ⟨n, rfl⟩ := hd'
  walk_at "go"
  refine ⟨_, _, rfl, ⟨a, b, e, l, la, u', h', n, rfl, u2, u3, rfl⟩, ?_⟩
  walk_at "go"
  refine ⟨_, _, rfl, ⟨a, b, e, l, la, u', h', n, rfl, vu', vh', rfl⟩, ?_⟩
  walk_at "go"
  refine ⟨fun z => absurd z (by simp), fun _ => ?_⟩
  walk_at "go"
  exact ⟨_, rfl⟩
end
/-! ### the head -/
def dfN (st : Stmt) (x : Str) : He.DefD := ⟨(x, none), x, x, defArgs st, defBody st, defScope st, [], []⟩
def dfM (st : Stmt) (c x q : Str) (dfl : List He.Dv) : He.DefD := ⟨(c, some x), x, q, defArgs st, defBody st, defScope st, dfl, []⟩
def fn : List He.DefD := [dfN s_is_integer "is_integer", dfN s_is_rule "is_rule", dfM s_Ways___init__ "Ways" "__init__" "Ways.__init__" [.str "exact", .str "kept", .str "text", .str "unknown", .bl false, .int 1, .str "even"], dfM s_Ways_rules "Ways" "rules" "Ways.rules" [], dfM s_Ways_rounded "Ways" "rounded" "Ways.rounded" [], dfM s_Ways_seen "Ways" "seen" "Ways.seen" [],
  dfN s__law_box "_law_box", dfN s__law_take "_law_take", dfN s__law_pick "_law_pick", dfN s__law_number "_law_number", dfN s__law_rules "_law_rules", dfN s__law_ways "_law_ways", dfN s__law_rounded "_law_rounded", dfN s_law "law"]
def fa : List He.Fa := [.glo "is_integer", .glo "is_rule", .glo "Ways", .glo "RULES", .glo "_law_box", .glo "_law_take", .glo "_law_pick", .glo "_law_number", .glo "_law_rules", .glo "_law_ways", .glo "_law_rounded", .glo "law",
  .free "len", .free "abs", .free "int", .free "max", .free "min", .free "repr", .free "isinstance", .free "dict", .free "range", .free "list", .free "bool", .free "str",
  .cls "Ways", .mkr "Ways", .meth "Ways" "rules", .meth "Ways" "rounded", .meth "Ways" "seen", .noat "Ways" "case", .noat "Ways" "blanks", .noat "Ways" "empty", .noat "Ways" "lacking", .noat "Ways" "last", .noat "Ways" "unit", .noat "Ways" "halves"]
def ts : List He.Tab := [(fun K => He.ga K "RULES", ["case", "blanks", "empty", "lacking", "last", "unit", "halves"])]
def exB (K : PySem.W.Frag) : Bool := tabT K "RULES" "case" [.str "exact", .str "folded"] && (tabT K "RULES" "blanks" [.str "kept", .str "dropped"] && (tabT K "RULES" "empty" [.str "text", .str "lacks"] && (tabT K "RULES" "lacking" [.str "unknown", .str "unlike", .str "alike"] && (tabT K "RULES" "unit" [.int 1, .int 2, .int 5, .int 10] && tabT K "RULES" "halves" [.str "up", .str "even", .str "cut"]))))
abbrev R : PySem.W.OpenRow := PySem.W.OpenLaw.row PySem.Challenge.rw_sentparts_k03_numbers_rounded
abbrev hk : PySem.W.Hook := He.hookX 4 fa fn ts [] exB
def ob (s : PySem.W.SharedT) : He.AlX := He.obsX 4 fa fn ts [] exB (HandSHeadRun.getT s)
theorem ob_eq (s : PySem.W.SharedT) : ob s = hk.obs s.abs := He.obsX_eq (HandSHeadRun.getT_eq s)
def others : List Str := ["_wall", "__name__", "PartError", "InvalidWays", "InvalidText", "is_integer", "RULES", "UNITS", "is_rule", "Ways", "_law_box", "_law_take", "_law_pick", "_law_number", "_law_rules", "_law_ways", "_law_rounded"]
theorem run (w : World) : HandSHeadRun.RunEq R (PySem.W.view R.prog [20]) hk ob 6000 others w := by
  refine PySem.W.byRow2 "special-get-raises" (P := fun w => HandSHeadRun.RunEq R (PySem.W.view R.prog [20]) hk ob 6000 others w) ?_ ?_ w
  · intro w os
    kernel_rfl
  · intro w os
    kernel_rfl
theorem txt_of {w : World} {K : PySem.W.Frag} {h : Heap} {mg : Str → Option Value} (X : K.In h) (G : h.Ns mainGlobals mg) (c : He.SaysX fa fn ts [] exB w h K) : Txt mg K w (He.ga K "RULES") (He.ga K "Ways") := by
  have cd := c.t.d
  have fr : ∀ x, He.Fa.free x ∈ fa → mg x = none := fun x hx => He.free_ok X G (cd.facts hx)
  have na : ∀ x, He.Fa.noat "Ways" x ∈ fa → NoAttr K (He.ga K "Ways") x := fun x hx => He.noat_ok (cd.facts hx)
  obtain ⟨es, n, kd⟩ := c.t.tab 0
  obtain ⟨e1, m1⟩ := He.ba c.more
  obtain ⟨e2, m2⟩ := He.ba m1
  obtain ⟨e3, m3⟩ := He.ba m2
  obtain ⟨e4, m4⟩ := He.ba m3
  obtain ⟨e5, e6⟩ := He.ba m4
  have r1 := tabT_ok e1
  have r2 := tabT_ok e2
  have r3 := tabT_ok e3
  have r4 := tabT_ok e4
  have r5 := tabT_ok e5
  have r6 := tabT_ok e6
  refine ⟨fr _ (by simp [fa]), fr _ (by simp [fa]), fr _ (by simp [fa]), fr _ (by simp [fa]), fr _ (by simp [fa]), fr _ (by simp [fa]), fr _ (by simp [fa]), fr _ (by simp [fa]), fr _ (by simp [fa]), fr _ (by simp [fa]), fr _ (by simp [fa]), fr _ (by simp [fa]),
    He.glo_ok X G (cd.facts (f := .glo "RULES") (by simp [fa])), fun z d hz => ?_, He.cls_ok (cd.facts (f := .cls "Ways") (by simp [fa])), na _ (by simp [fa]), na _ (by simp [fa]), na _ (by simp [fa]), na _ (by simp [fa]), na _ (by simp [fa]), na _ (by simp [fa]), na _ (by simp [fa])⟩
  simp only [ruleD, List.mem_cons, List.not_mem_nil, or_false, Prod.mk.injEq] at hz
  rcases hz with ⟨rfl, rfl⟩ | ⟨rfl, rfl⟩ | ⟨rfl, rfl⟩ | ⟨rfl, rfl⟩ | ⟨rfl, rfl⟩ | ⟨rfl, rfl⟩
  · obtain ⟨t, q1, q2⟩ := r1
    exact ⟨.ref t, kdct_of kd q1, fun I => ⟨t, _, rfl, q2 I, _, _, rfl, rfl, _, _, rfl, rfl, rfl⟩⟩
  · obtain ⟨t, q1, q2⟩ := r2
    exact ⟨.ref t, kdct_of kd q1, fun I => ⟨t, _, rfl, q2 I, _, _, rfl, rfl, _, _, rfl, rfl, rfl⟩⟩
  · obtain ⟨t, q1, q2⟩ := r3
    exact ⟨.ref t, kdct_of kd q1, fun I => ⟨t, _, rfl, q2 I, _, _, rfl, rfl, _, _, rfl, rfl, rfl⟩⟩
  · obtain ⟨t, q1, q2⟩ := r4
    exact ⟨.ref t, kdct_of kd q1, fun I => ⟨t, _, rfl, q2 I, _, _, rfl, rfl, _, _, rfl, rfl, _, _, rfl, rfl, rfl⟩⟩
  · obtain ⟨t, q1, q2⟩ := r5
    exact ⟨.ref t, kdct_of kd q1, fun I => ⟨t, _, rfl, q2 I, _, _, rfl, rfl, _, _, rfl, rfl, _, _, rfl, rfl, _, _, rfl, rfl, rfl⟩⟩
  · obtain ⟨t, q1, q2⟩ := r6
    exact ⟨.ref t, kdct_of kd q1, fun I => ⟨t, _, rfl, q2 I, _, _, rfl, rfl, _, _, rfl, rfl, _, _, rfl, rfl, rfl⟩⟩
theorem facts {P : Program} {w : World} {K : PySem.W.Frag} {h : Heap} {mg : Str → Option Value} {f : Addr} (X : K.In h) (G : h.Ns mainGlobals mg) (hfa : mg ("law" : Str) = some (.ref f)) (c : He.SaysX fa fn ts [] exB w h K) :
    ∃ fd : FuncData, (∀ (s : Shared) (v : Value), BindsTo s fd ⟨[v], []⟩ [("_law_script", v)]) ∧ ∀ base : Heap, K.In base → base.Ns mainGlobals mg → FnOk P w K mg base CX0 6 f fd ["_law_script"] (spAbs K (aP pLaw)) := by
  have T := txt_of X G c
  have cd := c.t.d
  have gl : ∀ x, He.Fa.glo x ∈ fa → mg x = some (.ref (He.ga K x)) := fun x hx => He.glo_ok X G (cd.facts hx)
  obtain ⟨fd0, F0⟩ := cd.def_ 0
  obtain ⟨fd1, F1⟩ := cd.def_ 1
  obtain ⟨fd2, F2⟩ := cd.def_ 2
  obtain ⟨fd3, F3⟩ := cd.def_ 3
  obtain ⟨fd4, F4⟩ := cd.def_ 4
  obtain ⟨fd5, F5⟩ := cd.def_ 5
  obtain ⟨fd6, F6⟩ := cd.def_ 6
  obtain ⟨fd7, F7⟩ := cd.def_ 7
  obtain ⟨fd8, F8⟩ := cd.def_ 8
  obtain ⟨fd9, F9⟩ := cd.def_ 9
  obtain ⟨fd10, F10⟩ := cd.def_ 10
  obtain ⟨fd11, F11⟩ := cd.def_ 11
  obtain ⟨fd12, F12⟩ := cd.def_ 12
  obtain ⟨fd13, F13⟩ := cd.def_ 13
  have e := hfa.symm.trans (gl "law" (by simp [fa]))
  cases e
  have b := FunD.bindsA (ps := ["_law_script"]) F13 fun _ _ _ _ _ _ us hl => match us, hl with | [_], _ => rfl
  obtain ⟨ds2, vs2, b2⟩ := FunD.binds1 (ps := ["self", "case", "blanks", "empty", "lacking", "last", "unit", "halves"]) F2 8 7 (by intro z; cases z) rfl fun _ _ _ _ _ _ _ us its h1 h2 => match us, its, h1, h2 with | [_, _, _, _, _, _, _, _], [_, _, _, _, _, _, _], _, _ => ⟨_, rfl, rfl⟩
  refine ⟨fd13, fun s v => b s [v] rfl, fun base _ _ => ?_⟩
  have G_is_integer : GF P w K mg base CX0 "is_integer" ["value"] 1 (aP pIsInt) := ⟨aP.mono, _, fd0, ok_is_integer T F0, gl _ (by simp [fa]), F0.kp, F0.bindsN fun _ _ _ _ _ _ us hl => match us, hl with | [_], _ => rfl⟩
  have G_is_rule : GF P w K mg base CX0 "is_rule" ["word", "value"] 2 (aP pIsRule) := ⟨aP.mono, _, fd1, ok_is_rule T G_is_integer F1, gl _ (by simp [fa]), F1.kp, F1.bindsN fun _ _ _ _ _ _ us hl => match us, hl with | [_, _], _ => rfl⟩
  have G_rules : GM P w K mg base CX0 (He.ga K "Ways") "rules" ["self"] 1 (aN (pRules (He.ga K "Ways"))) := ⟨aN.mono, T.cls, _, fd3, ok_rules T F3, He.meth_ok (cd.facts (f := .meth "Ways" "rules") (by simp [fa])), F3.bindsN fun _ _ _ _ _ _ us hl => match us, hl with | [_], _ => rfl⟩
  have G_Ways : GK P w K mg base CX0 "Ways" (He.ga K "Ways") ["self", "case", "blanks", "empty", "lacking", "last", "unit", "halves"] [] 3 (aB (pInit (He.ga K "Ways"))) := ⟨aB.mono, _, fd2, ds2, ok_init T G_rules G_is_rule F2, He.mkr_ok (cd.facts (f := .mkr "Ways") (by simp [fa])), gl _ (by simp [fa]), b2, vs2⟩
  have G_rounded : GM P w K mg base CX0 (He.ga K "Ways") "rounded" ["self", "number"] 1 (aP (pRound (He.ga K "Ways"))) := ⟨aP.mono, T.cls, _, fd4, ok_rounded T F4, He.meth_ok (cd.facts (f := .meth "Ways" "rounded") (by simp [fa])), F4.bindsN fun _ _ _ _ _ _ us hl => match us, hl with | [_, _], _ => rfl⟩
  have G_seen : GM P w K mg base CX0 (He.ga K "Ways") "seen" ["self", "cell"] 2 (aP (pSeenN (He.ga K "Ways"))) := ⟨aP.mono, T.cls, _, fd5, ok_seenN T G_rounded F5, He.meth_ok (cd.facts (f := .meth "Ways" "seen") (by simp [fa])), F5.bindsN fun _ _ _ _ _ _ us hl => match us, hl with | [_, _], _ => rfl⟩
  have G__law_box : GF P w K mg base CX0 "_law_box" ["_law_script", "_law_k"] 1 aM := ⟨aM.mono, _, fd6, ok_box T F6, gl _ (by simp [fa]), F6.kp, F6.bindsN fun _ _ _ _ _ _ us hl => match us, hl with | [_, _], _ => rfl⟩
  have G__law_take : GF P w K mg base CX0 "_law_take" ["_law_box_here", "_law_many"] 1 aT := ⟨aT.mono, _, fd7, ok_take T F7, gl _ (by simp [fa]), F7.kp, F7.bindsN fun _ _ _ _ _ _ us hl => match us, hl with | [_, _], _ => rfl⟩
  have G__law_pick : GF P w K mg base CX0 "_law_pick" ["_law_box_here", "_law_some"] 2 aK := ⟨aK.mono, _, fd8, ok_pick T G__law_take F8, gl _ (by simp [fa]), F8.kp, F8.bindsN fun _ _ _ _ _ _ us hl => match us, hl with | [_, _], _ => rfl⟩
  have G__law_number : GF P w K mg base CX0 "_law_number" ["_law_box_here"] 2 (aX (fun ds => ds = []) pNumber) := ⟨aX.mono, _, fd9, ok_number T G__law_take F9, gl _ (by simp [fa]), F9.kp, F9.bindsN fun _ _ _ _ _ _ us hl => match us, hl with | [_], _ => rfl⟩
  have G__law_rules : GF P w K mg base CX0 "_law_rules" ["_law_box_here"] 3 (aX (fun ds => ds = []) pLawRules) := ⟨aX.mono, _, fd10, ok_law_rules T G__law_take G__law_pick F10, gl _ (by simp [fa]), F10.kp, F10.bindsN fun _ _ _ _ _ _ us hl => match us, hl with | [_], _ => rfl⟩
  have G__law_ways : GF P w K mg base CX0 "_law_ways" ["_law_rules_here"] 5 (aP (pLawWays (He.ga K "Ways"))) := ⟨aP.mono, _, fd11, ok_law_ways T G_Ways F11, gl _ (by simp [fa]), F11.kp, F11.bindsN fun _ _ _ _ _ _ us hl => match us, hl with | [_], _ => rfl⟩
  have G__law_rounded : GF P w K mg base CX0 "_law_rounded" ["_law_rules_here", "_law_number_here"] 1 (aP pLawRound) := ⟨aP.mono, _, fd12, ok_law_rounded T F12, gl _ (by simp [fa]), F12.kp, F12.bindsN fun _ _ _ _ _ _ us hl => match us, hl with | [_, _], _ => rfl⟩
  exact ok_law T G__law_box G__law_take G__law_rules G__law_ways G__law_number G__law_rounded G_rounded G_seen F13
end K03
open PySem PySem.W PySem.Calls PyProof.Rows
theorem PySem.Challenge.cw_sentparts_k03_numbers_rounded_holds : PySem.Challenge.rw_sentparts_k03_numbers_rounded.Holds := by
  w_on; o_law
  refine HandSHeadRun.head_any (r := OpenLaw.row PySem.Challenge.rw_sentparts_k03_numbers_rounded) (q := view (OpenLaw.row PySem.Challenge.rw_sentparts_k03_numbers_rounded).prog [20]) (H := K03.hk) (ob := K03.ob) (M := 6000) (loose := K03.others) (d := HandSHeadRun.topDef (OpenLaw.row PySem.Challenge.rw_sentparts_k03_numbers_rounded).prog 20) (kwd := []) K03.ob_eq
    (by kernel_rfl) (fun s => by kernel_rfl) K03.run (by kernel_rfl) (by kernel_rfl) (by kernel_rfl) (by rfl) (by first | assumption | decide +kernel) (by decide +kernel) ⟨rfl, rfl, rfl, rfl, rfl, by decide +kernel⟩ ?hw ?hc
  case hw => w_witness2
  case hc =>
    refine L2.walk_ofE (l := PySem.Challenge.rw_sentparts_k03_numbers_rounded) (n := 63) (k := 6) (x := "_law_script") (CX := L2.CX0) rfl (by decide) (by kernel_rfl) ⟨rfl, by decide, by decide⟩ ?F (fun _ _ _ _ z => z)
    intro w mg fa h Y G hmg0
    obtain ⟨K, KX, c⟩ := Y
    have hmg : mg ("law" : PySem.Str) = some (.ref fa) := by
      have e : (HandSHeadRun.topDef (OpenLaw.row PySem.Challenge.rw_sentparts_k03_numbers_rounded).prog 20).name = ("law" : PySem.Str) := by kernel_rfl
      rw [← e]
      exact hmg0
    obtain ⟨fd, hb, hF⟩ := K03.facts (P := (PySem.Challenge.rw_sentparts_k03_numbers_rounded).prog) (w := w) KX G hmg c
    exact ⟨K, fd, Cr.spAbs K (Cr.aP K03.pLaw), KX, hb, fun H a ns hl _ hS => Cr.spAbs_start hS ⟨[.scr ns], .bl true, rfl, rfl, ⟨ns, rfl, hl, rfl⟩, rfl⟩ Cr.aP.mono (fun _ => rfl), hF⟩
