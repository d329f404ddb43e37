import PyProof.Rows.All
import Wide.All
import OpenK.AllK
import Wide.FinOn
import KE.KStateDown
import HandS.ForMost
import HandS.More
import HandS.Wide
import HandS.Conv
import HandS.WordsExc
import HandS.Defaults
import HandS.IsInst
import HandS.Flow
import HandS.RaiseMore
import HandS.CallSlots
import HandS.StrMore
import HandS.Head0
import HandS.Head1
import HandS.Head2
import HandS.HeadEnd
import HandS.HeadHook1
import HandS.HeadHook2
import HandS.HeadHook4
import HandS.Ends
import HandS.Star
import HandS.Style
import HandS.TupAny
import HandS.MakeKw
import KE.KExcSuper
import HandS.ExcIs
import PyProof.ReprRoads
import HandS.Zip
import KE.KCallOwn
import KE.KFmtOwn
import PyProof.InstNe
import HandS.ClsMeth
import HandS.CallLocal
import HandS.ExcCtx
import HandS.RaiseFrom
import HandS.SuiteRaise
import HandS.HeadNt
import HandS.DictComp
import PyProof.Rows.StrItems
import PyProof.Rows.StrSplitJoin
import PyProof.StrLawsChain
import HandS.Codes
import KE.KOpsOwn
import HandS.Small
import HandS.NoneIn
import KE.GoesMore
import KE.GoesZip
import KE.GoesEnum
import HandS.FStr
import KE.KUnpackStar
import KE.IntTextLaws
import PyProof.ListStr
import HandS.Deep
import KE.KIntText
import PySem.Challenge.RW_sentparts_k10_tables_refused
set_option Elab.async false
set_option linter.all false
set_option autoImplicit false
set_option maxRecDepth 100000
set_option maxHeartbeats 2000000
namespace Fx
open PySem L2

/-! ## data: values as trees; slf binds me -/
inductive D where
  | non | bl (b : Bool) | int (i : Int) | str (x : Str) | ty (n : String) | glo (x : Str)
  | lst (xs : List D) | tup (xs : List D) | dic (kvs : List (Key × D)) | ins (C : Str) (fs : List (Str × D)) | slf (C : Str) (fs : List (Str × D)) | me
  | scr (ns : List Int)
instance : Inhabited D := ⟨.non⟩

section
variable (K : PySem.W.Frag) (H : Hp)
mutual
def Rep : D → V → Prop
  | .non, v => v = .non
  | .bl b, v => v = .bl b
  | .int i, v => v = .int i
  | .str x, v => v = .str x
  | .ty n, v => v = .ty n
  | .glo x, v => v = .ref (He.ga K x)
  | .lst ds, v => ∃ a vs, v = .ref a ∧ H a = some (.lst vs) ∧ RepL ds vs
  | .tup ds, v => ∃ a vs, v = .ref a ∧ SqT K H a vs ∧ RepL ds vs
  | .dic kds, v => ∃ a kvs, v = .ref a ∧ Rd H a (.dK kvs) ∧ RepK kds kvs
  | .ins C fds, v => ∃ a dx fs, v = .ref a ∧ H a = some (.ins (He.ga K C) dx fs) ∧ RepF fds fs
  | .slf C fds, v => ∃ a dx fs, v = .ref a ∧ H a = some (.ins (He.ga K C) dx fs) ∧ RepS a fds fs
  | .me, _ => False
  | .scr ns, v => ∃ a, v = .ref a ∧ SqL K H a (ns.map V.int)
def RepL : List D → List V → Prop
  | [], vs => vs = []
  | d :: ds, vs => ∃ v r, vs = v :: r ∧ Rep d v ∧ RepL ds r
def RepK : List (Key × D) → List (Key × V) → Prop
  | [], vs => vs = []
  | (k, d) :: ds, vs => ∃ v r, vs = (k, v) :: r ∧ Rep d v ∧ RepK ds r
def RepF : List (Str × D) → List (Str × V) → Prop
  | [], vs => vs = []
  | (k, d) :: ds, vs => ∃ v r, vs = (k, v) :: r ∧ Rep d v ∧ RepF ds r
def RepS : Addr → List (Str × D) → List (Str × V) → Prop
  | _, [], vs => vs = []
  | a, (k, d) :: ds, vs => ∃ v r, vs = (k, v) :: r ∧ ((d = .me ∧ ∃ t, v = .ref t ∧ SqT K H t [.ref a]) ∨ Rep d v) ∧ RepS a ds r
end
end
/-- a field of a slf, read from outside -/
def selfF (e : D) : D → D
  | .me => .tup [e]
  | d => d
theorem same_t {K : PySem.W.Frag} {H H' : Hp} {a : Addr} {xs : List V} (e : Same H H') (h : SqT K H a xs) : SqT K H' a xs := by
  rcases h with (h | ⟨o, h⟩) | h
  · exact .inl (.inl (e _ _ h))
  · exact .inl (.inr ⟨o, e _ _ h⟩)
  · exact .inr h
theorem same_rd {H H' : Hp} {a : Addr} {u : HO} (e : Same H H') (h : Rd H a u) : Rd H' a u := by
  rcases h with h | ⟨o, h⟩
  · exact .inl (e _ _ h)
  · exact .inr ⟨o, e _ _ h⟩
section
variable {K : PySem.W.Frag} {H H' : Hp}
mutual
theorem Rep.mono (e : Same H H') : ∀ (d : D) (v : V), Rep K H d v → Rep K H' d v
  | .non, _, h => h
  | .bl _, _, h => h
  | .int _, _, h => h
  | .str _, _, h => h
  | .ty _, _, h => h
  | .glo _, _, h => h
  | .lst ds, _, ⟨a, vs, h1, h2, h3⟩ => ⟨a, vs, h1, e _ _ h2, RepL.mono e ds vs h3⟩
  | .tup ds, _, ⟨a, vs, h1, h2, h3⟩ => ⟨a, vs, h1, same_t e h2, RepL.mono e ds vs h3⟩
  | .dic ds, _, ⟨a, vs, h1, h2, h3⟩ => ⟨a, vs, h1, same_rd e h2, RepK.mono e ds vs h3⟩
  | .ins _ ds, _, ⟨a, dx, vs, h1, h2, h3⟩ => ⟨a, dx, vs, h1, e _ _ h2, RepF.mono e ds vs h3⟩
  | .slf _ ds, _, ⟨a, dx, vs, h1, h2, h3⟩ => ⟨a, dx, vs, h1, e _ _ h2, RepS.mono e a ds vs h3⟩
  | .me, _, h => h
  | .scr ns, _, ⟨a, h1, h2⟩ => ⟨a, h1, e.seq h2⟩
theorem RepL.mono (e : Same H H') : ∀ (d : List D) (v : List V), RepL K H d v → RepL K H' d v
  | [], _, h => h
  | d :: ds, _, ⟨v, r, h1, h2, h3⟩ => ⟨v, r, h1, Rep.mono e d v h2, RepL.mono e ds r h3⟩
theorem RepK.mono (e : Same H H') : ∀ (d : List (Key × D)) (v : List (Key × V)), RepK K H d v → RepK K H' d v
  | [], _, h => h
  | (_, d) :: ds, _, ⟨v, r, h1, h2, h3⟩ => ⟨v, r, h1, Rep.mono e d v h2, RepK.mono e ds r h3⟩
theorem RepF.mono (e : Same H H') : ∀ (d : List (Str × D)) (v : List (Str × V)), RepF K H d v → RepF K H' d v
  | [], _, h => h
  | (_, d) :: ds, _, ⟨v, r, h1, h2, h3⟩ => ⟨v, r, h1, Rep.mono e d v h2, RepF.mono e ds r h3⟩
theorem RepS.mono (e : Same H H') (a : Addr) : ∀ (d : List (Str × D)) (v : List (Str × V)), RepS K H a d v → RepS K H' a d v
  | [], _, h => h
  | (_, d) :: ds, _, ⟨v, r, h1, h2, h3⟩ => ⟨v, r, h1, h2.elim (fun ⟨z, t, q1, q2⟩ => .inl ⟨z, t, q1, same_t e q2⟩) (fun h2 => .inr (Rep.mono e d v h2)), RepS.mono e a ds r h3⟩
end
theorem RepL.length : ∀ {d : List D} {v : List V}, RepL K H d v → v.length = d.length
  | [], _, h => by rw [show _ = [] from h]; rfl
  | d :: ds, _, ⟨v, r, h1, h2, h3⟩ => by rw [h1]; simp [RepL.length h3]
theorem RepK.length : ∀ {d : List (Key × D)} {v : List (Key × V)}, RepK K H d v → v.length = d.length
  | [], _, h => by rw [show _ = [] from h]; rfl
  | (_, d) :: ds, _, ⟨v, r, h1, h2, h3⟩ => by rw [h1]; simp [RepK.length h3]
theorem RepL.get : ∀ {d : List D} {v : List V} {i : Nat} {x : D}, RepL K H d v → d[i]? = some x → ∃ u, v[i]? = some u ∧ Rep K H x u
  | [], _, i, x, h, e => by simp at e
  | d :: ds, _, 0, x, ⟨v, r, h1, h2, h3⟩, e => by
    simp at e; subst e; subst h1; exact ⟨v, rfl, h2⟩
  | d :: ds, _, i + 1, x, ⟨v, r, h1, h2, h3⟩, e => by
    subst h1
    obtain ⟨u, q1, q2⟩ := RepL.get (i := i) (x := x) h3 (by simpa using e)
    exact ⟨u, by simpa using q1, q2⟩
theorem RepL.append : ∀ {xs ys : List D} {vs ws : List V}, RepL K H xs vs → RepL K H ys ws → RepL K H (xs ++ ys) (vs ++ ws)
  | [], _, vs, _, h1, h2 => by rw [show vs = [] from h1]; exact h2
  | x :: xs, _, _, _, ⟨v, r, e, h, hr⟩, h2 => by subst e; exact ⟨v, _, rfl, h, RepL.append hr h2⟩
end

/-- the class of an exception: of the module, by its name, or a built-in one -/
inductive XC where
  | own (x : Str) | blt (n : String)
  deriving DecidableEq
instance : Inhabited XC := ⟨.blt ""⟩
def XC.v (K : PySem.W.Frag) : XC → Value
  | .own x => .ref (He.ga K x)
  | .blt n => .type n
/-- what stands around: the caught errors (place, class, dict); what is kept as it is -/
structure EC where
  xs : List (Addr × Value × Option Addr)
  fr : Hp
/-! ## states: slots and numbered cells -/
inductive SV where
  | no | im (d : D) | cl (c : Nat)
instance : Inhabited SV := ⟨.no⟩
/-- a cell: a list, a tuple that holds cells, a dict, an instance, a caught error, a thing that is data from now on -/
inductive CO where
  | lst (xs : List SV) | tup (xs : List SV) | dic (kvs : List (Key × SV)) | ins (C : Str) (fs : List (Str × SV)) | exc (C : XC) (fs : List (Str × SV)) | fz (d : D) | dead
instance : Inhabited CO := ⟨.dead⟩
structure Sta where
  sl : List SV
  ce : List CO

section
variable (K : PySem.W.Frag) (ec : EC) (I : Hp) (as : List Addr)
def RV : SV → V → Prop
  | .no, _ => False
  | .im d, v => Rep K I d v
  | .cl c, v => ∃ a, as[c]? = some a ∧ v = .ref a
def RVL : List SV → List V → Prop
  | [], vs => vs = []
  | s :: ss, vs => ∃ v r, vs = v :: r ∧ RV K I as s v ∧ RVL ss r
def RVK : List (Key × SV) → List (Key × V) → Prop
  | [], vs => vs = []
  | (k, s) :: ss, vs => ∃ v r, vs = (k, v) :: r ∧ RV K I as s v ∧ RVK ss r
def RVF : List (Str × SV) → List (Str × V) → Prop
  | [], vs => vs = []
  | (k, s) :: ss, vs => ∃ v r, vs = (k, v) :: r ∧ RV K I as s v ∧ RVF ss r
/-- an exception's own dict -/
def XRel (fs : List (Str × SV)) : Option Addr → Prop
  | none => fs = []
  | some d => ∃ vs, I d = some (.xd vs) ∧ RVF K I as fs vs
def CellOk (H : Hp) (a : Addr) : CO → Prop
  | .lst xs => I a = none ∧ ∃ vs, H a = some (.lst vs) ∧ RVL K I as xs vs
  | .tup xs => I a = none ∧ ∃ vs, H a = some (.tup vs) ∧ RVL K I as xs vs
  | .dic kvs => I a = none ∧ ∃ vs, H a = some (.dK vs) ∧ RVK K I as kvs vs
  | .ins C fs => I a = none ∧ ∃ dx vs, H a = some (.ins (He.ga K C) dx vs) ∧ RVF K I as fs vs
  | .exc C fs => ∃ d, (a, C.v K, d) ∈ ec.xs ∧ XRel K I as fs d
  | .fz d => Rep K I d (.ref a)
  | .dead => True
end
def CO.live : CO → Bool
  | .lst _ => true | .tup _ => true | .dic _ => true | .ins _ _ => true | _ => false
structure R (K : PySem.W.Frag) (ec : EC) (δ : Sta) (σ : St) (I : Hp) (as : List Addr) (H : Hp) : Prop where
  fh : Same ec.fr H
  cf : ∀ (c : Nat) (o : CO) (a : Addr), δ.ce[c]? = some o → as[c]? = some a → o.live = true → ec.fr a = none
  fi : ∀ (a : Addr) (u : HO), ec.fr a = some u → I a = none
  ih : Same I H
  len : σ.length = δ.sl.length
  slots : ∀ (i : Nat) (s : SV), δ.sl[i]? = some s → s = .no ∨ ∃ v, σ[i]? = some (some v) ∧ RV K I as s v
  clen : as.length = δ.ce.length
  cells : ∀ (c : Nat) (o : CO) (a : Addr), δ.ce[c]? = some o → as[c]? = some a → CellOk K ec I as H a o
  inj : ∀ (c c' : Nat) (o o' : CO) (a : Addr), δ.ce[c]? = some o → δ.ce[c']? = some o' → o.live = true → o'.live = true → as[c]? = some a → as[c']? = some a → c = c'
/-- later: more frozen things, more cells -/
structure Le (I : Hp) (as : List Addr) (I' : Hp) (as' : List Addr) : Prop where
  i : Same I I'
  a : ∀ (c : Nat) (x : Addr), as[c]? = some x → as'[c]? = some x
theorem Le.refl (I : Hp) (as : List Addr) : Le I as I as := ⟨Same.refl I, fun _ _ h => h⟩
theorem Le.trans {I I1 I2 : Hp} {as as1 as2 : List Addr} (a : Le I as I1 as1) (b : Le I1 as1 I2 as2) : Le I as I2 as2 := ⟨a.i.trans b.i, fun c x h => b.a c x (a.a c x h)⟩
section
variable {K : PySem.W.Frag} {ec : EC} {I I' : Hp} {as as' : List Addr}
theorem RV.mono (e : Le I as I' as') : ∀ {s : SV} {v : V}, RV K I as s v → RV K I' as' s v
  | .no, _, h => h
  | .im d, v, h => Rep.mono e.i d v h
  | .cl c, v, ⟨a, h1, h2⟩ => ⟨a, e.a c a h1, h2⟩
theorem RVL.mono (e : Le I as I' as') : ∀ {s : List SV} {v : List V}, RVL K I as s v → RVL K I' as' s v
  | [], _, h => h
  | s :: ss, _, ⟨v, r, h1, h2, h3⟩ => ⟨v, r, h1, h2.mono e, h3.mono e⟩
theorem RVK.mono (e : Le I as I' as') : ∀ {s : List (Key × SV)} {v : List (Key × V)}, RVK K I as s v → RVK K I' as' s v
  | [], _, h => h
  | (_, s) :: ss, _, ⟨v, r, h1, h2, h3⟩ => ⟨v, r, h1, h2.mono e, h3.mono e⟩
theorem RVF.mono (e : Le I as I' as') : ∀ {s : List (Str × SV)} {v : List (Str × V)}, RVF K I as s v → RVF K I' as' s v
  | [], _, h => h
  | (_, s) :: ss, _, ⟨v, r, h1, h2, h3⟩ => ⟨v, r, h1, h2.mono e, h3.mono e⟩
theorem XRel.mono (e : Le I as I' as') {fs : List (Str × SV)} : ∀ {d : Option Addr}, XRel K I as fs d → XRel K I' as' fs d
  | none, h => h
  | some _, ⟨vs, h1, h2⟩ => ⟨vs, e.i _ _ h1, h2.mono e⟩
end

/-! ## exceptions that leave -/
structure Xn where
  cls : XC
  fs : List (Str × SV)
end Fx

set_option Elab.async false
set_option linter.all false
set_option autoImplicit false
set_option maxRecDepth 100000
set_option maxHeartbeats 2000000
namespace Fx
open PySem L2

/-! ## reading data off states -/
def imS (ce : List CO) : SV → Option D
  | .no => none
  | .im d => some d
  | .cl c => match ce[c]? with
    | some (.fz d) => some d
    | _ => none
def imL (ce : List CO) : List SV → Option (List D)
  | [] => some []
  | s :: ss => match imS ce s, imL ce ss with
    | some d, some ds => some (d :: ds)
    | _, _ => none
def imK (ce : List CO) : List (Key × SV) → Option (List (Key × D))
  | [] => some []
  | (k, s) :: ss => match imS ce s, imK ce ss with
    | some d, some ds => some ((k, d) :: ds)
    | _, _ => none
def imF (ce : List CO) : List (Str × SV) → Option (List (Str × D))
  | [] => some []
  | (k, s) :: ss => match imS ce s, imF ce ss with
    | some d, some ds => some ((k, d) :: ds)
    | _, _ => none
def dv (ce : List CO) : SV → Option D
  | .no => none
  | .im d => some d
  | .cl c => match ce[c]? with
    | some (.fz d) => some d
    | some (.lst xs) => (imL ce xs).map .lst
    | some (.tup xs) => (imL ce xs).map .tup
    | some (.dic kvs) => (imK ce kvs).map .dic
    | some (.ins C fs) => (imF ce fs).map (.ins C)
    | _ => none
/-- fields of which one is the tuple of the instance itself, the cell t -/
def imFS (ce : List CO) (t : Nat) : List (Str × SV) → Option (List (Str × D))
  | [] => some []
  | (k, s) :: ss => match (match s with | .cl c => if c = t then some D.me else imS ce s | s => imS ce s), imFS ce t ss with
    | some d, some ds => some ((k, d) :: ds)
    | _, _ => none
def findT (ce : List CO) (c : Nat) : List (Str × SV) → Option Nat
  | [] => none
  | (_, .cl t) :: ss => match ce[t]? with
    | some (.tup [.cl c']) => if c' = c then some t else findT ce c ss
    | _ => findT ce c ss
  | _ :: ss => findT ce c ss
/-- a cell becomes data -/
def frz (ce : List CO) (c : Nat) : Option (D × List CO) :=
  match dv ce (.cl c) with
  | some d => some (d, ce.set c (.fz d))
  | none => match ce[c]? with
    | some (.ins C fs) => match findT ce c fs with
      | some t => if t = c then none else (imFS ce t fs).map fun ds => (.slf C ds, (ce.set c (.fz (.slf C ds))).set t .dead)
      | none => none
    | _ => none
section
variable {K : PySem.W.Frag} {ec : EC} {δ : Sta} {σ : L2.St} {I : Hp} {as : List Addr} {H : Hp}
theorem R.imS (r : R K ec δ σ I as H) : ∀ {s : SV} {d : D} {v : V}, Fx.imS δ.ce s = some d → RV K I as s v → Rep K I d v
  | .no, _, _, e, _ => by cases e
  | .im d, _, _, e, h => by cases e; exact h
  | .cl c, d, v, e, ⟨a, ha, hv⟩ => by
    simp only [Fx.imS] at e
    cases q : δ.ce[c]? with
    | none => rw [q] at e; cases e
    | some o =>
      rw [q] at e
      cases o with
      | fz d' =>
        cases e
        subst hv
        exact r.cells c _ a q ha
      | _ => cases e
theorem R.imL (r : R K ec δ σ I as H) : ∀ {s : List SV} {d : List D} {v : List V}, Fx.imL δ.ce s = some d → RVL K I as s v → RepL K I d v
  | [], _, _, e, h => by cases e; exact h
  | s :: ss, d, v, e, ⟨u, w, h1, h2, h3⟩ => by
    simp only [Fx.imL] at e
    cases q1 : Fx.imS δ.ce s with
    | none => rw [q1] at e; cases e
    | some x =>
      cases q2 : Fx.imL δ.ce ss with
      | none => rw [q1, q2] at e; cases e
      | some xs =>
        rw [q1, q2] at e
        cases e
        exact ⟨u, w, h1, r.imS q1 h2, r.imL q2 h3⟩
theorem R.imK (r : R K ec δ σ I as H) : ∀ {s : List (Key × SV)} {d : List (Key × D)} {v : List (Key × V)}, Fx.imK δ.ce s = some d → RVK K I as s v → RepK K I d v
  | [], _, _, e, h => by cases e; exact h
  | (k, s) :: ss, d, v, e, ⟨u, w, h1, h2, h3⟩ => by
    simp only [Fx.imK] at e
    cases q1 : Fx.imS δ.ce s with
    | none => rw [q1] at e; cases e
    | some x =>
      cases q2 : Fx.imK δ.ce ss with
      | none => rw [q1, q2] at e; cases e
      | some xs =>
        rw [q1, q2] at e
        cases e
        exact ⟨u, w, h1, r.imS q1 h2, r.imK q2 h3⟩
theorem R.imF (r : R K ec δ σ I as H) : ∀ {s : List (Str × SV)} {d : List (Str × D)} {v : List (Str × V)}, Fx.imF δ.ce s = some d → RVF K I as s v → RepF K I d v
  | [], _, _, e, h => by cases e; exact h
  | (k, s) :: ss, d, v, e, ⟨u, w, h1, h2, h3⟩ => by
    simp only [Fx.imF] at e
    cases q1 : Fx.imS δ.ce s with
    | none => rw [q1] at e; cases e
    | some x =>
      cases q2 : Fx.imF δ.ce ss with
      | none => rw [q1, q2] at e; cases e
      | some xs =>
        rw [q1, q2] at e
        cases e
        exact ⟨u, w, h1, r.imS q1 h2, r.imF q2 h3⟩
/-- what a cell holds, read off I with the cell's own object put in -/
theorem R.dvAt (r : R K ec δ σ I as H) {c : Nat} {a : Addr} {o : CO} {d : D} (q : δ.ce[c]? = some o) (ha : as[c]? = some a) (e : Fx.dv δ.ce (.cl c) = some d) {J : Hp} (hJ : Same I J) (hJa : ∀ u, o.live = true → H a = some u → J a = some u) : Rep K J d (.ref a) := by
  simp only [Fx.dv] at e
  rw [q] at e
  have z := r.cells c o a q ha
  cases o with
  | fz d' => cases e; exact Rep.mono hJ _ _ z
  | dead => cases e
  | exc _ _ => cases e
  | lst xs =>
    obtain ⟨_, vs, h1, h2⟩ := z
    cases q2 : Fx.imL δ.ce xs with
    | none => simp only [q2] at e; cases e
    | some ds =>
      simp only [q2] at e
      cases e
      exact ⟨a, vs, rfl, hJa _ rfl h1, RepL.mono hJ _ _ (r.imL q2 h2)⟩
  | tup xs =>
    obtain ⟨_, vs, h1, h2⟩ := z
    cases q2 : Fx.imL δ.ce xs with
    | none => simp only [q2] at e; cases e
    | some ds =>
      simp only [q2] at e
      cases e
      exact ⟨a, vs, rfl, SqT.of (hJa _ rfl h1), RepL.mono hJ _ _ (r.imL q2 h2)⟩
  | dic kvs =>
    obtain ⟨_, vs, h1, h2⟩ := z
    cases q2 : Fx.imK δ.ce kvs with
    | none => simp only [q2] at e; cases e
    | some ds =>
      simp only [q2] at e
      cases e
      exact ⟨a, vs, rfl, Rd.of (hJa _ rfl h1), RepK.mono hJ _ _ (r.imK q2 h2)⟩
  | ins C fs =>
    obtain ⟨_, dx, vs, h1, h2⟩ := z
    cases q2 : Fx.imF δ.ce fs with
    | none => simp only [q2] at e; cases e
    | some ds =>
      simp only [q2] at e
      cases e
      exact ⟨a, dx, vs, rfl, hJa _ rfl h1, RepF.mono hJ _ _ (r.imF q2 h2)⟩
theorem R.dv (r : R K ec δ σ I as H) : ∀ {s : SV} {d : D} {v : V}, Fx.dv δ.ce s = some d → RV K I as s v → Rep K H d v
  | .no, _, _, e, _ => by cases e
  | .im d, _, _, e, h => by cases e; exact Rep.mono r.ih _ _ h
  | .cl c, d, v, e, ⟨a, ha, hv⟩ => by
    subst hv
    cases q : δ.ce[c]? with
    | none => simp only [Fx.dv] at e; rw [q] at e; cases e
    | some o => exact r.dvAt q ha e r.ih fun _ _ h => h
/-- a list that is read: its items are data -/
theorem R.dvL (r : R K ec δ σ I as H) : ∀ {s : SV} {ds : List D} {v : V}, Fx.dv δ.ce s = some (.lst ds) → RV K I as s v → ∃ a vs, v = .ref a ∧ H a = some (.lst vs) ∧ RepL K I ds vs
  | .no, _, _, e, _ => by cases e
  | .im d, _, _, e, h => by cases e; obtain ⟨a, vs, h1, h2, h3⟩ := h; exact ⟨a, vs, h1, r.ih _ _ h2, h3⟩
  | .cl c, ds, v, e, ⟨a, ha, hv⟩ => by
    subst hv
    simp only [Fx.dv] at e
    cases q : δ.ce[c]? with
    | none => rw [q] at e; cases e
    | some o =>
      rw [q] at e
      have z := r.cells c o a q ha
      cases o with
      | fz d' => cases e; obtain ⟨b, vs, h1, h2, h3⟩ := (show Rep K I (.lst ds) (.ref a) from z); cases h1; exact ⟨a, vs, rfl, r.ih _ _ h2, h3⟩
      | lst xs =>
        obtain ⟨_, vs, h1, h2⟩ := z
        cases q2 : Fx.imL δ.ce xs with
        | none => simp only [q2] at e; cases e
        | some ds' => simp only [q2] at e; cases e; exact ⟨a, vs, rfl, h1, r.imL q2 h2⟩
      | tup xs => simp only [Option.map_eq_some_iff] at e; obtain ⟨_, _, e⟩ := e; cases e
      | dic xs => simp only [Option.map_eq_some_iff] at e; obtain ⟨_, _, e⟩ := e; cases e
      | ins C xs => simp only [Option.map_eq_some_iff] at e; obtain ⟨_, _, e⟩ := e; cases e
      | _ => cases e
theorem R.dvT (r : R K ec δ σ I as H) : ∀ {s : SV} {ds : List D} {v : V}, Fx.dv δ.ce s = some (.tup ds) → RV K I as s v → ∃ a vs, v = .ref a ∧ SqT K H a vs ∧ RepL K I ds vs
  | .no, _, _, e, _ => by cases e
  | .im d, _, _, e, h => by cases e; obtain ⟨a, vs, h1, h2, h3⟩ := h; exact ⟨a, vs, h1, same_t r.ih h2, h3⟩
  | .cl c, ds, v, e, ⟨a, ha, hv⟩ => by
    subst hv
    simp only [Fx.dv] at e
    cases q : δ.ce[c]? with
    | none => rw [q] at e; cases e
    | some o =>
      rw [q] at e
      have z := r.cells c o a q ha
      cases o with
      | fz d' => cases e; obtain ⟨b, vs, h1, h2, h3⟩ := (show Rep K I (.tup ds) (.ref a) from z); cases h1; exact ⟨a, vs, rfl, same_t r.ih h2, h3⟩
      | tup xs =>
        obtain ⟨_, vs, h1, h2⟩ := z
        cases q2 : Fx.imL δ.ce xs with
        | none => simp only [q2] at e; cases e
        | some ds' => simp only [q2] at e; cases e; exact ⟨a, vs, rfl, SqT.of h1, r.imL q2 h2⟩
      | lst xs => simp only [Option.map_eq_some_iff] at e; obtain ⟨_, _, e⟩ := e; cases e
      | dic xs => simp only [Option.map_eq_some_iff] at e; obtain ⟨_, _, e⟩ := e; cases e
      | ins C xs => simp only [Option.map_eq_some_iff] at e; obtain ⟨_, _, e⟩ := e; cases e
      | _ => cases e
theorem R.dvK (r : R K ec δ σ I as H) : ∀ {s : SV} {ds : List (Key × D)} {v : V}, Fx.dv δ.ce s = some (.dic ds) → RV K I as s v → ∃ a vs, v = .ref a ∧ Rd H a (.dK vs) ∧ RepK K I ds vs
  | .no, _, _, e, _ => by cases e
  | .im d, _, _, e, h => by cases e; obtain ⟨a, vs, h1, h2, h3⟩ := h; exact ⟨a, vs, h1, same_rd r.ih h2, h3⟩
  | .cl c, ds, v, e, ⟨a, ha, hv⟩ => by
    subst hv
    simp only [Fx.dv] at e
    cases q : δ.ce[c]? with
    | none => rw [q] at e; cases e
    | some o =>
      rw [q] at e
      have z := r.cells c o a q ha
      cases o with
      | fz d' => cases e; obtain ⟨b, vs, h1, h2, h3⟩ := (show Rep K I (.dic ds) (.ref a) from z); cases h1; exact ⟨a, vs, rfl, same_rd r.ih h2, h3⟩
      | dic xs =>
        obtain ⟨_, vs, h1, h2⟩ := z
        cases q2 : Fx.imK δ.ce xs with
        | none => simp only [q2] at e; cases e
        | some ds' => simp only [q2] at e; cases e; exact ⟨a, vs, rfl, Rd.of h1, r.imK q2 h2⟩
      | lst xs => simp only [Option.map_eq_some_iff] at e; obtain ⟨_, _, e⟩ := e; cases e
      | tup xs => simp only [Option.map_eq_some_iff] at e; obtain ⟨_, _, e⟩ := e; cases e
      | ins C xs => simp only [Option.map_eq_some_iff] at e; obtain ⟨_, _, e⟩ := e; cases e
      | _ => cases e
theorem get_of_lt {α : Type} {l : List α} {c : Nat} (h : c < l.length) : ∃ x, l[c]? = some x := ⟨l[c], List.getElem?_eq_getElem h⟩
theorem lt_of_get {α : Type} {l : List α} {c : Nat} {x : α} (h : l[c]? = some x) : c < l.length := (List.getElem?_eq_some_iff.mp h).1
theorem R.adr (r : R K ec δ σ I as H) {c : Nat} {o : CO} (q : δ.ce[c]? = some o) : ∃ a, as[c]? = some a := get_of_lt (by rw [r.clen]; exact lt_of_get q)
theorem same_upd {I : Hp} {a : Addr} {o : HO} (h : I a = none) : Same I (upd I a o) := fun b u e => by
  rw [upd_ne (ne_of_none e h)]; exact e
theorem none_back {I H : Hp} (e : Same I H) {p : Addr} (h : H p = none) : I p = none := by
  cases q : I p with
  | none => rfl
  | some o => rw [e p o q] at h; cases h
theorem CellOk.mono {I' : Hp} {as' : List Addr} {H' : Hp} {a : Addr} : ∀ {o : CO}, CellOk K ec I as H a o → Le I as I' as' → (o.live = true → I' a = none) → (o.live = true → ∀ u, H a = some u → H' a = some u) → CellOk K ec I' as' H' a o
  | .lst xs, ⟨_, vs, h2, h3⟩, e, n, k => ⟨n rfl, vs, k rfl _ h2, h3.mono e⟩
  | .tup xs, ⟨_, vs, h2, h3⟩, e, n, k => ⟨n rfl, vs, k rfl _ h2, h3.mono e⟩
  | .dic xs, ⟨_, vs, h2, h3⟩, e, n, k => ⟨n rfl, vs, k rfl _ h2, h3.mono e⟩
  | .ins C xs, ⟨_, dx, vs, h2, h3⟩, e, n, k => ⟨n rfl, dx, vs, k rfl _ h2, h3.mono e⟩
  | .exc _ _, ⟨d, h1, h2⟩, e, _, _ => ⟨d, h1, h2.mono e⟩
  | .fz d, h, e, _, _ => Rep.mono e.i _ _ h
  | .dead, _, _, _, _ => trivial
theorem CellOk.free {a : Addr} : ∀ {o : CO}, o.live = true → CellOk K ec I as H a o → I a = none ∧ ∃ u, H a = some u
  | .lst xs, _, ⟨h, _, h2, _⟩ => ⟨h, _, h2⟩
  | .tup xs, _, ⟨h, _, h2, _⟩ => ⟨h, _, h2⟩
  | .dic xs, _, ⟨h, _, h2, _⟩ => ⟨h, _, h2⟩
  | .ins C xs, _, ⟨h, _, _, h2, _⟩ => ⟨h, _, h2⟩
  | .exc _ _, l, _ => by cases l
  | .fz d, l, _ => by cases l
  | .dead, l, _ => by cases l
/-- some cells become data: J is I with their objects -/
theorem R.lockS (r : R K ec δ σ I as H) (T : Nat → Prop) {J : Hp} (hJ : Same I J) (hJH : Same J H) (hJ2 : ∀ b u, J b = some u → I b = some u ∨ ∃ c o, T c ∧ δ.ce[c]? = some o ∧ o.live = true ∧ as[c]? = some b) {new : List CO} (hlen : new.length = δ.ce.length)
    (hnew : ∀ c o', new[c]? = some o' → (¬ T c ∧ δ.ce[c]? = some o') ∨ (o'.live = false ∧ ∀ a, as[c]? = some a → CellOk K ec J as H a o')) : R K ec ⟨δ.sl, new⟩ σ J as H ∧ Le I as J as := by
  have le : Le I as J as := ⟨hJ, fun _ _ h => h⟩
  refine ⟨⟨r.fh, fun c o a h1 h2 l => ?_, fun a u h => ?_, hJH, r.len, fun i s h => ?_, by rw [r.clen, hlen], fun c o a h1 h2 => ?_, fun c1 c2 o1 o2 a1 h1 h2 l1 l2 h3 h4 => ?_⟩, le⟩
  · rcases hnew c o h1 with ⟨_, g⟩ | ⟨g, _⟩
    · exact r.cf c o a g h2 l
    · rw [g] at l; cases l
  · cases q : J a with
    | none => rfl
    | some w =>
      rcases hJ2 a w q with q' | ⟨c, o, _, g, l, q'⟩
      · rw [r.fi a u h] at q'; cases q'
      · rw [r.cf c o a g q' l] at h; cases h
  · rcases r.slots i s h with h | ⟨v, h1, h2⟩
    · exact .inl h
    · exact .inr ⟨v, h1, h2.mono le⟩
  · rcases hnew c o h1 with ⟨nt, g⟩ | ⟨_, g⟩
    · have z := r.cells c o a g h2
      refine z.mono le (fun l => ?_) fun _ _ h => h
      cases q : J a with
      | none => rfl
      | some u =>
        rcases hJ2 a u q with q' | ⟨c', o', t, g', l', q'⟩
        · rw [(z.free l).1] at q'; cases q'
        · exact absurd (r.inj c c' o o' a g g' l l' h2 q' ▸ t) nt
    · exact g a h2
  · rcases hnew c1 o1 h1 with ⟨_, g1⟩ | ⟨g1, _⟩
    · rcases hnew c2 o2 h2 with ⟨_, g2⟩ | ⟨g2, _⟩
      · exact r.inj c1 c2 o1 o2 a1 g1 g2 l1 l2 h3 h4
      · rw [g2] at l2; cases l2
    · rw [g1] at l1; cases l1
theorem R.freeze (r : R K ec δ σ I as H) {c : Nat} {d : D} (e : Fx.dv δ.ce (.cl c) = some d) :
    ∃ I', R K ec { δ with ce := δ.ce.set c (.fz d) } σ I' as H ∧ Le I as I' as := by
  cases q : δ.ce[c]? with
  | none => simp only [Fx.dv] at e; rw [q] at e; cases e
  | some o =>
    obtain ⟨a, ha⟩ := r.adr q
    have hc : c < δ.ce.length := lt_of_get q
    have get : ∀ c' o', (δ.ce.set c (.fz d))[c']? = some o' → (c' ≠ c ∧ δ.ce[c']? = some o') ∨ (c' = c ∧ o' = .fz d) := fun c' o' h => by
      by_cases hcc : c' = c
      · subst hcc; rw [List.getElem?_set_self hc] at h; exact .inr ⟨rfl, (Option.some.inj h).symm⟩
      · rw [List.getElem?_set_ne (Ne.symm hcc)] at h; exact .inl ⟨hcc, h⟩
    by_cases hl : o.live = true
    · have z := r.cells c o a q ha
      obtain ⟨hn, u, hu⟩ := z.free hl
      refine ⟨upd I a u, r.lockS (fun c' => c' = c) (same_upd hn) (fun b w h => ?_) (fun b w h => ?_) (by simp) fun c' o' h => ?_⟩
      · by_cases hb : b = a
        · subst hb; rw [upd_same] at h; cases h; exact hu
        · rw [upd_ne hb] at h; exact r.ih b w h
      · by_cases hb : b = a
        · subst hb; exact .inr ⟨c, o, rfl, q, hl, ha⟩
        · rw [upd_ne hb] at h; exact .inl h
      · rcases get c' o' h with h | ⟨rfl, rfl⟩
        · exact .inl h
        · refine .inr ⟨rfl, fun a' ha' => ?_⟩
          rw [ha] at ha'; cases ha'
          exact r.dvAt q ha e (same_upd hn) fun w _ hw => by rw [upd_same]; rw [← hw]; exact hu.symm
    · refine ⟨I, r.lockS (fun c' => c' = c) (Same.refl I) r.ih (fun b w h => .inl h) (by simp) fun c' o' h => ?_⟩
      rcases get c' o' h with h | ⟨rfl, rfl⟩
      · exact .inl h
      · refine .inr ⟨rfl, fun a' ha' => ?_⟩
        rw [ha] at ha'; cases ha'
        exact r.dvAt q ha e (Same.refl I) fun w l _ => absurd l hl
theorem findT_ok {ce : List CO} {c t : Nat} : ∀ {fs : List (Str × SV)}, findT ce c fs = some t → ce[t]? = some (.tup [.cl c])
  | [], h => by cases h
  | (_, .no) :: ss, h => findT_ok (fs := ss) h
  | (_, .im d) :: ss, h => findT_ok (fs := ss) h
  | (k, .cl t') :: ss, h => by
    simp only [findT] at h
    split at h
    · rename_i c' q
      split at h
      · rename_i e; cases h; rw [q, e]
      · exact findT_ok (fs := ss) h
    · exact findT_ok (fs := ss) h
theorem R.imFS (r : R K ec δ σ I as H) {t : Nat} {p a : Addr} {J : Hp} (hJ : Same I J) (ht : as[t]? = some p) (hp : SqT K J p [.ref a]) : ∀ {fs : List (Str × SV)} {ds : List (Str × D)} {vs : List (Str × V)}, Fx.imFS δ.ce t fs = some ds → RVF K I as fs vs → RepS K J a ds vs
  | [], _, _, e, h => by cases e; exact h
  | (k, s) :: ss, d, v, e, ⟨u, w, h1, h2, h3⟩ => by
    simp only [Fx.imFS] at e
    cases q2 : Fx.imFS δ.ce t ss with
    | none =>
      rw [q2] at e
      split at e
      · rename_i z; cases z
      · cases e
    | some xs =>
      rw [q2] at e
      cases s with
      | no => cases h2
      | im d' =>
        simp only [Fx.imS] at e
        cases e
        exact ⟨u, w, h1, .inr (Rep.mono hJ _ _ h2), r.imFS hJ ht hp q2 h3⟩
      | cl c =>
        by_cases hc : c = t
        · simp only [hc, if_pos] at e
          cases e
          obtain ⟨b, hb, rfl⟩ := h2
          rw [hc, ht] at hb; cases hb
          exact ⟨_, w, h1, .inl ⟨rfl, p, rfl, hp⟩, r.imFS hJ ht hp q2 h3⟩
        · simp only [if_neg hc] at e
          cases q1 : Fx.imS δ.ce (.cl c) with
          | none => rw [q1] at e; cases e
          | some d' =>
            rw [q1] at e
            cases e
            exact ⟨u, w, h1, .inr (Rep.mono hJ _ _ (r.imS q1 h2)), r.imFS hJ ht hp q2 h3⟩
theorem R.frz (r : R K ec δ σ I as H) {c : Nat} {d : D} {ce' : List CO} (e : Fx.frz δ.ce c = some (d, ce')) : ∃ I', R K ec ⟨δ.sl, ce'⟩ σ I' as H ∧ Le I as I' as ∧ ∀ a, as[c]? = some a → Rep K I' d (.ref a) := by
  unfold Fx.frz at e
  cases q : Fx.dv δ.ce (.cl c) with
  | some d' =>
    rw [q] at e
    cases e
    obtain ⟨I', r', l⟩ := r.freeze q
    refine ⟨I', r', l, fun a ha => ?_⟩
    have hc : c < δ.ce.length := by rw [← r.clen]; exact lt_of_get ha
    exact r'.cells c (.fz d) a (List.getElem?_set_self hc) ha
  | none =>
    rw [q] at e
    dsimp only at e
    split at e
    · rename_i C fs qi
      split at e
      · rename_i t qt
        split at e
        · cases e
        · rename_i hne
          rw [Option.map_eq_some_iff] at e
          obtain ⟨ds, q3, e⟩ := e
          cases e
          have qtt := findT_ok qt
          obtain ⟨a, ha⟩ := r.adr qi
          obtain ⟨p, hp⟩ := r.adr qtt
          obtain ⟨hna, dx, vs, hha, rf⟩ := r.cells c _ a qi ha
          obtain ⟨hnp, ws, hhp, rl⟩ := r.cells t _ p qtt hp
          obtain ⟨w, _, rfl, ⟨b, hb, rfl⟩, rfl⟩ := rl
          rw [ha] at hb; cases hb
          have hpa : p ≠ a := fun z => hne (r.inj t c _ _ a qtt qi rfl rfl (z ▸ hp) ha)
          have s1 : Same I (upd I p (.tup [.ref a])) := same_upd hnp
          have hna' : upd I p (.tup [.ref a]) a = none := by rw [upd_ne (Ne.symm hpa)]; exact hna
          have s2 := s1.trans (same_upd (o := .ins (He.ga K C) dx vs) hna')
          have hc : c < δ.ce.length := lt_of_get qi
          have htl : t < δ.ce.length := lt_of_get qtt
          have hJp : upd (upd I p (.tup [.ref a])) a (.ins (He.ga K C) dx vs) p = some (.tup [.ref a]) := by rw [upd_ne hpa, upd_same]
          have rep : Rep K (upd (upd I p (.tup [.ref a])) a (.ins (He.ga K C) dx vs)) (.slf C ds) (.ref a) := ⟨a, dx, vs, rfl, upd_same, r.imFS s2 hp (SqT.of hJp) q3 rf⟩
          have key : R K ec ⟨δ.sl, (δ.ce.set c (.fz (.slf C ds))).set t .dead⟩ σ (upd (upd I p (.tup [.ref a])) a (.ins (He.ga K C) dx vs)) as H ∧ Le I as (upd (upd I p (.tup [.ref a])) a (.ins (He.ga K C) dx vs)) as := by
            refine r.lockS (fun c' => c' = c ∨ c' = t) s2 (fun b w h => ?_) (fun b w h => ?_) (by simp) fun c' o' h => ?_
            · by_cases hb : b = a
              · subst hb; rw [upd_same] at h; cases h; exact hha
              · rw [upd_ne hb] at h
                by_cases hb2 : b = p
                · subst hb2; rw [upd_same] at h; cases h; exact hhp
                · rw [upd_ne hb2] at h; exact r.ih b w h
            · by_cases hb : b = a
              · subst hb; exact .inr ⟨c, _, .inl rfl, qi, rfl, ha⟩
              · rw [upd_ne hb] at h
                by_cases hb2 : b = p
                · subst hb2; exact .inr ⟨t, _, .inr rfl, qtt, rfl, hp⟩
                · rw [upd_ne hb2] at h; exact .inl h
            · by_cases h1 : c' = t
              · subst h1
                rw [List.getElem?_set_self (by simpa using htl)] at h
                cases h
                exact .inr ⟨rfl, fun _ _ => trivial⟩
              · rw [List.getElem?_set_ne (Ne.symm h1)] at h
                by_cases h2 : c' = c
                · subst h2
                  rw [List.getElem?_set_self hc] at h
                  cases h
                  refine .inr ⟨rfl, fun a' ha' => ?_⟩
                  rw [ha] at ha'; cases ha'
                  exact rep
                · rw [List.getElem?_set_ne (Ne.symm h2)] at h
                  exact .inl ⟨fun z => z.elim h2 h1, h⟩
          refine ⟨_, key.1, key.2, fun a' ha' => ?_⟩
          rw [ha] at ha'; cases ha'
          exact rep
      · cases e
    · cases e
theorem getElem?_snoc_lt {α : Type} {l : List α} {x : α} {c : Nat} {y : α} (h : l[c]? = some y) : (l ++ [x])[c]? = some y := by
  have : c < l.length := lt_of_get h
  rw [List.getElem?_append_left this]; exact h
/-- a new frozen object -/
theorem R.newF (r : R K ec δ σ I as H) {p : Addr} {o : HO} (hp : H p = none) : R K ec δ σ (upd I p o) as (upd H p o) ∧ Le I as (upd I p o) as := by
  have hn := none_back r.ih hp
  have le : Le I as (upd I p o) as := ⟨same_upd hn, fun _ _ h => h⟩
  refine ⟨⟨fun b w h => ?_, r.cf, fun b w h => ?_, fun b w h => ?_, r.len, fun i s h => ?_, r.clen, fun c' o' a' h1 h2 => ?_, r.inj⟩, le⟩
  · rw [upd_ne (ne_of_none (r.fh b w h) hp)]; exact r.fh b w h
  · rw [upd_ne (ne_of_none (r.fh b w h) hp)]; exact r.fi b w h
  · by_cases hb : b = p
    · subst hb; rw [upd_same] at h ⊢; exact h
    · rw [upd_ne hb] at h ⊢; exact r.ih b w h
  · rcases r.slots i s h with h | ⟨v, h1, h2⟩
    · exact .inl h
    · exact .inr ⟨v, h1, h2.mono le⟩
  · have z := r.cells c' o' a' h1 h2
    refine z.mono le (fun l => ?_) fun l u hu => ?_
    · obtain ⟨n, u, hu⟩ := z.free l
      rw [upd_ne (ne_of_none hu hp)]; exact n
    · rw [upd_ne (ne_of_none hu hp)]; exact hu
/-- a new cell -/
theorem R.newC (r : R K ec δ σ I as H) {p : Addr} {o : HO} {co : CO} (hp : H p = none) (hc : CellOk K ec I as (upd H p o) p co) (hl : co.live = true) :
    R K ec { δ with ce := δ.ce ++ [co] } σ I (as ++ [p]) (upd H p o) ∧ Le I as I (as ++ [p]) := by
  have le : Le I as I (as ++ [p]) := ⟨Same.refl I, fun _ _ h => getElem?_snoc_lt h⟩
  have hn := none_back r.ih hp
  have hlen : as.length = δ.ce.length := r.clen
  have cut : ∀ (c : Nat) (o' : CO) (a' : Addr), (δ.ce ++ [co])[c]? = some o' → (as ++ [p])[c]? = some a' → (δ.ce[c]? = some o' ∧ as[c]? = some a') ∨ (c = δ.ce.length ∧ o' = co ∧ a' = p) := fun c o' a' h1 h2 => by
    by_cases hcc : c < δ.ce.length
    · rw [List.getElem?_append_left hcc] at h1
      rw [List.getElem?_append_left (by omega)] at h2
      exact .inl ⟨h1, h2⟩
    · have hlt : c < (δ.ce ++ [co]).length := lt_of_get h1
      simp at hlt
      have : c = δ.ce.length := by omega
      subst this
      simp at h1
      rw [← hlen] at h2
      simp at h2
      exact .inr ⟨rfl, h1.symm, h2.symm⟩
  refine ⟨⟨fun b w h => ?_, fun c' o' a' h1 h2 l' => ?_, r.fi, fun b w h => ?_, r.len, fun i s h => ?_, by simp [hlen], fun c' o' a' h1 h2 => ?_, fun c1 c2 o1 o2 a1 h1 h2 l1 l2 h3 h4 => ?_⟩, le⟩
  · rw [upd_ne (ne_of_none (r.fh b w h) hp)]; exact r.fh b w h
  · rcases cut c' o' a' h1 h2 with ⟨g1, g2⟩ | ⟨_, _, z⟩
    · exact r.cf c' o' a' g1 g2 l'
    · rw [z]; exact none_back r.fh hp
  · rw [upd_ne (ne_of_none h hn)]; exact r.ih b w h
  · rcases r.slots i s h with h | ⟨v, h1, h2⟩
    · exact .inl h
    · exact .inr ⟨v, h1, h2.mono le⟩
  · rcases cut c' o' a' h1 h2 with ⟨h1, h2⟩ | ⟨_, rfl, rfl⟩
    · have z := r.cells c' o' a' h1 h2
      refine z.mono le (fun l => (z.free l).1) fun l u hu => ?_
      rw [upd_ne (ne_of_none hu hp)]; exact hu
    · exact hc.mono le (fun _ => hn) fun _ _ h => h
  · rcases cut c1 o1 a1 h1 h3 with ⟨g1, g3⟩ | ⟨e1, _, z1⟩
    · rcases cut c2 o2 a1 h2 h4 with ⟨g2, g4⟩ | ⟨e2, _, z2⟩
      · exact r.inj c1 c2 o1 o2 a1 g1 g2 l1 l2 g3 g4
      · obtain ⟨_, u, hu⟩ := (r.cells c1 o1 a1 g1 g3).free l1
        rw [z2, hp] at hu; cases hu
    · rcases cut c2 o2 a1 h2 h4 with ⟨g2, g4⟩ | ⟨e2, _, _⟩
      · obtain ⟨_, u, hu⟩ := (r.cells c2 o2 a1 g2 g4).free l2
        rw [z1, hp] at hu; cases hu
      · exact e1.trans e2.symm
/-- a cell is written -/
theorem R.setC (r : R K ec δ σ I as H) {c : Nat} {o co : CO} {a : Addr} {u : HO} (q : δ.ce[c]? = some o) (hl : o.live = true) (ha : as[c]? = some a) (hc : CellOk K ec I as (upd H a u) a co) (hl' : co.live = true) :
    R K ec { δ with ce := δ.ce.set c co } σ I as (upd H a u) := by
  have z := r.cells c o a q ha
  obtain ⟨hn, w0, hw0⟩ := z.free hl
  have hlt : c < δ.ce.length := lt_of_get q
  refine ⟨fun b w h => ?_, fun c' o' a' h1 h2 l' => ?_, r.fi, fun b w h => ?_, r.len, r.slots, by simp [r.clen], fun c' o' a' h1 h2 => ?_, fun c1 c2 o1 o2 a1 h1 h2 l1 l2 h3 h4 => ?_⟩
  · rw [upd_ne (ne_of_none h (r.cf c o a q ha hl))]; exact r.fh b w h
  · by_cases hcc : c' = c
    · subst hcc; exact r.cf c' o a' q h2 hl
    · simp only [List.getElem?_set_ne (Ne.symm hcc)] at h1
      exact r.cf c' o' a' h1 h2 l'
  · rw [upd_ne (ne_of_none h hn)]; exact r.ih b w h
  · by_cases hcc : c' = c
    · subst hcc
      simp only [List.getElem?_set_self hlt] at h1
      cases h1
      rw [ha] at h2; cases h2
      exact hc
    · simp only [List.getElem?_set_ne (Ne.symm hcc)] at h1
      have z' := r.cells c' o' a' h1 h2
      refine z'.mono (Le.refl I as) (fun l => (z'.free l).1) fun l w hw => ?_
      have ne : a' ≠ a := fun ea => hcc (r.inj c' c o' o a' h1 q l hl h2 (ea ▸ ha))
      rw [upd_ne ne]; exact hw
  · have g : ∀ (c1 : Nat) (o1 : CO), (δ.ce.set c co)[c1]? = some o1 → o1.live = true → ∃ o1', δ.ce[c1]? = some o1' ∧ o1'.live = true := fun c1 o1 h1 l1 => by
      by_cases hcc : c1 = c
      · subst hcc; exact ⟨o, q, hl⟩
      · simp only [List.getElem?_set_ne (Ne.symm hcc)] at h1; exact ⟨o1, h1, l1⟩
    obtain ⟨p1, g1, k1⟩ := g c1 o1 h1 l1
    obtain ⟨p2, g2, k2⟩ := g c2 o2 h2 l2
    exact r.inj c1 c2 p1 p2 a1 g1 g2 k1 k2 h3 h4
/-- a name is stored -/
theorem R.store (r : R K ec δ σ I as H) {i : Nat} {s : SV} {v : V} (h : RV K I as s v) : R K ec { δ with sl := δ.sl.set i s } (σ.set i (some v)) I as H := by
  refine ⟨r.fh, r.cf, r.fi, r.ih, by simp [r.len], fun j t hj => ?_, r.clen, r.cells, r.inj⟩
  by_cases hij : j = i
  · subst hij
    by_cases hlt : j < δ.sl.length
    · simp only [List.getElem?_set_self hlt] at hj
      cases hj
      exact .inr ⟨v, List.getElem?_set_self (by rw [r.len]; exact hlt), h⟩
    · have hj' : j < (δ.sl.set j s).length := lt_of_get hj
      simp at hj'
      exact absurd hj' hlt
  · simp only [List.getElem?_set_ne (Ne.symm hij)] at hj
    rcases r.slots j t hj with h | ⟨w, h1, h2⟩
    · exact .inl h
    · exact .inr ⟨w, by rw [List.getElem?_set_ne (Ne.symm hij)]; exact h1, h2⟩
/-- other slots -/
theorem R.reslot {sl : List SV} {ce : List CO} {σ σ' : L2.St} {I' : Hp} {as' : List Addr} {H' : Hp} (r' : R K ec ⟨sl, ce⟩ σ' I' as' H') (r : R K ec δ σ I as H) (l : Le I as I' as') : R K ec ⟨δ.sl, ce⟩ σ I' as' H' :=
  ⟨r'.fh, r'.cf, r'.fi, r'.ih, r.len, fun i s h => by
    rcases r.slots i s h with z | ⟨v, z1, z2⟩
    · exact .inl z
    · exact .inr ⟨v, z1, z2.mono l⟩, r'.clen, r'.cells, r'.inj⟩
theorem R.bare (r : R K ec δ σ I as H) : R K ec ⟨[], δ.ce⟩ [] I as H := ⟨r.fh, r.cf, r.fi, r.ih, rfl, fun i s h => by simp at h, r.clen, r.cells, r.inj⟩
end
/-! ## cells at the end dropped -/
def SV.bnd (n : Nat) : SV → Bool
  | .cl c => decide (c < n)
  | _ => true
def CO.bnd (n : Nat) : CO → Bool
  | .lst xs => xs.all (SV.bnd n)
  | .tup xs => xs.all (SV.bnd n)
  | .dic kvs => kvs.all fun p => p.2.bnd n
  | .ins _ fs => fs.all fun p => p.2.bnd n
  | .exc _ fs => fs.all fun p => p.2.bnd n
  | _ => true
def cutS (k : Nat) : SV → SV
  | .cl c => if c < k then .cl c else .no
  | s => s
section
variable {K : PySem.W.Frag} {ec : EC} {δ : Sta} {σ : L2.St} {I : Hp} {as : List Addr} {H : Hp}
theorem take_get {α : Type} {l : List α} {k c : Nat} {x : α} : (l.take k)[c]? = some x ↔ c < k ∧ l[c]? = some x := by
  rw [List.getElem?_take]
  by_cases h : c < k
  · simp [h]
  · simp [h]
theorem RV.cut {k : Nat} : ∀ {s : SV} {v : V}, s.bnd k = true → RV K I as s v → RV K I (as.take k) s v
  | .no, _, _, h => h
  | .im d, v, _, h => h
  | .cl c, v, b, ⟨a, h1, h2⟩ => ⟨a, take_get.mpr ⟨of_decide_eq_true b, h1⟩, h2⟩
theorem RVL.cut {k : Nat} : ∀ {s : List SV} {v : List V}, s.all (SV.bnd k) = true → RVL K I as s v → RVL K I (as.take k) s v
  | [], _, _, h => h
  | s :: ss, _, b, ⟨v, r, h1, h2, h3⟩ => by
    have b' : (s.bnd k && ss.all (SV.bnd k)) = true := b
    rw [Bool.and_eq_true] at b'
    exact ⟨v, r, h1, h2.cut b'.1, h3.cut b'.2⟩
theorem RVK.cut {k : Nat} : ∀ {s : List (Key × SV)} {v : List (Key × V)}, (s.all fun p => p.2.bnd k) = true → RVK K I as s v → RVK K I (as.take k) s v
  | [], _, _, h => h
  | (_, s) :: ss, _, b, ⟨v, r, h1, h2, h3⟩ => by
    have b' : (s.bnd k && ss.all fun p => p.2.bnd k) = true := b
    rw [Bool.and_eq_true] at b'
    exact ⟨v, r, h1, h2.cut b'.1, h3.cut b'.2⟩
theorem RVF.cut {k : Nat} : ∀ {s : List (Str × SV)} {v : List (Str × V)}, (s.all fun p => p.2.bnd k) = true → RVF K I as s v → RVF K I (as.take k) s v
  | [], _, _, h => h
  | (_, s) :: ss, _, b, ⟨v, r, h1, h2, h3⟩ => by
    have b' : (s.bnd k && ss.all fun p => p.2.bnd k) = true := b
    rw [Bool.and_eq_true] at b'
    exact ⟨v, r, h1, h2.cut b'.1, h3.cut b'.2⟩
theorem XRel.cut {k : Nat} {fs : List (Str × SV)} (hb : (fs.all fun p => p.2.bnd k) = true) : ∀ {d : Option Addr}, XRel K I as fs d → XRel K I (as.take k) fs d
  | none, h => h
  | some _, ⟨vs, h1, h2⟩ => ⟨vs, h1, h2.cut hb⟩
theorem CellOk.cut {k : Nat} {a : Addr} : ∀ {o : CO}, o.bnd k = true → CellOk K ec I as H a o → CellOk K ec I (as.take k) H a o
  | .lst xs, b, ⟨h1, vs, h2, h3⟩ => ⟨h1, vs, h2, h3.cut b⟩
  | .tup xs, b, ⟨h1, vs, h2, h3⟩ => ⟨h1, vs, h2, h3.cut b⟩
  | .dic xs, b, ⟨h1, vs, h2, h3⟩ => ⟨h1, vs, h2, h3.cut b⟩
  | .ins C xs, b, ⟨h1, dx, vs, h2, h3⟩ => ⟨h1, dx, vs, h2, h3.cut b⟩
  | .exc C xs, b, ⟨d, h1, h2⟩ => ⟨d, h1, h2.cut b⟩
  | .fz d, _, h => h
  | .dead, _, _ => trivial
theorem R.cut (r : R K ec δ σ I as H) {k : Nat} (hb : (δ.ce.take k).all (CO.bnd k) = true) : R K ec ⟨δ.sl.map (cutS k), δ.ce.take k⟩ σ I (as.take k) H := by
  refine ⟨r.fh, fun c o a h1 h2 l => r.cf c o a (take_get.mp h1).2 (take_get.mp h2).2 l, r.fi, r.ih, by simp [r.len], fun i s h => ?_, by simp [r.clen], fun c o a h1 h2 => ?_, fun c c' o o' a h1 h2 l1 l2 h3 h4 => ?_⟩
  · have h' : (δ.sl.map (cutS k))[i]? = some s := h
    rw [List.getElem?_map] at h'
    cases q : δ.sl[i]? with
    | none => rw [q] at h'; cases h'
    | some t =>
      rw [q] at h'
      have e : cutS k t = s := Option.some.inj h'
      subst e
      rcases r.slots i t q with z | ⟨v, z1, z2⟩
      · subst z; exact .inl rfl
      · cases t with
        | no => exact .inl rfl
        | im d => exact .inr ⟨v, z1, z2⟩
        | cl c =>
          by_cases hc : c < k
          · right
            refine ⟨v, z1, ?_⟩
            show RV K I (as.take k) (if c < k then .cl c else .no) v
            rw [if_pos hc]
            exact RV.cut (s := .cl c) (decide_eq_true hc) z2
          · left
            show (if c < k then SV.cl c else .no) = .no
            rw [if_neg hc]
  · have bo : o.bnd k = true := List.all_eq_true.mp hb o (List.mem_of_getElem? h1)
    exact (r.cells c o a (take_get.mp h1).2 (take_get.mp h2).2).cut bo
  · exact r.inj c c' o o' a (take_get.mp h1).2 (take_get.mp h2).2 l1 l2 (take_get.mp h3).2 (take_get.mp h4).2
theorem Le.cut {I' : Hp} {as' : List Addr} (l : Le I as I' as') {k : Nat} (hk : as.length ≤ k) : Le I as I' (as'.take k) := ⟨l.i, fun c x h => take_get.mpr ⟨Nat.lt_of_lt_of_le (lt_of_get h) hk, l.a c x h⟩⟩
/-! what R itself bounds -/
theorem RV.bnd : ∀ {s : SV} {v : V}, RV K I as s v → s.bnd as.length = true
  | .no, _, h => rfl
  | .im d, v, h => rfl
  | .cl c, v, ⟨a, h1, h2⟩ => decide_eq_true (lt_of_get h1)
theorem RVL.bnd : ∀ {s : List SV} {v : List V}, RVL K I as s v → s.all (SV.bnd as.length) = true
  | [], _, h => rfl
  | s :: ss, _, ⟨v, r, h1, h2, h3⟩ => by
    show (s.bnd as.length && ss.all (SV.bnd as.length)) = true
    rw [h2.bnd, h3.bnd]; rfl
theorem RVK.bnd : ∀ {s : List (Key × SV)} {v : List (Key × V)}, RVK K I as s v → (s.all fun p => p.2.bnd as.length) = true
  | [], _, h => rfl
  | (k, s) :: ss, _, ⟨v, r, h1, h2, h3⟩ => by
    show (s.bnd as.length && ss.all fun p => p.2.bnd as.length) = true
    rw [h2.bnd, h3.bnd]; rfl
theorem RVF.bnd : ∀ {s : List (Str × SV)} {v : List (Str × V)}, RVF K I as s v → (s.all fun p => p.2.bnd as.length) = true
  | [], _, h => rfl
  | (k, s) :: ss, _, ⟨v, r, h1, h2, h3⟩ => by
    show (s.bnd as.length && ss.all fun p => p.2.bnd as.length) = true
    rw [h2.bnd, h3.bnd]; rfl
theorem CellOk.bnd {a : Addr} : ∀ {o : CO}, CellOk K ec I as H a o → o.bnd as.length = true
  | .lst xs, ⟨h1, vs, h2, h3⟩ => h3.bnd
  | .tup xs, ⟨h1, vs, h2, h3⟩ => h3.bnd
  | .dic xs, ⟨h1, vs, h2, h3⟩ => h3.bnd
  | .ins C xs, ⟨h1, dx, vs, h2, h3⟩ => h3.bnd
  | .exc C xs, ⟨none, h1, h2⟩ => by rw [show xs = [] from h2]; rfl
  | .exc C xs, ⟨some d, h1, vs, h2, h3⟩ => h3.bnd
  | .fz d, _ => rfl
  | .dead, _ => rfl
theorem R.bndAll (r : R K ec δ σ I as H) : δ.ce.all (CO.bnd δ.ce.length) = true := by
  refine List.all_eq_true.mpr fun o ho => ?_
  obtain ⟨c, hc⟩ := List.getElem?_of_mem ho
  obtain ⟨a, ha⟩ := r.adr hc
  have := (r.cells c o a hc ha).bnd
  rw [r.clen] at this; exact this
end
end Fx

set_option Elab.async false
set_option linter.all false
set_option autoImplicit false
set_option maxRecDepth 100000
set_option maxHeartbeats 2000000
namespace Fx
open PySem L2
abbrev W0 : WX := fun _ _ _ _ => False
/-! ## what is wanted behind an expression -/
structure ConE (K : PySem.W.Frag) (ec : EC) (σ : St) (I : Hp) (as : List Addr) (W : WX) (Ψ : SV → Sta → Prop) (Ξ : Xn → Sta → Prop) (Q : VK) : Prop where
  v : ∀ s δ' v I' as' H', R K ec δ' σ I' as' H' → Le I as I' as' → RV K I' as' s v → Ψ s δ' → Q v H'
  x : ∀ (x : Xn) δ' d I' as' H', R K ec δ' σ I' as' H' → Le I as I' as' → XRel K I' as' x.fs d → Ξ x δ' → W (x.cls.v K) d σ H'
def WE (K : PySem.W.Frag) (ec : EC) (W : WX) (te : TE) (Ψ : SV → Sta → Prop) (Ξ : Xn → Sta → Prop) (δ : Sta) : Prop :=
  ∀ (σ : St) (I : Hp) (as : List Addr) (H : Hp) (Q : VK), R K ec δ σ I as H → ConE K ec σ I as W Ψ Ξ Q → te σ H Q
structure ConT (K : PySem.W.Frag) (ec : EC) (σ : St) (I : Hp) (as : List Addr) (W : WX) (Ψ : Bool → Sta → Prop) (Ξ : Xn → Sta → Prop) (Q : Bool → Hp → Prop) : Prop where
  v : ∀ b δ' I' as' H', R K ec δ' σ I' as' H' → Le I as I' as' → Ψ b δ' → Q b H'
  x : ∀ (x : Xn) δ' d I' as' H', R K ec δ' σ I' as' H' → Le I as I' as' → XRel K I' as' x.fs d → Ξ x δ' → W (x.cls.v K) d σ H'
def WT (K : PySem.W.Frag) (ec : EC) (W : WX) (t : TT) (Ψ : Bool → Sta → Prop) (Ξ : Xn → Sta → Prop) (δ : Sta) : Prop :=
  ∀ (σ : St) (I : Hp) (as : List Addr) (H : Hp) (Q : Bool → Hp → Prop), R K ec δ σ I as H → ConT K ec σ I as W Ψ Ξ Q → t σ H Q
structure ConA (K : PySem.W.Frag) (ec : EC) (σ : St) (I : Hp) (as : List Addr) (W : WX) (Ψ : List SV → Sta → Prop) (Ξ : Xn → Sta → Prop) (Q : List V → Hp → Prop) : Prop where
  v : ∀ s δ' v I' as' H', R K ec δ' σ I' as' H' → Le I as I' as' → RVL K I' as' s v → Ψ s δ' → Q v H'
  x : ∀ (x : Xn) δ' d I' as' H', R K ec δ' σ I' as' H' → Le I as I' as' → XRel K I' as' x.fs d → Ξ x δ' → W (x.cls.v K) d σ H'
def WA (K : PySem.W.Frag) (ec : EC) (W : WX) (t : TA) (Ψ : List SV → Sta → Prop) (Ξ : Xn → Sta → Prop) (δ : Sta) : Prop :=
  ∀ (σ : St) (I : Hp) (as : List Addr) (H : Hp) (Q : List V → Hp → Prop), R K ec δ σ I as H → ConA K ec σ I as W Ψ Ξ Q → t σ H Q
structure Post where
  nx : Sta → Prop
  rt : SV → Sta → Prop
  bk : Sta → Prop := fun _ => False
  ct : Sta → Prop := fun _ => False
  ex : Xn → Sta → Prop := fun _ _ => False
structure ConS (K : PySem.W.Frag) (ec : EC) (I : Hp) (as : List Addr) (W : WX) (Φ : Post) (D : Ends) : Prop where
  nx : ∀ δ' σ' I' as' H', R K ec δ' σ' I' as' H' → Le I as I' as' → Φ.nx δ' → D.nx σ' H'
  rt : ∀ s δ' σ' v I' as' H', R K ec δ' σ' I' as' H' → Le I as I' as' → RV K I' as' s v → Φ.rt s δ' → D.rt v H'
  bk : ∀ δ' σ' I' as' H', R K ec δ' σ' I' as' H' → Le I as I' as' → Φ.bk δ' → D.bk σ' H'
  ct : ∀ δ' σ' I' as' H', R K ec δ' σ' I' as' H' → Le I as I' as' → Φ.ct δ' → D.ct σ' H'
  x : ∀ (x : Xn) δ' σ' d I' as' H', R K ec δ' σ' I' as' H' → Le I as I' as' → XRel K I' as' x.fs d → Φ.ex x δ' → W (x.cls.v K) d σ' H'
def WS (K : PySem.W.Frag) (ec : EC) (W : WX) (t : TS) (Φ : Post) (δ : Sta) : Prop :=
  ∀ (σ : St) (I : Hp) (as : List Addr) (H : Hp) (D : Ends), R K ec δ σ I as H → ConS K ec I as W Φ D → t D σ H
section
variable {K : PySem.W.Frag} {ec : EC} {σ : L2.St} {I I1 : Hp} {as as1 : List Addr} {W : WX}
theorem ConE.later {Ψ : SV → Sta → Prop} {Ξ : Xn → Sta → Prop} {Q : VK} (c : ConE K ec σ I as W Ψ Ξ Q) (e : Le I as I1 as1) : ConE K ec σ I1 as1 W Ψ Ξ Q :=
  ⟨fun s δ' v I' as' H' r l => c.v s δ' v I' as' H' r (e.trans l), fun x δ' d I' as' H' r l => c.x x δ' d I' as' H' r (e.trans l)⟩
theorem ConT.later {Ψ : Bool → Sta → Prop} {Ξ : Xn → Sta → Prop} {Q : Bool → Hp → Prop} (c : ConT K ec σ I as W Ψ Ξ Q) (e : Le I as I1 as1) : ConT K ec σ I1 as1 W Ψ Ξ Q :=
  ⟨fun s δ' I' as' H' r l => c.v s δ' I' as' H' r (e.trans l), fun x δ' d I' as' H' r l => c.x x δ' d I' as' H' r (e.trans l)⟩
theorem ConA.later {Ψ : List SV → Sta → Prop} {Ξ : Xn → Sta → Prop} {Q : List V → Hp → Prop} (c : ConA K ec σ I as W Ψ Ξ Q) (e : Le I as I1 as1) : ConA K ec σ I1 as1 W Ψ Ξ Q :=
  ⟨fun s δ' v I' as' H' r l => c.v s δ' v I' as' H' r (e.trans l), fun x δ' d I' as' H' r l => c.x x δ' d I' as' H' r (e.trans l)⟩
theorem ConS.later {Φ : Post} {D : Ends} (c : ConS K ec I as W Φ D) (e : Le I as I1 as1) : ConS K ec I1 as1 W Φ D :=
  ⟨fun δ' σ' I' as' H' r l => c.nx δ' σ' I' as' H' r (e.trans l), fun s δ' σ' v I' as' H' r l => c.rt s δ' σ' v I' as' H' r (e.trans l),
   fun δ' σ' I' as' H' r l => c.bk δ' σ' I' as' H' r (e.trans l), fun δ' σ' I' as' H' r l => c.ct δ' σ' I' as' H' r (e.trans l),
   fun x δ' σ' d I' as' H' r l => c.x x δ' σ' d I' as' H' r (e.trans l)⟩
end


section
variable {K : PySem.W.Frag} {ec : EC} {W : WX} {Ψ : SV → Sta → Prop} {Ξ : Xn → Sta → Prop} {δ : Sta} {ta tb te tx : TE}
/-! ## expressions -/
theorem we_c {v : V} {d : D} (hd : ∀ I, Rep K I d v) (k : Ψ (.im d) δ) : WE K ec W (tC v) Ψ Ξ δ := fun σ I as H Q r c => c.v (.im d) δ v I as H r (Le.refl I as) (hd I) k
theorem we_int {i : Int} (k : Ψ (.im (.int i)) δ) : WE K ec W (tC (.int i)) Ψ Ξ δ := we_c (d := .int i) (fun _ => rfl) k
theorem we_str {x : Str} (k : Ψ (.im (.str x)) δ) : WE K ec W (tC (.str x)) Ψ Ξ δ := we_c (d := .str x) (fun _ => rfl) k
theorem we_bl {b : Bool} (k : Ψ (.im (.bl b)) δ) : WE K ec W (tC (.bl b)) Ψ Ξ δ := we_c (d := .bl b) (fun _ => rfl) k
theorem we_non (k : Ψ (.im .non) δ) : WE K ec W (tC .non) Ψ Ξ δ := we_c (d := .non) (fun _ => rfl) k
theorem we_ty {n : String} (k : Ψ (.im (.ty n)) δ) : WE K ec W (tC (.ty n)) Ψ Ξ δ := we_c (d := .ty n) (fun _ => rfl) k
theorem we_glo {x : Str} (k : Ψ (.im (.glo x)) δ) : WE K ec W (tC (.ref (He.ga K x))) Ψ Ξ δ := we_c (d := .glo x) (fun _ => rfl) k
/-- an operation on values that are come to -/
def OpW (K : PySem.W.Frag) (ec : EC) (r : R2) (s1 s2 : SV) (Ψ : SV → Sta → Prop) (δ : Sta) : Prop :=
  ∀ (σ : L2.St) (I : Hp) (as : List Addr) (H : Hp) (Q : VK) (v w : V), R K ec δ σ I as H → RV K I as s1 v → RV K I as s2 w →
    (∀ s δ' v I' as' H', R K ec δ' σ I' as' H' → Le I as I' as' → RV K I' as' s v → Ψ s δ' → Q v H') → r v w H Q
theorem we_op {r : R2} (h : WE K ec W ta (fun s1 δ1 => WE K ec W tb (fun s2 δ2 => OpW K ec r s1 s2 Ψ δ2) Ξ δ1) Ξ δ) : WE K ec W (tOp r ta tb) Ψ Ξ δ := by
  intro σ I as H Q r c
  refine h σ I as H _ r ⟨fun s1 δ1 v1 I1 as1 H1 r1 l1 rv1 k1 => ?_, c.x⟩
  refine k1 σ I1 as1 H1 _ r1 ⟨fun s2 δ2 v2 I2 as2 H2 r2 l2 rv2 k2 => ?_, (c.later l1).x⟩
  exact k2 σ I2 as2 H2 Q v1 v2 r2 (rv1.mono l2) rv2 ((c.later l1).later l2).v
theorem ow_l {r r' : R2} {s1 s2 : SV} (h : OpW K ec r s1 s2 Ψ δ) : OpW K ec (fun x y H Q => r x y H Q ∨ r' x y H Q) s1 s2 Ψ δ := fun σ I as H Q v w r h1 h2 c => .inl (h σ I as H Q v w r h1 h2 c)
theorem ow_r {r r' : R2} {s1 s2 : SV} (h : OpW K ec r' s1 s2 Ψ δ) : OpW K ec (fun x y H Q => r x y H Q ∨ r' x y H Q) s1 s2 Ψ δ := fun σ I as H Q v w r h1 h2 c => .inr (h σ I as H Q v w r h1 h2 c)
/-- ints -/
theorem ow_i0 {g : Int → Int → V} {s1 s2 : SV} {i j : Int} {d : D} (e1 : dv δ.ce s1 = some (.int i)) (e2 : dv δ.ce s2 = some (.int j)) (hd : ∀ I, Rep K I d (g i j)) (k : Ψ (.im d) δ) : OpW K ec (rI0 g) s1 s2 Ψ δ :=
  fun σ I as H Q v w r h1 h2 c => ⟨i, j, r.dv e1 h1, r.dv e2 h2, c (.im d) δ _ I as H r (Le.refl I as) (hd I) k⟩
theorem ow_i {C : Int → Int → Prop} {g : Int → Int → V} {s1 s2 : SV} {i j : Int} {d : D} (e1 : dv δ.ce s1 = some (.int i)) (e2 : dv δ.ce s2 = some (.int j)) (hd : ∀ I, Rep K I d (g i j)) (hc : C i j) (k : Ψ (.im d) δ) : OpW K ec (rI C g) s1 s2 Ψ δ :=
  fun σ I as H Q v w r h1 h2 c => ⟨i, j, r.dv e1 h1, r.dv e2 h2, hc, c (.im d) δ _ I as H r (Le.refl I as) (hd I) k⟩
theorem ow_add {s1 s2 : SV} {i j : Int} (e1 : dv δ.ce s1 = some (.int i)) (e2 : dv δ.ce s2 = some (.int j)) (k : Ψ (.im (.int (i + j))) δ) : OpW K ec (rI0 fun i j => .int (i + j)) s1 s2 Ψ δ := ow_i0 (d := .int (i + j)) e1 e2 (fun _ => rfl) k
theorem ow_sub {s1 s2 : SV} {i j : Int} (e1 : dv δ.ce s1 = some (.int i)) (e2 : dv δ.ce s2 = some (.int j)) (k : Ψ (.im (.int (i - j))) δ) : OpW K ec (rI0 fun i j => .int (i - j)) s1 s2 Ψ δ := ow_i0 (d := .int (i - j)) e1 e2 (fun _ => rfl) k
theorem ow_lt {s1 s2 : SV} {i j : Int} (e1 : dv δ.ce s1 = some (.int i)) (e2 : dv δ.ce s2 = some (.int j)) (k : Ψ (.im (.bl (decide (i < j)))) δ) : OpW K ec (rI0 fun i j => .bl (decide (i < j))) s1 s2 Ψ δ := ow_i0 (d := .bl _) e1 e2 (fun _ => rfl) k
theorem ow_le {s1 s2 : SV} {i j : Int} (e1 : dv δ.ce s1 = some (.int i)) (e2 : dv δ.ce s2 = some (.int j)) (k : Ψ (.im (.bl (decide (i ≤ j)))) δ) : OpW K ec (rI0 fun i j => .bl (decide (i ≤ j))) s1 s2 Ψ δ := ow_i0 (d := .bl _) e1 e2 (fun _ => rfl) k
theorem ow_gt {s1 s2 : SV} {i j : Int} (e1 : dv δ.ce s1 = some (.int i)) (e2 : dv δ.ce s2 = some (.int j)) (k : Ψ (.im (.bl (decide (j < i)))) δ) : OpW K ec (rI0 fun i j => .bl (decide (j < i))) s1 s2 Ψ δ := ow_i0 (d := .bl _) e1 e2 (fun _ => rfl) k
theorem ow_ge {s1 s2 : SV} {i j : Int} (e1 : dv δ.ce s1 = some (.int i)) (e2 : dv δ.ce s2 = some (.int j)) (k : Ψ (.im (.bl (decide (j ≤ i)))) δ) : OpW K ec (rI0 fun i j => .bl (decide (j ≤ i))) s1 s2 Ψ δ := ow_i0 (d := .bl _) e1 e2 (fun _ => rfl) k
theorem ow_mul {s1 s2 : SV} {i j : Int} (e1 : dv δ.ce s1 = some (.int i)) (e2 : dv δ.ce s2 = some (.int j)) (hc : CMul i j) (k : Ψ (.im (.int (i * j))) δ) : OpW K ec (rI CMul fun i j => .int (i * j)) s1 s2 Ψ δ := ow_i (d := .int (i * j)) e1 e2 (fun _ => rfl) hc k
theorem ow_div {s1 s2 : SV} {i j : Int} (e1 : dv δ.ce s1 = some (.int i)) (e2 : dv δ.ce s2 = some (.int j)) (hc : CDiv i j) (k : Ψ (.im (.int (i / j))) δ) : OpW K ec (rI CDiv fun i j => .int (i / j)) s1 s2 Ψ δ := ow_i (d := .int (i / j)) e1 e2 (fun _ => rfl) hc k
theorem ow_mod {s1 s2 : SV} {i j : Int} (e1 : dv δ.ce s1 = some (.int i)) (e2 : dv δ.ce s2 = some (.int j)) (hc : 0 < j) (k : Ψ (.im (.int (i % j))) δ) : OpW K ec (rI (fun _ j => 0 < j) fun i j => .int (i % j)) s1 s2 Ψ δ := ow_i (d := .int (i % j)) e1 e2 (fun _ => rfl) hc k
theorem ow_pow {s1 s2 : SV} {i j : Int} (e1 : dv δ.ce s1 = some (.int i)) (e2 : dv δ.ce s2 = some (.int j)) (hc : CPow i j) (k : Ψ (.im (.int (i ^ j.toNat))) δ) : OpW K ec (rI CPow fun i j => .int (i ^ j.toNat)) s1 s2 Ψ δ := ow_i (d := .int (i ^ j.toNat)) e1 e2 (fun _ => rfl) hc k
def rAddStr : R2 := fun x y H Q => ∃ i j, x = .str i ∧ y = .str j ∧ i.length + j.length ≤ sizeLine ∧ Q (.str (i ++ j)) H
theorem ow_addS {s1 s2 : SV} {i j : Str} (e1 : dv δ.ce s1 = some (.str i)) (e2 : dv δ.ce s2 = some (.str j)) (hc : i.length + j.length ≤ sizeLine) (k : Ψ (.im (.str (i ++ j))) δ) : OpW K ec rAddStr s1 s2 Ψ δ :=
  fun σ I as H Q v w r h1 h2 c => ⟨i, j, r.dv e1 h1, r.dv e2 h2, hc, c (.im (.str (i ++ j))) δ _ I as H r (Le.refl I as) rfl k⟩
/-- is None -/
def isNon : D → Bool
  | .non => true
  | _ => false
theorem rep_non {x : D} {H : Hp} {v : V} (h : Rep K H x v) : decide (v = .non) = isNon x := by
  cases x with
  | non => cases (show v = _ from h); rfl
  | bl b => cases (show v = _ from h); rfl
  | int b => cases (show v = _ from h); rfl
  | str b => cases (show v = _ from h); rfl
  | ty b => cases (show v = _ from h); rfl
  | glo b => cases (show v = _ from h); rfl
  | me => exact False.elim h
  | slf C b => obtain ⟨a, dx, vs, rfl, _⟩ := h; rfl
  | lst b => obtain ⟨a, vs, rfl, _⟩ := h; rfl
  | tup b => obtain ⟨a, vs, rfl, _⟩ := h; rfl
  | dic b => obtain ⟨a, vs, rfl, _⟩ := h; rfl
  | ins C b => obtain ⟨a, dx, vs, rfl, _⟩ := h; rfl
  | scr b => obtain ⟨a, rfl, _⟩ := h; rfl
def rIsN : R2 := fun x y H Q => y = .non ∧ Q (.bl (decide (x = .non))) H
def rNotN : R2 := fun x y H Q => y = .non ∧ Q (.bl (!decide (x = .non))) H
theorem ow_isN {s1 s2 : SV} {x : D} (e1 : dv δ.ce s1 = some x) (e2 : dv δ.ce s2 = some .non) (k : Ψ (.im (.bl (isNon x))) δ) : OpW K ec rIsN s1 s2 Ψ δ :=
  fun σ I as H Q v w r h1 h2 c => ⟨r.dv e2 h2, by rw [rep_non (r.dv e1 h1)]; exact c (.im (.bl _)) δ _ I as H r (Le.refl I as) rfl k⟩
theorem ow_notN {s1 s2 : SV} {x : D} (e1 : dv δ.ce s1 = some x) (e2 : dv δ.ce s2 = some .non) (k : Ψ (.im (.bl (!isNon x))) δ) : OpW K ec rNotN s1 s2 Ψ δ :=
  fun σ I as H Q v w r h1 h2 c => ⟨r.dv e2 h2, by rw [rep_non (r.dv e1 h1)]; exact c (.im (.bl _)) δ _ I as H r (Le.refl I as) rfl k⟩
/-- s < t -/
def rLtStr : R2 := fun x y H Q => ∃ i j, x = .str i ∧ y = .str j ∧ Q (.bl (decide (i.cps.toList < j.cps.toList))) H
theorem ow_ltS {s1 s2 : SV} {i j : Str} (e1 : dv δ.ce s1 = some (.str i)) (e2 : dv δ.ce s2 = some (.str j)) (k : Ψ (.im (.bl (decide (i.cps.toList < j.cps.toList)))) δ) : OpW K ec rLtStr s1 s2 Ψ δ :=
  fun σ I as H Q v w r h1 h2 c => ⟨i, j, r.dv e1 h1, r.dv e2 h2, c (.im (.bl _)) δ _ I as H r (Le.refl I as) rfl k⟩

/-! subscripts -/
def lookD (kvs : List (Key × D)) (k : Key) : Option D := (kvs.find? fun kv => decide (kv.1 = k)).map (·.2)
def lookC (kvs : List (Key × SV)) (k : Key) : Option SV := (kvs.find? fun kv => decide (kv.1 = k)).map (·.2)
theorem RepK.val {I : Hp} {k : Key} : ∀ {kds : List (Key × D)} {kvs : List (Key × V)} {d : D}, RepK K I kds kvs → lookD kds k = some d → ∃ v, valV kvs k = some v ∧ Rep K I d v
  | [], _, _, _, e => by simp [lookD] at e
  | (j, x) :: ds, _, d, ⟨v, r, e1, h, hr⟩, e => by
    subst e1
    by_cases hk : j = k
    · subst hk
      have : d = x := by simp [lookD] at e; exact e.symm
      subst this
      exact ⟨v, by simp [valV], h⟩
    · have e' : lookD ds k = some d := by simpa [lookD, List.find?_cons, hk] using e
      obtain ⟨w, q1, q2⟩ := RepK.val hr e'
      exact ⟨w, by rw [valV_neg (p := (j, v)) hk]; exact q1, q2⟩
theorem RVK.val {I : Hp} {as : List Addr} {k : Key} : ∀ {kds : List (Key × SV)} {kvs : List (Key × V)} {d : SV}, RVK K I as kds kvs → lookC kds k = some d → ∃ v, valV kvs k = some v ∧ RV K I as d v
  | [], _, _, _, e => by simp [lookC] at e
  | (j, x) :: ds, _, d, ⟨v, r, e1, h, hr⟩, e => by
    subst e1
    by_cases hk : j = k
    · subst hk
      have : d = x := by simp [lookC] at e; exact e.symm
      subst this
      exact ⟨v, by simp [valV], h⟩
    · have e' : lookC ds k = some d := by simpa [lookC, List.find?_cons, hk] using e
      obtain ⟨w, q1, q2⟩ := RVK.val hr e'
      exact ⟨w, by rw [valV_neg (p := (j, v)) hk]; exact q1, q2⟩
theorem RVL.length {I : Hp} {as : List Addr} : ∀ {d : List SV} {v : List V}, RVL K I as d v → v.length = d.length
  | [], _, h => by rw [show _ = [] from h]; rfl
  | d :: ds, _, ⟨v, r, h1, h2, h3⟩ => by rw [h1]; simp [RVL.length h3]
theorem RVL.get {I : Hp} {as : List Addr} : ∀ {d : List SV} {v : List V} {i : Nat} {x : SV}, RVL K I as d v → d[i]? = some x → ∃ u, v[i]? = some u ∧ RV K I as x u
  | [], _, i, x, h, e => by simp at e
  | d :: ds, _, 0, x, ⟨v, r, h1, h2, h3⟩, e => by
    simp at e; subst e; subst h1; exact ⟨v, rfl, h2⟩
  | d :: ds, _, i + 1, x, ⟨v, r, h1, h2, h3⟩, e => by
    subst h1
    obtain ⟨u, q1, q2⟩ := RVL.get (i := i) (x := x) h3 (by simpa using e)
    exact ⟨u, by simpa using q1, q2⟩
theorem atI_rep {I : Hp} {ds : List D} {vs : List V} {i : Int} {d : D} (h : RepL K I ds vs) (e : atI ds i = some d) : ∃ v, atI vs i = some v ∧ Rep K I d v := by
  unfold atI at e ⊢
  rw [h.length]
  cases q : ixN ds.length i with
  | none => rw [q] at e; cases e
  | some j =>
    rw [q] at e
    exact h.get e
theorem atI_rv {I : Hp} {as : List Addr} {ds : List SV} {vs : List V} {i : Int} {d : SV} (h : RVL K I as ds vs) (e : atI ds i = some d) : ∃ v, atI vs i = some v ∧ RV K I as d v := by
  unfold atI at e ⊢
  rw [h.length]
  cases q : ixN ds.length i with
  | none => rw [q] at e; cases e
  | some j =>
    rw [q] at e
    exact h.get e
def rIxD : R2 := fun x y H Q => ∃ a v, x = .ref a ∧ DGet H a y (some v) ∧ Q v H
def rIxA (K : PySem.W.Frag) : R2 := fun x y H Q => rIx K x y H Q ∨ rIxD x y H Q
def keyOf : D → Option Key
  | .int i => some (.inl i)
  | .str x => some (.inr x)
  | _ => none
theorem rep_key {d : D} {kk : Key} {H : Hp} {v : V} (h : keyOf d = some kk) (r : Rep K H d v) : v = kV kk := by
  cases d with
  | int i => cases h; exact r
  | str x => cases h; exact r
  | _ => cases h
/-! arguments -/
variable {Ψa : List SV → Sta → Prop} {tr : TA}
theorem wa_nil (k : Ψa [] δ) : WA K ec W tNil Ψa Ξ δ := fun σ I as H Q r c => c.v [] δ [] I as H r (Le.refl I as) rfl k
theorem wa_cons (h : WE K ec W te (fun s δ1 => WA K ec W tr (fun ss δ2 => Ψa (s :: ss) δ2) Ξ δ1) Ξ δ) : WA K ec W (tCons te tr) Ψa Ξ δ := by
  intro σ I as H Q r c
  refine h σ I as H _ r ⟨fun s1 δ1 v1 I1 as1 H1 r1 l1 rv1 k1 => ?_, c.x⟩
  refine k1 σ I1 as1 H1 _ r1 ⟨fun ss δ2 vs I2 as2 H2 r2 l2 rv2 k2 => ?_, (c.later l1).x⟩
  exact c.v (s1 :: ss) δ2 (v1 :: vs) I2 as2 H2 r2 (l1.trans l2) ⟨v1, vs, rfl, rv1.mono l2, rv2⟩ k2
theorem we_lst (h : WA K ec W tr (fun ss δ1 => ss.length ≤ 1000 ∧ Ψ (.cl δ1.ce.length) { δ1 with ce := δ1.ce ++ [.lst ss] }) Ξ δ) : WE K ec W (tLst tr) Ψ Ξ δ := by
  intro σ I as H Q r c
  refine h σ I as H _ r ⟨fun ss δ1 vs I1 as1 H1 r1 l1 rv1 k1 => ?_, c.x⟩
  refine ⟨by rw [rv1.length]; exact Nat.le_trans k1.1 (by decide), fun p hp => ?_⟩
  have hn := none_back r1.ih hp
  obtain ⟨r2, l2⟩ := r1.newC (o := .lst vs) (co := .lst ss) hp ⟨hn, vs, upd_same, rv1⟩ rfl
  refine c.v (.cl δ1.ce.length) _ _ I1 (as1 ++ [p]) _ r2 (l1.trans l2) ⟨p, ?_, rfl⟩ k1.2
  rw [← r1.clen]; simp
theorem we_lstF (h : WA K ec W tr (fun ss δ1 => ∃ ds, ss.length ≤ 1000 ∧ imL δ1.ce ss = some ds ∧ Ψ (.im (.lst ds)) δ1) Ξ δ) : WE K ec W (tLst tr) Ψ Ξ δ := by
  intro σ I as H Q r c
  refine h σ I as H _ r ⟨fun ss δ1 vs I1 as1 H1 r1 l1 rv1 k1 => ?_, c.x⟩
  obtain ⟨ds, k0, k1, k2⟩ := k1
  refine ⟨by rw [rv1.length]; exact Nat.le_trans k0 (by decide), fun p hp => ?_⟩
  obtain ⟨r2, l2⟩ := r1.newF (o := .lst vs) hp
  exact c.v (.im (.lst ds)) _ _ _ as1 _ r2 (l1.trans l2) ⟨p, vs, rfl, upd_same, RepL.mono l2.i _ _ (r1.imL k1 rv1)⟩ k2
/-! built-in calls -/
def CbW (K : PySem.W.Frag) (ec : EC) (r : List V → Hp → VK → Prop) (ss : List SV) (Ψ : SV → Sta → Prop) (δ : Sta) : Prop :=
  ∀ (σ : L2.St) (I : Hp) (as : List Addr) (H : Hp) (Q : VK) (vs : List V), R K ec δ σ I as H → RVL K I as ss vs →
    (∀ s δ' v I' as' H', R K ec δ' σ I' as' H' → Le I as I' as' → RV K I' as' s v → Ψ s δ' → Q v H') → r vs H Q
theorem we_cb {r : List V → Hp → VK → Prop} (h : WA K ec W tr (fun ss δ1 => CbW K ec r ss Ψ δ1) Ξ δ) : WE K ec W (tCB r tr) Ψ Ξ δ := by
  intro σ I as H Q r c
  refine h σ I as H _ r ⟨fun ss δ1 vs I1 as1 H1 r1 l1 rv1 k1 => ?_, c.x⟩
  exact k1 σ I1 as1 H1 Q vs r1 rv1 (c.later l1).v
theorem cb_l {r r' : List V → Hp → VK → Prop} {ss : List SV} (h : CbW K ec r ss Ψ δ) : CbW K ec (fun xs H Q => r xs H Q ∨ r' xs H Q) ss Ψ δ := fun σ I as H Q v r h1 c => .inl (h σ I as H Q v r h1 c)
theorem cb_r {r r' : List V → Hp → VK → Prop} {ss : List SV} (h : CbW K ec r' ss Ψ δ) : CbW K ec (fun xs H Q => r xs H Q ∨ r' xs H Q) ss Ψ δ := fun σ I as H Q v r h1 c => .inr (h σ I as H Q v r h1 c)
/-- one scalar in, one scalar out -/
theorem cb_1 {r : List V → Hp → VK → Prop} {s : SV} {x : D} {v u : V} {d : D} (e : dv δ.ce s = some x) (hx : ∀ H w, Rep K H x w → w = v) (hr : ∀ H (Q : VK), Q u H → r [v] H Q) (hd : ∀ I, Rep K I d u) (k : Ψ (.im d) δ) : CbW K ec r [s] Ψ δ := by
  intro σ I as H Q vs r h1 c
  obtain ⟨w, t, rfl, h, rfl⟩ := h1
  have ew : w = v := hx H w (r.dv e h)
  subst ew
  exact hr H Q (c (.im d) δ u I as H r (Le.refl I as) (hd I) k)
theorem cb_2 {r : List V → Hp → VK → Prop} {s s' : SV} {x x' : D} {v v' u : V} {d : D} (e : dv δ.ce s = some x) (e' : dv δ.ce s' = some x') (hx : ∀ H w, Rep K H x w → w = v) (hx' : ∀ H w, Rep K H x' w → w = v') (hr : ∀ H (Q : VK), Q u H → r [v, v'] H Q) (hd : ∀ I, Rep K I d u) (k : Ψ (.im d) δ) : CbW K ec r [s, s'] Ψ δ := by
  intro σ I as H Q vs r h1 c
  obtain ⟨w, t, rfl, h, w', t', rfl, h', rfl⟩ := h1
  have ew : w = v := hx H w (r.dv e h)
  have ew' : w' = v' := hx' H w' (r.dv e' h')
  subst ew ew'
  exact hr H Q (c (.im d) δ u I as H r (Le.refl I as) (hd I) k)
def rAbs : List V → Hp → VK → Prop := fun xs H Q => ∃ i, xs = [.int i] ∧ Q (.int (if i < 0 then -i else i)) H
def rInt1 : List V → Hp → VK → Prop := fun xs H Q => (∃ i, xs = [.int i] ∧ Q (.int i) H) ∨ ∃ k, xs = [.bl k] ∧ Q (.int (if k then 1 else 0)) H
def rMax2 : List V → Hp → VK → Prop := fun xs H Q => ∃ i j, xs = [.int i, .int j] ∧ Q (.int (if j > i then j else i)) H
def rMin2 : List V → Hp → VK → Prop := fun xs H Q => ∃ i j, xs = [.int i, .int j] ∧ Q (.int (if j < i then j else i)) H
def rLenA (K : PySem.W.Frag) : List V → Hp → VK → Prop := fun xs H Q => ∃ x n, xs = [x] ∧ LenV K x H n ∧ Q (.int n) H
theorem cb_abs {s : SV} {i : Int} (e : dv δ.ce s = some (.int i)) (k : Ψ (.im (.int (if i < 0 then -i else i))) δ) : CbW K ec rAbs [s] Ψ δ := cb_1 (v := .int i) (u := .int (if i < 0 then -i else i)) (d := .int (if i < 0 then -i else i)) e (fun _ _ h => h) (fun _ _ q => ⟨i, rfl, q⟩) (fun _ => rfl) k
theorem cb_int {s : SV} {i : Int} (e : dv δ.ce s = some (.int i)) (k : Ψ (.im (.int i)) δ) : CbW K ec rInt1 [s] Ψ δ := cb_1 (v := .int i) (u := .int i) (d := .int i) e (fun _ _ h => h) (fun _ _ q => .inl ⟨i, rfl, q⟩) (fun _ => rfl) k
theorem cb_intB {s : SV} {b : Bool} (e : dv δ.ce s = some (.bl b)) (k : Ψ (.im (.int (if b then 1 else 0))) δ) : CbW K ec rInt1 [s] Ψ δ := cb_1 (v := .bl b) (u := .int (if b then 1 else 0)) (d := .int (if b then 1 else 0)) e (fun _ _ h => h) (fun _ _ q => .inr ⟨b, rfl, q⟩) (fun _ => rfl) k
theorem cb_max {s s' : SV} {i j : Int} (e : dv δ.ce s = some (.int i)) (e' : dv δ.ce s' = some (.int j)) (k : Ψ (.im (.int (if j > i then j else i))) δ) : CbW K ec rMax2 [s, s'] Ψ δ := cb_2 (v := .int i) (v' := .int j) (u := .int (if j > i then j else i)) (d := .int (if j > i then j else i)) e e' (fun _ _ h => h) (fun _ _ h => h) (fun _ _ q => ⟨i, j, rfl, q⟩) (fun _ => rfl) k
theorem cb_min {s s' : SV} {i j : Int} (e : dv δ.ce s = some (.int i)) (e' : dv δ.ce s' = some (.int j)) (k : Ψ (.im (.int (if j < i then j else i))) δ) : CbW K ec rMin2 [s, s'] Ψ δ := cb_2 (v := .int i) (v' := .int j) (u := .int (if j < i then j else i)) (d := .int (if j < i then j else i)) e e' (fun _ _ h => h) (fun _ _ h => h) (fun _ _ q => ⟨i, j, rfl, q⟩) (fun _ => rfl) k
theorem cb_len {s : SV} {x : D} {n : Nat} (e : dv δ.ce s = some x) (hx : ∀ H w, Rep K H x w → LenV K w H n) (k : Ψ (.im (.int n)) δ) : CbW K ec (rLenA K) [s] Ψ δ := by
  intro σ I as H Q vs r h1 c
  obtain ⟨w, t, rfl, h, rfl⟩ := h1
  exact ⟨w, n, rfl, hx H w (r.dv e h), c (.im (.int n)) δ _ I as H r (Le.refl I as) rfl k⟩
theorem len_lst {ds : List D} : ∀ (H : Hp) (w : V), Rep K H (.lst ds) w → LenV K w H ds.length := fun H w h => by
  obtain ⟨a, vs, rfl, ha, ra⟩ := h
  exact .inl ⟨vs, SqL.of ha, ra.length.symm⟩
theorem len_scr {ns : List Int} : ∀ (H : Hp) (w : V), Rep K H (.scr ns) w → LenV K w H ns.length := fun H w h => by
  obtain ⟨a, rfl, ha⟩ := h
  exact .inl ⟨_, ha, by simp⟩
theorem len_tup {ds : List D} : ∀ (H : Hp) (w : V), Rep K H (.tup ds) w → LenV K w H ds.length := fun H w h => by
  obtain ⟨a, vs, rfl, ha, ra⟩ := h
  exact .inr ⟨vs, ha, ra.length.symm⟩
theorem len_str {z : Str} (hz : z.length ≤ sizeLine) : ∀ (H : Hp) (w : V), Rep K H (.str z) w → LenV K w H z.length := fun H w h => by
  cases (show w = _ from h)
  exact ⟨hz, rfl⟩
end


section
variable {K : PySem.W.Frag} {ec : EC} {W : WX} {Ξ : Xn → Sta → Prop} {δ : Sta} {ta tb te tx : TE} {t u : TT} {Ψ : SV → Sta → Prop} {Ψt : Bool → Sta → Prop}
/-! ## tests -/
theorem wt_test (h : WE K ec W te (fun s δ1 => ∃ b, dv δ1.ce s = some (.bl b) ∧ Ψt b δ1) Ξ δ) : WT K ec W (tTest te) Ψt Ξ δ := fun σ I as H Q r c =>
  h σ I as H _ r ⟨fun s δ1 v I1 as1 H1 r1 l1 rv k => by
    obtain ⟨b, e, k⟩ := k
    exact ⟨b, r1.dv e rv, c.v b δ1 I1 as1 H1 r1 l1 k⟩, c.x⟩
theorem wt_B (h : WE K ec W te (fun s δ1 => ∃ b, dv δ1.ce s = some (.bl b) ∧ Ψt b δ1) Ξ δ) : WT K ec W (tB te) Ψt Ξ δ := fun σ I as H Q r c =>
  h σ I as H _ r ⟨fun s δ1 v I1 as1 H1 r1 l1 rv k => by
    obtain ⟨b, e, k⟩ := k
    exact ⟨b, r1.dv e rv, c.v b δ1 I1 as1 H1 r1 l1 k⟩, c.x⟩
theorem wt_and (h : WT K ec W t (fun b δ1 => (b = true → WT K ec W u Ψt Ξ δ1) ∧ (b = false → Ψt false δ1)) Ξ δ) : WT K ec W (tAnd t u) Ψt Ξ δ := fun σ I as H Q r c =>
  h σ I as H _ r ⟨fun b δ1 I1 as1 H1 r1 l1 k => by
    cases b with
    | true => exact k.1 rfl σ I1 as1 H1 Q r1 (c.later l1)
    | false => exact c.v false δ1 I1 as1 H1 r1 l1 (k.2 rfl), c.x⟩
theorem wt_or (h : WT K ec W t (fun b δ1 => (b = false → WT K ec W u Ψt Ξ δ1) ∧ (b = true → Ψt true δ1)) Ξ δ) : WT K ec W (tOr t u) Ψt Ξ δ := fun σ I as H Q r c =>
  h σ I as H _ r ⟨fun b δ1 I1 as1 H1 r1 l1 k => by
    cases b with
    | false => exact k.1 rfl σ I1 as1 H1 Q r1 (c.later l1)
    | true => exact c.v true δ1 I1 as1 H1 r1 l1 (k.2 rfl), c.x⟩
theorem wt_not (h : WT K ec W t (fun b δ1 => Ψt (!b) δ1) Ξ δ) : WT K ec W (tNot t) Ψt Ξ δ := fun σ I as H Q r c =>
  h σ I as H _ r ⟨fun b δ1 I1 as1 H1 r1 l1 k => c.v (!b) δ1 I1 as1 H1 r1 l1 k, c.x⟩
theorem we_andV (h : WE K ec W ta (fun s δ1 => ∃ b, dv δ1.ce s = some (.bl b) ∧ (b = true → WE K ec W tb Ψ Ξ δ1) ∧ (b = false → Ψ (.im (.bl false)) δ1)) Ξ δ) : WE K ec W (tAndV ta tb) Ψ Ξ δ := fun σ I as H Q r c =>
  h σ I as H _ r ⟨fun s δ1 v I1 as1 H1 r1 l1 rv k => by
    obtain ⟨b, e, k1, k2⟩ := k
    refine ⟨b, r1.dv e rv, ?_⟩
    cases b with
    | true => exact k1 rfl σ I1 as1 H1 Q r1 (c.later l1)
    | false => exact c.v (.im (.bl false)) δ1 _ I1 as1 H1 r1 l1 rfl (k2 rfl), c.x⟩
theorem we_orV (h : WE K ec W ta (fun s δ1 => ∃ b, dv δ1.ce s = some (.bl b) ∧ (b = false → WE K ec W tb Ψ Ξ δ1) ∧ (b = true → Ψ (.im (.bl true)) δ1)) Ξ δ) : WE K ec W (tOrV ta tb) Ψ Ξ δ := fun σ I as H Q r c =>
  h σ I as H _ r ⟨fun s δ1 v I1 as1 H1 r1 l1 rv k => by
    obtain ⟨b, e, k1, k2⟩ := k
    refine ⟨b, r1.dv e rv, ?_⟩
    cases b with
    | false => exact k1 rfl σ I1 as1 H1 Q r1 (c.later l1)
    | true => exact c.v (.im (.bl true)) δ1 _ I1 as1 H1 r1 l1 rfl (k2 rfl), c.x⟩
theorem we_notV (h : WE K ec W ta (fun s δ1 => ∃ b, dv δ1.ce s = some (.bl b) ∧ Ψ (.im (.bl (!b))) δ1) Ξ δ) : WE K ec W (tNotV ta) Ψ Ξ δ := fun σ I as H Q r c =>
  h σ I as H _ r ⟨fun s δ1 v I1 as1 H1 r1 l1 rv k => by
    obtain ⟨b, e, k⟩ := k
    exact ⟨b, r1.dv e rv, c.v (.im (.bl (!b))) δ1 _ I1 as1 H1 r1 l1 rfl k⟩, c.x⟩
theorem we_if (h : WT K ec W t (fun b δ1 => (b = true → WE K ec W ta Ψ Ξ δ1) ∧ (b = false → WE K ec W tb Ψ Ξ δ1)) Ξ δ) : WE K ec W (tIf t ta tb) Ψ Ξ δ := fun σ I as H Q r c =>
  h σ I as H _ r ⟨fun b δ1 I1 as1 H1 r1 l1 k => by
    cases b with
    | true => exact k.1 rfl σ I1 as1 H1 Q r1 (c.later l1)
    | false => exact k.2 rfl σ I1 as1 H1 Q r1 (c.later l1), c.x⟩
/-! ## targets -/
def WG (K : PySem.W.Frag) (ec : EC) (g : TG) (s : SV) (Φ : Sta → Prop) (δ : Sta) : Prop :=
  ∀ (σ : L2.St) (I : Hp) (as : List Addr) (H : Hp) (v : V) (Q : L2.St → Hp → Prop), R K ec δ σ I as H → RV K I as s v →
    (∀ δ' σ' I' as' H', R K ec δ' σ' I' as' H' → Le I as I' as' → Φ δ' → Q σ' H') → g v σ H Q
def WGs (K : PySem.W.Frag) (ec : EC) (g : TGs) (s : List D) (Φ : Sta → Prop) (δ : Sta) : Prop :=
  ∀ (σ : L2.St) (I : Hp) (as : List Addr) (H : Hp) (v : List V) (Q : L2.St → Hp → Prop), R K ec δ σ I as H → RepL K I s v →
    (∀ δ' σ' I' as' H', R K ec δ' σ' I' as' H' → Le I as I' as' → Φ δ' → Q σ' H') → g v σ H Q
variable {Φ' : Sta → Prop}
theorem wg_name {i : Nat} {s : SV} (k : Φ' { δ with sl := δ.sl.set i s }) : WG K ec (gName i) s Φ' δ := fun σ I as H v Q r rv c => c _ _ I as H (r.store rv) (Le.refl I as) k
theorem wgs_nil (k : Φ' δ) : WGs K ec gNil [] Φ' δ := fun σ I as H v Q r rv c => ⟨rv, c _ _ I as H r (Le.refl I as) k⟩
theorem wgs_cons {g : TG} {gs : TGs} {d : D} {ds : List D} (h : WG K ec g (.im d) (fun δ1 => WGs K ec gs ds Φ' δ1) δ) : WGs K ec (gCons g gs) (d :: ds) Φ' δ := fun σ I as H v Q r rv c => by
  obtain ⟨w, vs, e, h1, h2⟩ := rv
  refine ⟨w, vs, e, h σ I as H w _ r h1 fun δ1 σ1 I1 as1 H1 r1 l1 k1 => ?_⟩
  exact k1 σ1 I1 as1 H1 vs Q r1 (RepL.mono l1.i _ _ h2) fun δ2 σ2 I2 as2 H2 r2 l2 k2 => c δ2 σ2 I2 as2 H2 r2 (l1.trans l2) k2
theorem wg_tup {n : Nat} {gs : TGs} {s : SV} {ds : List D} (e : imS δ.ce s = some (.tup ds)) (hn : ds.length = n) (h : WGs K ec gs ds Φ' δ) : WG K ec (gTup K n gs) s Φ' δ := fun σ I as H v Q r rv c => by
  obtain ⟨a, vs, rfl, ha, ra⟩ := r.imS e rv
  exact ⟨a, vs, rfl, same_t r.ih ha, ra.length.trans hn, h σ I as H vs Q r ra c⟩

/-! ## statements -/
variable {Φ : Post} {ts us : TS}
theorem ws_next (k : Φ.nx δ) : WS K ec W tNext Φ δ := fun σ I as H D r c => c.nx δ σ I as H r (Le.refl I as) k
theorem ws_seq (h : WS K ec W ts { Φ with nx := fun δ1 => WS K ec W us Φ δ1 } δ) : WS K ec W (tSeq ts us) Φ δ := fun σ I as H D r c =>
  h σ I as H _ r ⟨fun δ1 σ1 I1 as1 H1 r1 l1 k1 => k1 σ1 I1 as1 H1 D r1 (c.later l1), c.rt, c.bk, c.ct, c.x⟩
theorem ws_asg {g : TG} (h : WE K ec W te (fun s δ1 => WG K ec g s Φ.nx δ1) Φ.ex δ) : WS K ec W (tAsg te g) Φ δ := fun σ I as H D r c =>
  h σ I as H _ r ⟨fun s δ1 v I1 as1 H1 r1 l1 rv k => k σ I1 as1 H1 v _ r1 rv fun δ2 σ2 I2 as2 H2 r2 l2 k2 => c.nx δ2 σ2 I2 as2 H2 r2 (l1.trans l2) k2, fun x δ1 d I1 as1 H1 r1 l1 z k => c.x x δ1 σ d I1 as1 H1 r1 l1 z k⟩
theorem ws_ret (h : WE K ec W te (fun s δ1 => Φ.rt s δ1) Φ.ex δ) : WS K ec W (tRet te) Φ δ := fun σ I as H D r c =>
  h σ I as H _ r ⟨fun s δ1 v I1 as1 H1 r1 l1 rv k => c.rt s δ1 σ v I1 as1 H1 r1 l1 rv k, fun x δ1 d I1 as1 H1 r1 l1 z k => c.x x δ1 σ d I1 as1 H1 r1 l1 z k⟩
theorem ws_drop (h : WE K ec W te (fun s δ1 => Φ.nx δ1) Φ.ex δ) : WS K ec W (tDrop te) Φ δ := fun σ I as H D r c =>
  h σ I as H _ r ⟨fun s δ1 v I1 as1 H1 r1 l1 rv k => c.nx δ1 σ I1 as1 H1 r1 l1 k, fun x δ1 d I1 as1 H1 r1 l1 z k => c.x x δ1 σ d I1 as1 H1 r1 l1 z k⟩
theorem ws_if (h : WT K ec W t (fun b δ1 => (b = true → WS K ec W ts Φ δ1) ∧ (b = false → WS K ec W us Φ δ1)) Φ.ex δ) : WS K ec W (tIfS t ts us) Φ δ := fun σ I as H D r c =>
  h σ I as H _ r ⟨fun b δ1 I1 as1 H1 r1 l1 k => by
    cases b with
    | true => exact k.1 rfl σ I1 as1 H1 D r1 (c.later l1)
    | false => exact k.2 rfl σ I1 as1 H1 D r1 (c.later l1), fun x δ1 d I1 as1 H1 r1 l1 z k => c.x x δ1 σ d I1 as1 H1 r1 l1 z k⟩
theorem ws_par {i j : Nat} {tr : TA} (h : WA K ec W tr (fun ss δ1 => ∃ s1 s2, ss = [s1, s2] ∧ Φ.nx { δ1 with sl := (δ1.sl.set i s1).set j s2 }) Φ.ex δ) : WS K ec W (tPar i j tr) Φ δ := fun σ I as H D r c =>
  h σ I as H _ r ⟨fun ss δ1 vs I1 as1 H1 r1 l1 rv k => by
    obtain ⟨s1, s2, rfl, k⟩ := k
    obtain ⟨v, _, rfl, h1, w, _, rfl, h2, rfl⟩ := rv
    exact ⟨v, w, rfl, c.nx _ _ I1 as1 H1 ((r1.store h1).store h2) l1 k⟩, fun x δ1 d I1 as1 H1 r1 l1 z k => c.x x δ1 σ d I1 as1 H1 r1 l1 z k⟩

/-! ## what is walked -/
structure Walks (K : PySem.W.Frag) (ec : EC) (J : It) (I : Hp) (ds : List D) : Prop where
  go : ∀ i H, Same I H → i < ds.length → J.go i H
  stop : ∀ H, Same I H → J.stop ds.length H
  yld : ∀ (ec' : EC) i d x H H' δ σ I2 as, ds[i]? = some d → Same I I2 → R K ec' δ σ I2 as H → J.yld i H x H' → ∃ I3, R K ec' δ σ I3 as H' ∧ Le I2 as I3 as ∧ Rep K I3 d x
structure ConI (K : PySem.W.Frag) (ec : EC) (σ : L2.St) (I : Hp) (as : List Addr) (W : WX) (Ψ : List D → Sta → Prop) (Ξ : Xn → Sta → Prop) (Q : It → Hp → Prop) : Prop where
  v : ∀ ds δ' J I' as' H', R K ec δ' σ I' as' H' → Le I as I' as' → Walks K ec J I' ds → Ψ ds δ' → Q J H'
  x : ∀ (x : Xn) δ' d I' as' H', R K ec δ' σ I' as' H' → Le I as I' as' → XRel K I' as' x.fs d → Ξ x δ' → W (x.cls.v K) d σ H'
def WI (K : PySem.W.Frag) (ec : EC) (W : WX) (wi : TI) (Ψ : List D → Sta → Prop) (Ξ : Xn → Sta → Prop) (δ : Sta) : Prop :=
  ∀ (σ : L2.St) (I : Hp) (as : List Addr) (H : Hp) (Q : It → Hp → Prop), R K ec δ σ I as H → ConI K ec σ I as W Ψ Ξ Q → wi σ H Q
variable {Ψi : List D → Sta → Prop}
theorem walks_list {I : Hp} {a : Addr} {ds : List D} {vs : List V} (ha : SqL K I a vs) (ra : RepL K I ds vs) : Walks K ec (Itl K a) I ds where
  go := fun i H e hi => ⟨vs, vs[i]'(by rw [ra.length]; exact hi), e.seq ha, by simp [ra.length, hi]⟩
  stop := fun H e => ⟨vs, e.seq ha, by rw [ra.length]; exact Nat.le_refl _⟩
  yld := fun ec' i d x H H' δ σ I2 as hd e r y => by
    obtain ⟨rfl, y⟩ := y
    obtain ⟨u, h1, h2⟩ := ra.get hd
    have := y vs ((e.trans r.ih).seq ha)
    rw [h1] at this; cases this
    exact ⟨I2, r, Le.refl I2 as, Rep.mono e _ _ h2⟩
theorem walks_tup {I : Hp} {a : Addr} {ds : List D} {vs : List V} (ha : SqT K I a vs) (ra : RepL K I ds vs) : Walks K ec (Itt K a) I ds where
  go := fun i H e hi => ⟨vs, vs[i]'(by rw [ra.length]; exact hi), same_t e ha, by simp [ra.length, hi]⟩
  stop := fun H e => ⟨vs, same_t e ha, by rw [ra.length]; exact Nat.le_refl _⟩
  yld := fun ec' i d x H H' δ σ I2 as hd e r y => by
    obtain ⟨rfl, y⟩ := y
    obtain ⟨u, h1, h2⟩ := ra.get hd
    have := y vs (same_t (e.trans r.ih) ha)
    rw [h1] at this; cases this
    exact ⟨I2, r, Le.refl I2 as, Rep.mono e _ _ h2⟩
def rgD (lo : Int) (n : Nat) : List D := (List.range n).map fun i => D.int (lo + (i : Nat))
theorem rgD_get {lo : Int} {n i : Nat} {d : D} (h : (rgD lo n)[i]? = some d) : i < n ∧ d = .int (lo + (i : Nat)) := by
  unfold rgD at h
  rw [List.getElem?_map] at h
  cases q : (List.range n)[i]? with
  | none => rw [q] at h; cases h
  | some j =>
    rw [q] at h
    have hi : i < n := by simpa using (List.getElem?_eq_some_iff.mp q).1
    have : j = i := by rw [List.getElem?_range hi] at q; exact (Option.some.inj q).symm
    subst this
    exact ⟨hi, (Option.some.inj h).symm⟩
theorem rgD_len (lo : Int) (n : Nat) : (rgD lo n).length = n := by simp [rgD]
theorem walks_rng {I : Hp} (lo : Int) (n : Nat) : Walks K ec (Itr lo n) I (rgD lo n) where
  go := fun i H e hi => by rw [rgD_len] at hi; exact hi
  stop := fun H e => by rw [rgD_len]; exact Nat.le_refl _
  yld := fun ec' i d x H H' δ σ I2 as hd e r y => by
    obtain ⟨rfl, rfl⟩ := y
    obtain ⟨_, rfl⟩ := rgD_get hd
    exact ⟨I2, r, Le.refl I2 as, rfl⟩
theorem repL_ints {I : Hp} : ∀ ns : List Int, RepL K I (ns.map D.int) (ns.map V.int)
  | [] => rfl
  | n :: ns => ⟨_, _, rfl, rfl, repL_ints ns⟩
theorem wi_rng1 {tr : TA} (h : WA K ec W tr (fun ss δ1 => ∃ s n, ss = [s] ∧ dv δ1.ce s = some (.int n) ∧ -(2 ^ 62) ≤ n ∧ n < 2 ^ 62 ∧ Ψi (rgD 0 n.toNat) δ1) Ξ δ) : WI K ec W (iRng1 tr) Ψi Ξ δ := fun σ I as H Q r c =>
  h σ I as H _ r ⟨fun ss δ1 vs I1 as1 H1 r1 l1 rv k => by
    obtain ⟨s, n, rfl, e, h1, h2, k⟩ := k
    obtain ⟨v, _, rfl, hv, rfl⟩ := rv
    cases (show v = _ from r1.dv e hv)
    exact ⟨n, rfl, h1, h2, c.v _ δ1 _ I1 as1 H1 r1 l1 (walks_rng 0 n.toNat) k⟩, c.x⟩
/-! ## for -/
theorem ws_for {wi : TI} {g : TG} (h : WI K ec W wi (fun ds δ1 => ∃ P : Nat → Sta → Prop, P 0 δ1 ∧ (∀ i d δ2, ds[i]? = some d → P i δ2 → WG K ec g (.im d) (fun δ3 => WS K ec W ts { Φ with nx := P (i + 1), ct := P (i + 1), bk := Φ.nx } δ3) δ2) ∧ ∀ δ2, P ds.length δ2 → Φ.nx δ2) Φ.ex δ) : WS K ec W (tFor wi g ts) Φ δ := by
  intro σ I as H D r c
  refine h σ I as H _ r ⟨fun ds δ1 J I1 as1 H1 r1 l1 w k => ?_, fun x δ1 d I1 as1 H1 r1 l1 z k => c.x x δ1 σ d I1 as1 H1 r1 l1 z k⟩
  obtain ⟨P, p0, pt, pe⟩ := k
  refine ⟨fun i m σ' H' => m = ds.length - i ∧ i ≤ ds.length ∧ ∃ δ' I' as', R K ec δ' σ' I' as' H' ∧ Le I1 as1 I' as' ∧ P i δ', ⟨ds.length, by simp, Nat.zero_le _, δ1, I1, as1, r1, Le.refl I1 as1, p0⟩, ?_⟩
  rintro i m σ2 H2 ⟨rfl, hi, δ2, I2, as2, r2, l2, p2⟩
  have e2 : Same I1 H2 := l2.i.trans r2.ih
  by_cases hlt : i < ds.length
  · refine .inr ⟨w.go i H2 e2 hlt, fun σ' H' => ∃ δ' I' as', R K ec δ' σ' I' as' H' ∧ Le I1 as1 I' as' ∧ P (i + 1) δ', fun σ' H' p' => ⟨ds.length - (i + 1), by omega, rfl, hlt, p'⟩, fun x H3 y => ?_⟩
    have hd : ds[i]? = some ds[i] := List.getElem?_eq_getElem hlt
    obtain ⟨I3, r3, l3, q3⟩ := w.yld _ i _ x H2 H3 δ2 σ2 I2 as2 hd l2.i r2 y
    refine pt i _ δ2 hd p2 σ2 I3 as2 H3 x _ r3 q3 fun δ4 σ4 I4 as4 H4 r4 l4 k4 => ?_
    have l14 := (l2.trans l3).trans l4
    have c4 := c.later (l1.trans l14)
    refine k4 σ4 I4 as4 H4 _ r4 ⟨fun δ5 σ5 I5 as5 H5 r5 l5 k5 => ⟨δ5, I5, as5, r5, l14.trans l5, k5⟩, c4.rt, c4.nx, fun δ5 σ5 I5 as5 H5 r5 l5 k5 => ⟨δ5, I5, as5, r5, l14.trans l5, k5⟩, c4.x⟩
  · have e : i = ds.length := by omega
    subst e
    exact .inl ⟨w.stop H2 e2, (c.later l1).nx δ2 σ2 I2 as2 H2 r2 l2 (pe δ2 p2)⟩
/-! ## while -/
end
end Fx

set_option Elab.async false
set_option linter.all false
set_option maxRecDepth 100000
set_option maxHeartbeats 4000000
namespace Fx
open PySem L2

/-! ## {**d, k: v, ..} -/
section
variable {prog : Program} {w : World} {A : Around} {E : Value → Shared → Prop} {s : Shared}
end
end Fx

set_option Elab.async false
set_option linter.all false
set_option maxRecDepth 100000
set_option maxHeartbeats 4000000
namespace Fx
open PySem L2
section
variable {X : Cx}
/-! ## {**e, k: v, ..} -/
/-! ## a subscript: a list, a tuple, a text, a dict -/
theorem ix_dict (hu : X.A.units + 1 < cLine) : IxR X rIxD := by
  intro value slice pins s σ H x y v u Q I rx ry h hs
  obtain ⟨a, z, rfl, g, q⟩ := h
  obtain rfl : v = Value.ref a := rx
  exact PyProof.Rows.tail_any (dict_typeIs I g) F.slot_dict_getitem.lookup (d_getItem hu I g ry fun w' s' I' rw' => ⟨z, H, I', rw', q⟩) hs
theorem ix_any (hu : X.A.units + 1 < cLine) : IxR X (rIxA X.K) := ix_seq.or (ix_dict hu)
def rIxB (K : PySem.W.Frag) (w : World) : R2 := fun x y H Q => rIxA K x y H Q ∨ L2.rIxD K w x y H Q
theorem ix_all (hu : X.A.units + 1 < cLine) : IxR X (rIxB X.K X.w) := (ix_any hu).or ix_kdict
/-! ## o.f as a target -/
def gFld (K : PySem.W.Frag) (ta : TE) (f : Str) : TG := fun y σ H Q => ta σ H fun x H2 => ∃ a C dx fs, x = .ref a ∧ H2 a = some (.ins C dx fs) ∧ Cls K C ∧ NoAttr K C f ∧ fs.length < 1000 ∧ Q σ (upd H2 a (.ins C dx (putF f y fs)))
theorem pg_fld {o : Expr} {f : Str} {pos : Pos} {ta : TE} (ha : PE X o ta) : PG X (.Attribute o f pos) (gFld X.K ta f) := by
  refine ⟨fun pins s σ H v u Q I r h => ?_⟩
  rw [arm_assign_Attribute]
  refine wpAny_bind (wpAny_holding (thn (ha.run pins s σ H _ I h) fun ov s2 ⟨x, H2, I2, rx, a, C, dx, fs, ex, ea, c, n, l, q2⟩ => ?_))
  subst ex
  obtain rfl : ov = Value.ref a := rx
  refine wpAny_bind (wpAny_standAt (wpAny_bind (wpAny_holding (setattr_ok I2 ea c n l r fun s3 I3 => ?_))))
  exact wpAny_release ⟨σ, _, I3, q2⟩
/-! ## for a, b in e.items(), the dict just made: it stays locked -/
/-! ## d.update(e), both dicts -/
end
end Fx

set_option Elab.async false
set_option linter.all false
set_option autoImplicit false
set_option maxRecDepth 100000
set_option maxHeartbeats 4000000
namespace Fx
open PySem L2
section
variable {K : PySem.W.Frag} {ec : EC} {W : WX} {Ξ : Xn → Sta → Prop} {δ : Sta} {ta tb te tx : TE} {Ψ : SV → Sta → Prop} {Φ : Post} {tr : TA}
/-! ## fields -/
def putFS (f : Str) (v : SV) : List (Str × SV) → List (Str × SV)
  | [] => [(f, v)]
  | (g, x) :: r => if g = f then (g, v) :: r else (g, x) :: putFS f v r
theorem RVF.put {I : Hp} {as : List Addr} {f : Str} {s : SV} {v : V} (hv : RV K I as s v) : ∀ {d : List (Str × SV)} {w : List (Str × V)}, RVF K I as d w → RVF K I as (putFS f s d) (putF f v w)
  | [], w, h => by rw [show w = [] from h]; exact ⟨v, [], rfl, hv, rfl⟩
  | (k, d) :: ds, _, ⟨u, r, h1, h2, h3⟩ => by
    subst h1
    by_cases hk : k = f
    · show RVF K I as (if k = f then _ else _) (if k = f then _ else _)
      rw [if_pos hk, if_pos hk]
      exact ⟨v, r, rfl, hv, h3⟩
    · show RVF K I as (if k = f then _ else _) (if k = f then _ else _)
      rw [if_neg hk, if_neg hk]
      exact ⟨u, _, rfl, h2, RVF.put hv h3⟩
theorem RVF.length {I : Hp} {as : List Addr} : ∀ {d : List (Str × SV)} {v : List (Str × V)}, RVF K I as d v → v.length = d.length
  | [], _, h => by rw [show _ = [] from h]; rfl
  | (_, d) :: ds, _, ⟨v, r, h1, h2, h3⟩ => by rw [h1]; simp [RVF.length h3]
/-- o.f = s, o a cell in the slot i -/
theorem wg_fld {f : Str} {i c : Nat} {C : Str} {fs : List (Str × SV)} {s : SV} {Φ' : Sta → Prop} (h : δ.sl[i]? = some (.cl c)) (e : δ.ce[c]? = some (.ins C fs)) (hc : Cls K (He.ga K C)) (hn : NoAttr K (He.ga K C) f) (hl : fs.length < 1000)
    (k : Φ' { δ with ce := δ.ce.set c (.ins C (putFS f s fs)) }) : WG K ec (gFld K (tVar i) f) s Φ' δ := fun σ I as H v Q r rv cc => by
  rcases r.slots i _ h with z | ⟨w, h1, a, ha, rfl⟩
  · cases z
  obtain ⟨hn0, dx, ws, hh, ra⟩ := r.cells c _ a e ha
  refine ⟨.ref a, h1, a, _, dx, ws, rfl, hh, hc, hn, by rw [ra.length]; exact hl, ?_⟩
  exact cc _ _ I as _ (r.setC (co := .ins C (putFS f s fs)) e rfl ha ⟨hn0, dx, _, upd_same, ra.put rv⟩ rfl) (Le.refl I as) k
/-! ## lists in cells -/
theorem RVL.set {I : Hp} {as : List Addr} {s : SV} {v : V} (hv : RV K I as s v) : ∀ {d : List SV} {w : List V} (j : Nat), RVL K I as d w → RVL K I as (d.set j s) (w.set j v)
  | [], w, j, h => by rw [show w = [] from h]; cases j <;> rfl
  | d :: ds, _, 0, ⟨u, r, h1, h2, h3⟩ => by subst h1; exact ⟨v, r, rfl, hv, h3⟩
  | d :: ds, _, j + 1, ⟨u, r, h1, h2, h3⟩ => by subst h1; exact ⟨u, _, rfl, h2, RVL.set hv j h3⟩
theorem wg_setL {s : SV} {Φ' : Sta → Prop} (h : WE K ec W0 ta (fun o δ1 => WE K ec W0 tb (fun i δ2 => ∃ c xs k j, o = .cl c ∧ δ2.ce[c]? = some (.lst xs) ∧ dv δ2.ce i = some (.int k) ∧ ixN xs.length k = some j ∧ Φ' { δ2 with ce := δ2.ce.set c (.lst (xs.set j s)) }) (fun _ _ => False) δ1) (fun _ _ => False) δ) : WG K ec (gSub ta tb rSetL) s Φ' δ := fun σ I as H v Q r rv cc =>
  h σ I as H _ r ⟨fun o δ1 v1 I1 as1 H1 r1 l1 rv1 k1 => k1 σ I1 as1 H1 _ r1 ⟨fun i δ2 v2 I2 as2 H2 r2 l2 rv2 k2 => by
    obtain ⟨c, xs, k, j, rfl, e, ei, hj, k2⟩ := k2
    obtain ⟨a, ha, rfl⟩ := rv1.mono l2
    obtain ⟨hn0, ws, hh, ra⟩ := r2.cells c _ a e ha
    refine ⟨a, ws, k, j, rfl, r2.dv ei rv2, hh, by rw [ra.length]; exact hj, ?_⟩
    exact cc _ _ I2 as2 _ (r2.setC (co := .lst (xs.set j s)) e rfl ha ⟨hn0, _, upd_same, ra.set (rv.mono (l1.trans l2)) j⟩ rfl) (l1.trans l2) k2, fun _ _ _ _ _ _ _ _ _ z => z.elim⟩, fun _ _ _ _ _ _ _ _ _ z => z.elim⟩
/-! ## dicts -/
def putS (kvs : List (Key × SV)) (k : Key) (v : SV) : List (Key × SV) :=
  if (kvs.any fun kv => decide (kv.1 = k)) = true then kvs.map (fun kv => if kv.1 = k then (kv.1, v) else kv) else kvs ++ [(k, v)]
theorem RVK.put {I : Hp} {as : List Addr} {k : Key} {s : SV} {v : V} (hv : RV K I as s v) {d : List (Key × SV)} {w : List (Key × V)} (h : RVK K I as d w) : RVK K I as (putS d k s) (putK w k v) := by
  have hany : ∀ {d : List (Key × SV)} {w : List (Key × V)}, RVK K I as d w → (d.any fun kv => decide (kv.1 = k)) = (w.any fun kv => decide (kv.1 = k)) := fun {d} => by
    induction d with
    | nil => intro w h; rw [show w = [] from h]; rfl
    | cons p ds ih => intro w h; obtain ⟨j, x⟩ := p; obtain ⟨u, r, h1, h2, h3⟩ := h; subst h1; simp only [List.any_cons, ih h3]
  have hmap : ∀ {d : List (Key × SV)} {w : List (Key × V)}, RVK K I as d w → RVK K I as (d.map fun kv => if kv.1 = k then (kv.1, s) else kv) (w.map fun kv => if kv.1 = k then (kv.1, v) else kv) := fun {d} => by
    induction d with
    | nil => intro w h; rw [show w = [] from h]; rfl
    | cons p ds ih =>
      intro w h; obtain ⟨j, x⟩ := p; obtain ⟨u, r, h1, h2, h3⟩ := h; subst h1
      simp only [List.map_cons]
      by_cases hj : j = k
      · rw [if_pos hj, if_pos hj]; exact ⟨v, _, rfl, hv, ih h3⟩
      · rw [if_neg hj, if_neg hj]; exact ⟨u, _, rfl, h2, ih h3⟩
  have happ : ∀ {d : List (Key × SV)} {w : List (Key × V)}, RVK K I as d w → RVK K I as (d ++ [(k, s)]) (w ++ [(k, v)]) := fun {d} => by
    induction d with
    | nil => intro w h; rw [show w = [] from h]; exact ⟨v, [], rfl, hv, rfl⟩
    | cons p ds ih => intro w h; obtain ⟨j, x⟩ := p; obtain ⟨u, r, h1, h2, h3⟩ := h; subst h1; exact ⟨u, _, rfl, h2, ih h3⟩
  unfold putS putK
  rw [hany h]
  by_cases q : (w.any fun kv => decide (kv.1 = k)) = true
  · rw [if_pos q, if_pos q]; exact hmap h
  · rw [if_neg q, if_neg q]; exact happ h
def mergeS (kvs more : List (Key × SV)) : List (Key × SV) := more.foldl (fun acc kv => putS acc kv.1 kv.2) kvs
theorem RVK.length {I : Hp} {as : List Addr} : ∀ {d : List (Key × SV)} {v : List (Key × V)}, RVK K I as d v → v.length = d.length
  | [], _, h => by rw [show _ = [] from h]; rfl
  | (_, d) :: ds, _, ⟨v, r, h1, h2, h3⟩ => by rw [h1]; simp [RVK.length h3]
/-! displays -/
end
end Fx

set_option Elab.async false
set_option linter.all false
set_option autoImplicit false
set_option maxRecDepth 100000
set_option maxHeartbeats 4000000
namespace Fx
open PySem L2
section
variable {K : PySem.W.Frag} {ec : EC} {W : WX} {Ξ : Xn → Sta → Prop} {δ : Sta} {ta tb te tx : TE} {Ψ : SV → Sta → Prop} {Φ : Post} {tr : TA}
theorem RVL.snoc {I : Hp} {as : List Addr} {s : SV} {v : V} (hv : RV K I as s v) : ∀ {d : List SV} {w : List V}, RVL K I as d w → RVL K I as (d ++ [s]) (w ++ [v])
  | [], w, h => by rw [show w = [] from h]; exact ⟨v, [], rfl, hv, rfl⟩
  | d :: ds, _, ⟨u, r, h1, h2, h3⟩ => by subst h1; exact ⟨u, _, rfl, h2, h3.snoc hv⟩
theorem imL_map {ce : List CO} : ∀ ds : List D, imL ce (ds.map SV.im) = some ds
  | [] => rfl
  | d :: ds => by simp only [List.map_cons, imL, imS, imL_map ds]
theorem wt_yes {Ψt : Bool → Sta → Prop} (k : Ψt true δ) : WT K ec W tYes Ψt Ξ δ := fun σ I as H Q r c => c.v true δ I as H r (Le.refl I as) k
/-! ## list(range(..)) -/
/-! ## for a, b in d.items(), d a cell just made: it is frozen then -/
def pairsD (kds : List (Key × D)) : List D := kds.map fun p => D.tup [match p.1 with | .inl i => .int i | .inr x => .str x, p.2]
/-! ## dict(d), d.update(e) -/
/-- a method of a built-in, by values -/
def MtW (K : PySem.W.Frag) (ec : EC) (T : String) (r : V → List V → Hp → VK → Prop) (s : SV) (ss : List SV) (Ψ : SV → Sta → Prop) (δ : Sta) : Prop :=
  ∀ (σ : L2.St) (I : Hp) (as : List Addr) (H : Hp) (Q : VK) (v : V) (vs : List V), R K ec δ σ I as H → RV K I as s v → RVL K I as ss vs →
    (∀ s δ' v I' as' H', R K ec δ' σ I' as' H' → Le I as I' as' → RV K I' as' s v → Ψ s δ' → Q v H') → r v vs H Q
def TyS (K : PySem.W.Frag) (ec : EC) (T : String) (s : SV) (δ : Sta) : Prop := ∀ (σ : L2.St) (I : Hp) (as : List Addr) (H : Hp) (v : V), R K ec δ σ I as H → RV K I as s v → tyV K T v H
theorem we_bm {T : String} {r : V → List V → Hp → VK → Prop} (h : WE K ec W ta (fun s δ1 => TyS K ec T s δ1 ∧ WA K ec W tr (fun ss δ2 => MtW K ec T r s ss Ψ δ2) Ξ δ1) Ξ δ) : WE K ec W (tBM K T r ta tr) Ψ Ξ δ := fun σ I as H Q r c =>
  h σ I as H _ r ⟨fun s δ1 v I1 as1 H1 r1 l1 rv k => ⟨k.1 σ I1 as1 H1 v r1 rv, k.2 σ I1 as1 H1 _ r1 ⟨fun ss δ2 vs I2 as2 H2 r2 l2 rv2 k2 => k2 σ I2 as2 H2 Q v vs r2 (rv.mono l2) rv2 ((c.later l1).later l2).v, (c.later l1).x⟩⟩, c.x⟩
theorem mt_append' {c : Nat} {xs : List SV} {s : SV} (e : δ.ce[c]? = some (.lst xs)) (hl : xs.length < 100000) (k : Ψ (.im .non) { δ with ce := δ.ce.set c (.lst (xs ++ [s])) }) : MtW K ec "list" rAppend (.cl c) [s] Ψ δ := by
  intro σ I as H Q v vs r rv rvs cc
  obtain ⟨a, ha, rfl⟩ := rv
  obtain ⟨w, _, rfl, hw, rfl⟩ := rvs
  obtain ⟨hn, ws, hh, ra⟩ := r.cells c _ a e ha
  refine ⟨a, ws, w, rfl, rfl, hh, by rw [ra.length]; exact Nat.lt_of_lt_of_le hl (by decide), ?_⟩
  exact cc (.im .non) _ _ I as _ (r.setC (co := .lst (xs ++ [s])) e rfl ha ⟨hn, _, upd_same, ra.snoc hw⟩ rfl) (Le.refl I as) rfl k
end
end Fx

set_option Elab.async false
set_option linter.all false
set_option autoImplicit false
set_option maxRecDepth 100000
set_option maxHeartbeats 2000000
namespace Fx
open PySem PySem.Spec PyProof.Rows L2
/-! ## defs that are called where no repr is under way -/
structure RoomG (k : Nat) (A : Around) : Prop where
  r : Room k A
  gd : A.guards = some []
theorem RoomG.mono {j k : Nat} {A : Around} (r : RoomG k A) (h : j ≤ k) : RoomG j A := ⟨r.r.mono h, r.gd⟩
theorem RoomG.deeper {k : Nat} {A : Around} (r : RoomG (k + 1) A) (env : Env) : RoomG k (A.deeper env) := ⟨r.r.deeper env, r.gd⟩
theorem RoomG.make {k : Nat} {A : Around} (r : RoomG (k + 1) A) (C : Addr) (us : List Value) (kw : List (Str × Value)) : RoomG k (A.under (.builtin "type.__call__" ⟨.ref C :: us, kw⟩)) := by
  refine ⟨r.r.make C us kw, ?_⟩
  have e : (Code.builtin "type.__call__" ⟨.ref C :: us, kw⟩).isGuard = false := by
    show guardIds.contains "type.__call__" = false
    decide +kernel
  simp [Around.under, Code.guards, e, pushGuards, r.gd]
structure FnG (P : Program) (w : World) (K : PySem.W.Frag) (mg : Str → Option Value) (base : Heap) (CX : CXT) (k : Nat) (f : Addr) (fd : FuncData) (ps : List Str) (sp : Sp) : Prop where
  len : ∀ vs H Q E, sp vs H Q E → vs.length = ps.length
  run : ∀ (A : Around) (outer : List Env) (s : Shared) (H : Hp) (args : Args) (us : List Value) (vs : List V) (Q : VK) (E : XK), RoomG k A → Env0 P w K mg base A outer s H → BindsTo s fd args (ps.zip us) → Vals vs us → sp vs H Q E →
    codeAny (model P w) A (.call (.ref f) args) (CR CX outer P w H s Q E) s
theorem FnG.mono {P : Program} {w : World} {K : PySem.W.Frag} {mg : Str → Option Value} {base : Heap} {CX : CXT} {j k : Nat} {f : Addr} {fd : FuncData} {ps : List Str} {sp : Sp} (F : FnG P w K mg base CX j f fd ps sp) (h : j ≤ k) :
    FnG P w K mg base CX k f fd ps sp := ⟨F.len, fun A outer s H args us vs Q E hr => F.run A outer s H args us vs Q E (hr.mono h)⟩
theorem okG {P : Program} {w : World} {K : PySem.W.Frag} {mg : Str → Option Value} {base : Heap} {x qual : Str} {params : Arguments} {body : List Stmt} {scope : Scope} {dvs : List V} {kws : List (Str × V)} {f : Addr} {fd : FuncData} {CX : CXT} {N ps : List Str} {k : Nat} {sp : Sp} (F : FunD K x qual params body scope dvs kws f fd) (S : FnScope N ps scope) (len : ∀ vs H Q E, sp vs H Q E → vs.length = ps.length)
    (hbody : ∀ (cdv : Value) (A : Around) (outer : List Env) (s : Shared) (H : Hp) (vs : List V) (Q : VK) (E : XK), RoomG k (A.deeper (envOfC qual scope s.heap.objs.size f cdv)) → sp vs H Q E →
      ∃ t, PSs (cxOf CX P w K mg base N qual scope f cdv A outer s H E) body t ∧ t { nx := fun _ H' => Q .non H', rt := Q } (L2.start N vs) H) : FnG P w K mg base CX (k + 1) f fd ps sp := by
  obtain ⟨oc, od, dV, kV, doc, pm, an, cdv, ct, osl, rfl, lk, hcd, _, _⟩ := F.ex
  refine ⟨len, fun A outer s H args us vs Q E hr e0 hb r hsp => ?_⟩
  refine StX.run_bnd lk hcd S hr.r e0 (G := fun xs H2 => xs = vs ∧ H2 = H) (fun A' Ex Q' h => hb _ _ _ _ ?_) fun s2 H2 xs g hr' => ?_
  · exact h s H vs us e0 Un.refl rfl (fun _ _ z => z) r (len _ _ _ _ hsp) ⟨rfl, rfl⟩
  · obtain ⟨rfl, rfl⟩ := g
    exact hbody cdv A outer s2 H2 xs Q E ⟨hr', hr.gd⟩ hsp
theorem run_fnG {X : Cx} {CX : CXT} {k : Nat} {f : Addr} {fd : FuncData} {ps : List Str} {sp : Sp} {E : L2.St → XK} {ds : List Value} {dvs : List V} {pins : List (Addr × Obj)} {σ : L2.St} {H : Hp} {s : Shared} {Q : VK} {us : List Value} {vs : List V} (F : FnG X.prog X.w X.K X.mg X.base CX k f fd ps sp) (hr : RoomG k X.A) (hb : Binds X.K fd ps ds) (hd : Vals dvs ds) (hx : PassesAt CX X σ (E σ))
    (I : Inv X pins σ H s) (r : Vals vs us) (h : sp (vs ++ dvs) H Q (E σ)) : wpAny (model X.prog X.w) X.A (call (.ref f) us) (EP X pins σ Q) X.xe s := by
  have r2 : Vals (vs ++ dvs) (us ++ ds) := r.append hd
  have hl : (us ++ ds).length = ps.length := by rw [← r2.length]; exact F.len _ _ _ _ h
  refine wpAny_call (codeAny_mono (F.run X.A X.stack s H ⟨us, []⟩ (us ++ ds) (vs ++ dvs) Q (E σ) hr I.env0 (hb s us I.kIn hl) r2 h) fun r s' hq => ?_)
  cases r with
  | error e => exact hx pins H s e s' I hq
  | ok fl =>
    cases fl with
    | ret u => exact I.after hq
    | next => exact False.elim hq
    | brk => exact False.elim hq
    | cont => exact False.elim hq
end Fx

set_option Elab.async false
set_option linter.all false
set_option autoImplicit false
set_option maxRecDepth 100000
set_option maxHeartbeats 2000000
namespace Fx
open PySem L2

/-! ## outcomes -/
inductive Out (S α : Type) where
  | ok (a : α) (s : S) | ex (x : Xn) (s : S) | bad
namespace Out
variable {S α β : Type}
def bind (o : Out S α) (f : α → S → Out S β) : Out S β := match o with
  | .ok a s => f a s
  | .ex x s => .ex x s
  | .bad => .bad
def sat (o : Out S α) (Ψ : α → S → Prop) (Ξ : Xn → S → Prop) : Prop := match o with
  | .ok a s => Ψ a s
  | .ex x s => Ξ x s
  | .bad => False
theorem sat_bind {o : Out S α} {f : α → S → Out S β} {Ψ : β → S → Prop} {Ξ : Xn → S → Prop} (h : (o.bind f).sat Ψ Ξ) : o.sat (fun a s => (f a s).sat Ψ Ξ) Ξ := by
  cases o <;> exact h
theorem sat_mono {o : Out S α} {Ψ Ψ' : α → S → Prop} {Ξ Ξ' : Xn → S → Prop} (h : o.sat Ψ Ξ) (h1 : ∀ a s, Ψ a s → Ψ' a s) (h2 : ∀ x s, Ξ x s → Ξ' x s) : o.sat Ψ' Ξ' := by
  cases o with
  | ok a s => exact h1 _ _ h
  | ex x s => exact h2 _ _ h
  | bad => exact h
@[simp] theorem bind_ok (a : α) (s : S) (f : α → S → Out S β) : (Out.ok a s).bind f = f a s := rfl
@[simp] theorem bind_ex (x : Xn) (s : S) (f : α → S → Out S β) : (Out.ex x s).bind f = .ex x s := rfl
@[simp] theorem bind_bad (f : α → S → Out S β) : (Out.bad : Out S α).bind f = .bad := rfl
end Out
abbrev O (α : Type) := Out Sta α
abbrev AE := Sta → O SV
abbrev AT := Sta → O Bool
abbrev AA := Sta → O (List SV)
abbrev AI := Sta → O (List D)
abbrev AG := SV → Sta → Option Sta
abbrev Xs := List (Addr × Value × Option Addr)
def SE (K : PySem.W.Frag) (xs : Xs) (W : WX) (te : TE) (a : AE) : Prop := ∀ fr δ Ψ Ξ, (a δ).sat Ψ Ξ → WE K ⟨xs, fr⟩ W te Ψ Ξ δ
def ST (K : PySem.W.Frag) (xs : Xs) (W : WX) (te : TT) (a : AT) : Prop := ∀ fr δ Ψ Ξ, (a δ).sat Ψ Ξ → WT K ⟨xs, fr⟩ W te Ψ Ξ δ
def SA (K : PySem.W.Frag) (xs : Xs) (W : WX) (te : TA) (a : AA) : Prop := ∀ fr δ Ψ Ξ, (a δ).sat Ψ Ξ → WA K ⟨xs, fr⟩ W te Ψ Ξ δ
def SI (K : PySem.W.Frag) (xs : Xs) (W : WX) (te : TI) (a : AI) : Prop := ∀ fr δ Ψ Ξ, (a δ).sat Ψ Ξ → WI K ⟨xs, fr⟩ W te Ψ Ξ δ
def SG (K : PySem.W.Frag) (xs : Xs) (g : TG) (a : AG) : Prop := ∀ fr s δ (Φ : Sta → Prop), (match a s δ with | some δ' => Φ δ' | none => False) → WG K ⟨xs, fr⟩ g s Φ δ
/-! ## values -/
def aC (d : D) : AE := fun δ => .ok (.im d) δ
def nrm (ce : List CO) : SV → SV
  | .cl c => match ce[c]? with
    | some (.fz d) => .im d
    | _ => .cl c
  | s => s
def aVar (i : Nat) : AE := fun δ => match δ.sl[i]? with
  | some .no => .bad
  | some s => .ok (nrm δ.ce s) δ
  | none => .bad
section
variable {K : PySem.W.Frag} {xs : Xs} {W : WX}
theorem nrm_rv {ec : EC} {δ : Sta} {σ : L2.St} {I : Hp} {as : List Addr} {H : Hp} (r : R K ec δ σ I as H) {s : SV} {v : V} (h : RV K I as s v) : RV K I as (nrm δ.ce s) v := by
  cases s with
  | no => exact h
  | im d => exact h
  | cl c =>
    unfold nrm
    dsimp only
    split
    · rename_i d q
      exact r.imS (s := .cl c) (by simp only [Fx.imS, q]) h
    · exact h
theorem se_var (i : Nat) : SE K xs W (tVar i) (aVar i) := by
  intro fr δ Ψ Ξ h σ I as H Q r c
  unfold aVar at h
  cases q : δ.sl[i]? with
  | none => rw [q] at h; exact h.elim
  | some s =>
    rw [q] at h
    cases s with
    | no => exact h.elim
    | im d =>
      rcases r.slots i _ q with z | ⟨v, h1, h2⟩
      · cases z
      · exact ⟨v, h1, c.v _ δ v I as H r (Le.refl I as) (nrm_rv r h2) h⟩
    | cl cc =>
      rcases r.slots i _ q with z | ⟨v, h1, h2⟩
      · cases z
      · exact ⟨v, h1, c.v _ δ v I as H r (Le.refl I as) (nrm_rv r h2) h⟩
theorem se_int (i : Int) : SE K xs W (tC (.int i)) (aC (.int i)) := fun fr δ Ψ Ξ h => we_int h
theorem se_str (x : Str) : SE K xs W (tC (.str x)) (aC (.str x)) := fun fr δ Ψ Ξ h => we_str h
theorem se_bl (b : Bool) : SE K xs W (tC (.bl b)) (aC (.bl b)) := fun fr δ Ψ Ξ h => we_bl h
theorem se_non : SE K xs W (tC .non) (aC .non) := fun fr δ Ψ Ξ h => we_non h
theorem se_ty (n : String) : SE K xs W (tC (.ty n)) (aC (.ty n)) := fun fr δ Ψ Ξ h => we_ty h
theorem se_glo (x : Str) : SE K xs W (tC (.ref (He.ga K x))) (aC (.glo x)) := fun fr δ Ψ Ξ h => we_glo h
/-- a thing of the top that is data -/
theorem se_con {v : V} {d : D} (hd : ∀ I, Rep K I d v) : SE K xs W (tC v) (aC d) := fun fr δ Ψ Ξ h => we_c hd h

/-! ## operators -/
abbrev AOp := SV → SV → Sta → O SV
def aOp (o : AOp) (a b : AE) : AE := fun δ => (a δ).bind fun s δ1 => (b δ1).bind fun t δ2 => o s t δ2
def OpOk (K : PySem.W.Frag) (xs : Xs) (r : R2) (o : AOp) : Prop := ∀ fr s t δ (Ψ : SV → Sta → Prop) Ξ, (o s t δ).sat Ψ Ξ → OpW K ⟨xs, fr⟩ r s t Ψ δ
theorem se_op {r : R2} {o : AOp} {ta tb : TE} {a b : AE} (ho : OpOk K xs r o) (ha : SE K xs W ta a) (hb : SE K xs W tb b) : SE K xs W (tOp r ta tb) (aOp o a b) := fun fr δ Ψ Ξ h =>
  we_op (ha fr δ _ _ (Out.sat_mono (Out.sat_bind h) (fun s δ1 h1 => hb fr δ1 _ _ (Out.sat_mono (Out.sat_bind h1) (fun t δ2 h2 => ho fr s t δ2 Ψ Ξ h2) fun _ _ z => z)) fun _ _ z => z))
/-- an operator on data -/
def dOp (f : D → D → Option D) : AOp := fun s t δ => match dv δ.ce s, dv δ.ce t with
  | some x, some y => match f x y with
    | some d => .ok (.im d) δ
    | none => .bad
  | _, _ => .bad
theorem dOp_ok {r : R2} {f : D → D → Option D} (h : ∀ (ec : EC) (δ : Sta) (s t : SV) (x y d : D) (Ψ : SV → Sta → Prop), dv δ.ce s = some x → dv δ.ce t = some y → f x y = some d → Ψ (.im d) δ → OpW K ec r s t Ψ δ) : OpOk K xs r (dOp f) := by
  intro fr s t δ Ψ Ξ q
  unfold dOp at q
  cases e1 : dv δ.ce s with
  | none => rw [e1] at q; exact q.elim
  | some x =>
    cases e2 : dv δ.ce t with
    | none => rw [e1, e2] at q; exact q.elim
    | some y =>
      rw [e1, e2] at q
      dsimp only at q
      cases e3 : f x y with
      | none => rw [e3] at q; exact q.elim
      | some d => rw [e3] at q; exact h _ δ s t x y d Ψ e1 e2 e3 q
@[simp] theorem dOp_im (f : D → D → Option D) (x y : D) (δ : Sta) : dOp f (.im x) (.im y) δ = match f x y with | some d => .ok (.im d) δ | none => .bad := rfl
end

/-! the rules of the machine, by the operator -/
section
variable {X : Cx}
def rMulStr : R2 := fun x y H Q => ∃ (a : Str) (n : Int), x = .str a ∧ y = .int n ∧ MulOk a n ∧ Q (.str (Txt.mul a n)) H
theorem op_mul_str : OpR X (binaryOp .Mult) rMulStr := by
  intro pins s σ H x y u v Q I rx ry h
  obtain ⟨a, n, rfl, rfl, hok, q⟩ := h
  obtain ⟨t, rfl⟩ := (show ∃ t, u = Value.str a t from rx)
  obtain ⟨t', rfl⟩ := (show ∃ t', v = Value.int n t' from ry)
  exact SB.mul hok fun t' k => ⟨.str (Txt.mul a n), H, I.tok k, ⟨_, rfl⟩, q⟩
def rAddA (K : PySem.W.Frag) : R2 := fun x y H Q => rI0 (fun i j => .int (i + j)) x y H Q ∨ (rAddStr x y H Q ∨ (rCat x y H Q ∨ rCatA K x y H Q))
theorem op_addA : OpR X (binaryOp .Add) (rAddA X.K) := op_add.or (op_add_str.or (op_cat.or op_catA))
def rMulA : R2 := fun x y H Q => rI CMul (fun i j => .int (i * j)) x y H Q ∨ (rMulStr x y H Q ∨ rRep x y H Q)
theorem op_mulA : OpR X (binaryOp .Mult) rMulA := op_mul.or (op_mul_str.or op_rep)
def rEqA (K : PySem.W.Frag) : R2 := fun x y H Q => rEq x y H Q ∨ rEqD K x y H Q
def rNeA (K : PySem.W.Frag) : R2 := fun x y H Q => rNe x y H Q ∨ rNeD K x y H Q
theorem op_eqA {k : Nat} (hr : RoomG k X.A) : OpR X (compareOp .Eq) (rEqA X.K) := op_eq.or (op_eqD hr.r.units)
theorem op_neA {k : Nat} (hr : RoomG k X.A) : OpR X (compareOp .NotEq) (rNeA X.K) := op_ne.or (op_neD hr.r.units)
def rLtA : R2 := fun x y H Q => rI0 (fun i j => .bl (decide (i < j))) x y H Q ∨ rLtStr x y H Q
theorem op_ltA : OpR X (compareOp .Lt) rLtA := op_lt.or op_lt_str
def rLe0 : R2 := rI0 fun i j => .bl (decide (i ≤ j))
def rGt0 : R2 := rI0 fun i j => .bl (decide (j < i))
def rGe0 : R2 := rI0 fun i j => .bl (decide (j ≤ i))
theorem op_leA : OpR X (compareOp .LtE) rLe0 := op_le
theorem op_gtA : OpR X (compareOp .Gt) rGt0 := op_gt
theorem op_geA : OpR X (compareOp .GtE) rGe0 := op_ge
def rSub0 : R2 := rI0 fun i j => .int (i - j)
def rDiv0 : R2 := rI CDiv fun i j => .int (i / j)
def rMod0 : R2 := rI (fun _ j => 0 < j) fun i j => .int (i % j)
def rPow0 : R2 := rI CPow fun i j => .int (i ^ j.toNat)
theorem op_subA : OpR X (binaryOp .Sub) rSub0 := op_sub
theorem op_fdivA : OpR X (binaryOp .FloorDiv) rDiv0 := op_fdiv
theorem op_modA : OpR X (binaryOp .Mod) rMod0 := op_mod
theorem op_powA : OpR X (binaryOp .Pow) rPow0 := op_pow
def rInDc (neg : Bool) : R2 := fun y x H Q => ∃ a o, x = .ref a ∧ DGet H a y o ∧ Q (.bl (if neg then !o.isSome else o.isSome)) H
theorem op_inD (hu : X.A.units + 1 < cLine) : OpR X (compareOp .In) (rInDc false) := by
  intro pins s σ H x y v u Q I rx ry h
  obtain ⟨a, o, rfl, g, q⟩ := h
  obtain rfl : u = Value.ref a := ry
  exact d_in hu I g rx fun s3 I3 => ⟨.bl o.isSome, H, I3, rfl, q⟩
theorem op_notinD (hu : X.A.units + 1 < cLine) : OpR X (compareOp .NotIn) (rInDc true) := by
  intro pins s σ H x y v u Q I rx ry h
  obtain ⟨a, o, rfl, g, q⟩ := h
  obtain rfl : u = Value.ref a := ry
  exact d_notIn hu I g rx fun s3 I3 => ⟨.bl (!o.isSome), H, I3, rfl, q⟩
def rInStr : R2 := fun x y H Q => ∃ i j, x = .str i ∧ y = .str j ∧ Q (.bl (!(Builtin.Str.occurrences j i 0 j.length 1).isEmpty)) H
def rNotInStr : R2 := fun x y H Q => ∃ i j, x = .str i ∧ y = .str j ∧ Q (.bl (!(!(Builtin.Str.occurrences j i 0 j.length 1).isEmpty))) H
def rInA (K : PySem.W.Frag) : R2 := fun x y H Q => rIn K false x y H Q ∨ (rInStr x y H Q ∨ rInDc false x y H Q)
def rNotInA (K : PySem.W.Frag) : R2 := fun x y H Q => rIn K true x y H Q ∨ (rNotInStr x y H Q ∨ rInDc true x y H Q)
theorem op_inA (hu : X.A.units + 1 < cLine) : OpR X (compareOp .In) (rInA X.K) := op_in_seq.or (op_in_str.or (op_inD hu))
theorem op_notinA (hu : X.A.units + 1 < cLine) : OpR X (compareOp .NotIn) (rNotInA X.K) := op_notIn_seq.or (op_notin_str.or (op_notinD hu))
def rIsA : R2 := fun x y H Q => rIsN x y H Q ∨ rIsB x y H Q
def rNotA : R2 := fun x y H Q => rNotN x y H Q ∨ rNotB x y H Q
theorem op_isA : OpR X (compareOp .Is) rIsA := OpR.or (r := rIsN) op_isN op_isBl
theorem op_notA : OpR X (compareOp .IsNot) rNotA := OpR.or (r := rNotN) op_notN op_notBl
end
/-! the operators on data -/
def addD : D → D → Option D
  | .int i, .int j => some (.int (i + j))
  | .str a, .str b => if a.length + b.length ≤ 1000000 then some (.str (a ++ b)) else none
  | .lst xs, .lst ys => if xs.length + ys.length ≤ 1000000 then some (.lst (xs ++ ys)) else none
  | _, _ => none
def subD : D → D → Option D
  | .int i, .int j => some (.int (i - j))
  | _, _ => none
def mulD : D → D → Option D
  | .int i, .int j => if (-18446744073709551616 < i ∧ i < 18446744073709551616) ∨ (-18446744073709551616 < j ∧ j < 18446744073709551616) then some (.int (i * j)) else none
  | .str a, .int n => if a.length ≤ 1000 ∧ -1000 ≤ n ∧ n ≤ 1000 then some (.str (Txt.mul a n)) else none
  | _, _ => none
def fdivD : D → D → Option D
  | .int i, .int j => if 0 < j ∧ j < 1073741824 then some (.int (i / j)) else none
  | _, _ => none
def modD : D → D → Option D
  | .int i, .int j => if 0 < j then some (.int (i % j)) else none
  | _, _ => none
def powD : D → D → Option D
  | .int i, .int j => if 0 ≤ j ∧ j ≤ 1000000 ∧ i.natAbs < 18446744073709551616 then some (.int (i ^ j.toNat)) else none
  | _, _ => none
def ltD : D → D → Option D
  | .int i, .int j => some (.bl (decide (i < j)))
  | .str i, .str j => some (.bl (decide (i.cps.toList < j.cps.toList)))
  | _, _ => none
def leD : D → D → Option D
  | .int i, .int j => some (.bl (decide (i ≤ j)))
  | _, _ => none
def gtD : D → D → Option D
  | .int i, .int j => some (.bl (decide (j < i)))
  | _, _ => none
def geD : D → D → Option D
  | .int i, .int j => some (.bl (decide (j ≤ i)))
  | _, _ => none
mutual
def toP : D → Option PyData
  | .non => some .none
  | .bl b => some (.bool b)
  | .int i => some (.int i)
  | .str x => some (.str x)
  | .lst xs => (toPL xs).map .list
  | .tup xs => (toPL xs).map .tuple
  | _ => none
def toPL : List D → Option (List PyData)
  | [] => some []
  | x :: xs => match toP x, toPL xs with
    | some p, some ps => some (p :: ps)
    | _, _ => none
end
def deB (x y : D) : Option Bool := match toP x, toP y with
  | some p, some q => if SeqAt.shaped p = true ∧ SeqAt.shaped q = true then some (PyData.eqv p q) else none
  | _, _ => none
/-- texts beside single values -/
def scB : D → D → Option Bool
  | .str a, .str b => some (decide (a = b))
  | .str _, .non => some false
  | .non, .str _ => some false
  | .str _, .int _ => some false
  | .int _, .str _ => some false
  | .str _, .bl _ => some false
  | .bl _, .str _ => some false
  | _, _ => none
def eqB (x y : D) : Option Bool := match scB x y with
  | some b => some b
  | none => deB x y
def eqD (x y : D) : Option D := (eqB x y).map .bl
def neD (x y : D) : Option D := (eqB x y).map fun b => .bl (!b)
def isD : D → D → Option D
  | x, .non => some (.bl (isNon x))
  | .bl a, .bl b => some (.bl (decide (a = b)))
  | _, _ => none
def isnotD : D → D → Option D
  | x, .non => some (.bl (!isNon x))
  | .bl a, .bl b => some (.bl (!decide (a = b)))
  | _, _ => none
def eqF : D → D → Bool
  | .non, .non => true
  | .bl a, .bl b => a == b
  | .bl a, .int b => (if a then 1 else 0) == b
  | .int a, .bl b => a == (if b then 1 else 0)
  | .int a, .int b => a == b
  | .str a, .str b => a == b
  | _, _ => false
def flatD : D → Bool
  | .non => true | .bl _ => true | .int _ => true | .str _ => true | _ => false
def inF (x : D) (xs : List D) : Bool := xs.any fun y => eqF y x
def inB (x : D) : D → Option Bool
  | .lst xs => if flatD x = true ∧ xs.all flatD = true then some (inF x xs) else none
  | .tup xs => if flatD x = true ∧ xs.all flatD = true then some (inF x xs) else none
  | .str b => match x with
    | .str a => some (!(Builtin.Str.occurrences b a 0 b.length 1).isEmpty)
    | _ => none
  | .dic kvs => match keyOf x with
    | some k => some (lookD kvs k).isSome
    | none => none
  | _ => none
def inD (x y : D) : Option D := (inB x y).map .bl
def notinD (x y : D) : Option D := (inB x y).map fun b => .bl (!b)
section
variable {K : PySem.W.Frag} {xs : Xs}
theorem line_le {n : Nat} (h : n ≤ 1000000) : n ≤ sizeLine := Nat.le_trans h (by decide)
theorem ok_add0 : OpOk K xs (rAddA K) (dOp addD) := dOp_ok fun ec δ s t x y d Ψ e1 e2 h k => by
  unfold addD at h
  split at h
  · cases h; exact ow_l (ow_add e1 e2 k)
  · split at h
    · rename_i hl; cases h; exact ow_r (ow_l (ow_addS e1 e2 (line_le hl) k))
    · cases h
  · rename_i xs ys
    split at h
    · rename_i hl
      cases h
      refine ow_r (ow_r (ow_l ?_))
      intro σ I as H Q v w r h1 h2 c
      obtain ⟨a, vs, rfl, ha, ra⟩ := r.dvL e1 h1
      obtain ⟨b, ws, rfl, hb, rb⟩ := r.dvL e2 h2
      refine ⟨a, b, vs, ws, rfl, rfl, ha, hb, ?_, fun p hp => ?_⟩
      · rw [ra.length, rb.length]; exact line_le hl
      · obtain ⟨r', l⟩ := r.newF (o := .lst (vs ++ ws)) hp
        exact c (.im (.lst (xs ++ ys))) δ _ _ as _ r' l ⟨p, _, rfl, upd_same, RepL.mono l.i _ _ (ra.append rb)⟩ k
    · cases h
  · cases h
/-- + : of tuples, else of ints, texts, lists -/
def addA : AOp := fun s t δ => match imS δ.ce s, imS δ.ce t with
  | some (.tup xs), some (.tup ys) => if xs.length + ys.length ≤ 1000000 then .ok (.im (.tup (xs ++ ys))) δ else .bad
  | _, _ => dOp addD s t δ
theorem ok_add : OpOk K xs (rAddA K) addA := by
  intro fr s t δ Ψ Ξ h
  unfold addA at h
  split at h
  · rename_i xs ys e1 e2
    split at h
    · rename_i hl
      refine ow_r (ow_r (ow_r ?_))
      intro σ I as H Q v w r h1 h2 c
      have i1 := r.imS e1 h1
      have i2 := r.imS e2 h2
      obtain ⟨a, vs, rfl, ha, ra⟩ := id i1
      obtain ⟨b, ws, rfl, hb, rb⟩ := id i2
      have eq : cutV (vs ++ ws) none none = vs ++ ws → True := fun _ => trivial
      refine ⟨a, b, vs, ws, rfl, rfl, same_t r.ih ha, same_t r.ih hb, by rw [ra.length, rb.length]; exact line_le hl, ?_⟩
      have k1 : vs = [] → Q (.ref b) H := fun z => by
        have h0 : xs = [] := List.length_eq_zero_iff.mp (by rw [← ra.length, z]; rfl)
        subst h0
        exact c (.im (.tup ([] ++ ys))) δ _ I as H r (Le.refl I as) (by rw [List.nil_append]; exact i2) h
      have k2 : ws = [] → Q (.ref a) H := fun z => by
        have h0 : ys = [] := List.length_eq_zero_iff.mp (by rw [← rb.length, z]; rfl)
        subst h0
        exact c (.im (.tup (xs ++ []))) δ _ I as H r (Le.refl I as) (by rw [List.append_nil]; exact i1) h
      have k3 : ∀ p, H p = none → Q (.ref p) (upd H p (.tup (vs ++ ws))) := fun p hp => by
        obtain ⟨r', l⟩ := r.newF (o := .tup (vs ++ ws)) hp
        exact c (.im (.tup (xs ++ ys))) δ _ _ as _ r' l ⟨p, _, rfl, SqT.of upd_same, RepL.mono l.i _ _ (ra.append rb)⟩ h
      exact ⟨k1, fun _ => k2, fun _ _ => k3⟩
    · exact h.elim
  · exact ok_add0 fr s t δ Ψ Ξ h
theorem ok_sub : OpOk K xs rSub0 (dOp subD) := dOp_ok fun ec δ s t x y d Ψ e1 e2 h k => by
  unfold subD at h
  split at h
  · cases h; exact ow_sub e1 e2 k
  · cases h
theorem mulOk_of {a : Str} {n : Int} (h1 : a.length ≤ 1000) (h2 : -1000 ≤ n) (h3 : n ≤ 1000) : MulOk a n := by
  refine ⟨?_, fun h _ => ?_, fun h _ => ?_⟩
  · have : ¬ n < -(2 ^ 63 : Int) := by omega
    have : ¬ n ≥ (2 ^ 63 : Int) := by omega
    simp
    omega
  · have h4 : (0 : Int) < n := by omega
    have : (1000 : Int) ≤ (2 ^ 63 - 1) / n := by
      rw [Int.le_ediv_iff_mul_le h4]
      omega
    omega
  · have h4 : a.length * n.toNat ≤ 1000 * 1000 := Nat.mul_le_mul h1 (by omega)
    have : ∀ m : Nat, m ≤ 1000000 → Builtin.Str.tooLong m = false := fun m hm => by
      unfold Builtin.Str.tooLong
      exact decide_eq_false (by have : (1000000 : Nat) ≤ sizeLine := by decide
                                omega)
    exact this _ (by omega)
theorem ok_mul : OpOk K xs rMulA (dOp mulD) := dOp_ok fun ec δ s t x y d Ψ e1 e2 h k => by
  unfold mulD at h
  split at h
  · split at h
    · rename_i hl; cases h
      exact ow_l (ow_mul e1 e2 hl k)
    · cases h
  · rename_i a n
    split at h
    · rename_i hl
      cases h
      refine ow_r (ow_l ?_)
      intro σ I as H Q v w r h1 h2 c
      exact ⟨a, n, r.dv e1 h1, r.dv e2 h2, mulOk_of hl.1 hl.2.1 hl.2.2, c (.im (.str _)) δ _ I as H r (Le.refl I as) rfl k⟩
    · cases h
  · cases h
theorem ok_fdiv : OpOk K xs rDiv0 (dOp fdivD) := dOp_ok fun ec δ s t x y d Ψ e1 e2 h k => by
  unfold fdivD at h
  split at h
  · split at h
    · rename_i hl; cases h; exact ow_div e1 e2 hl k
    · cases h
  · cases h
theorem ok_mod : OpOk K xs rMod0 (dOp modD) := dOp_ok fun ec δ s t x y d Ψ e1 e2 h k => by
  unfold modD at h
  split at h
  · split at h
    · rename_i hl; cases h; exact ow_mod e1 e2 hl k
    · cases h
  · cases h
theorem ok_pow : OpOk K xs rPow0 (dOp powD) := dOp_ok fun ec δ s t x y d Ψ e1 e2 h k => by
  unfold powD at h
  split at h
  · split at h
    · rename_i hl; cases h; exact ow_pow e1 e2 hl k
    · cases h
  · cases h
theorem ok_lt : OpOk K xs rLtA (dOp ltD) := dOp_ok fun ec δ s t x y d Ψ e1 e2 h k => by
  unfold ltD at h
  split at h
  · cases h; exact ow_l (ow_lt e1 e2 k)
  · cases h; exact ow_r (ow_ltS e1 e2 k)
  · cases h
theorem ok_le : OpOk K xs rLe0 (dOp leD) := dOp_ok fun ec δ s t x y d Ψ e1 e2 h k => by
  unfold leD at h
  split at h
  · cases h; exact ow_le e1 e2 k
  · cases h
theorem ok_gt : OpOk K xs rGt0 (dOp gtD) := dOp_ok fun ec δ s t x y d Ψ e1 e2 h k => by
  unfold gtD at h
  split at h
  · cases h; exact ow_gt e1 e2 k
  · cases h
theorem ok_ge : OpOk K xs rGe0 (dOp geD) := dOp_ok fun ec δ s t x y d Ψ e1 e2 h k => by
  unfold geD at h
  split at h
  · cases h; exact ow_ge e1 e2 k
  · cases h
mutual
theorem dp_of {H : Hp} : ∀ (x : D) (v : V) (p : PyData), toP x = some p → Rep K H x v → Dp K H v p
  | .non, _, _, e, h => by simp only [toP] at e; cases e; cases (show _ = V.non from h); exact .non
  | .bl b, _, _, e, h => by simp only [toP] at e; cases e; cases (show _ = V.bl b from h); exact .bl b
  | .int b, _, _, e, h => by simp only [toP] at e; cases e; cases (show _ = V.int b from h); exact .int b
  | .str b, _, _, e, h => by simp only [toP] at e; cases e; cases (show _ = V.str b from h); exact .str b
  | .lst ds, _, p, e, ⟨a, vs, h1, h2, h3⟩ => by
    simp only [toP, Option.map_eq_some_iff] at e
    obtain ⟨ps, q, rfl⟩ := e
    subst h1
    exact .lst (SqL.of h2) (dp_ofL ds vs ps q h3)
  | .tup ds, _, p, e, ⟨a, vs, h1, h2, h3⟩ => by
    simp only [toP, Option.map_eq_some_iff] at e
    obtain ⟨ps, q, rfl⟩ := e
    subst h1
    exact .tup h2 (dp_ofL ds vs ps q h3)
  | .ty _, _, _, e, _ => by simp only [toP] at e; cases e
  | .glo _, _, _, e, _ => by simp only [toP] at e; cases e
  | .dic _, _, _, e, _ => by simp only [toP] at e; cases e
  | .ins _ _, _, _, e, _ => by simp only [toP] at e; cases e
  | .slf _ _, _, _, e, _ => by simp only [toP] at e; cases e
  | .me, _, _, e, _ => by simp only [toP] at e; cases e
  | .scr _, _, _, e, _ => by simp only [toP] at e; cases e
theorem dp_ofL {H : Hp} : ∀ (x : List D) (v : List V) (p : List PyData), toPL x = some p → RepL K H x v → DpAll K H v p
  | [], _, _, e, h => by simp only [toPL] at e; cases e; rw [show _ = [] from h]; exact .nil
  | d :: ds, _, p, e, ⟨v, r, h1, h2, h3⟩ => by
    simp only [toPL] at e
    split at e
    · rename_i p1 ps q1 q2
      cases e
      subst h1
      exact .cons (dp_of d v p1 q1 h2) (dp_ofL ds r ps q2 h3)
    · cases e
end
theorem deB_ok {ec : EC} {δ : Sta} {s t : SV} {x y : D} {b : Bool} {σ : L2.St} {I : Hp} {as : List Addr} {H : Hp} {v w : V} (r : R K ec δ σ I as H) (e1 : dv δ.ce s = some x) (e2 : dv δ.ce t = some y) (h : deB x y = some b) (h1 : RV K I as s v) (h2 : RV K I as t w) :
    ∃ d e, Dp K H v d ∧ Dp K H w e ∧ SeqAt.shaped d = true ∧ SeqAt.shaped e = true ∧ PyData.eqv d e = b := by
  unfold deB at h
  split at h
  · rename_i p q q1 q2
    split at h
    · rename_i hs
      cases h
      exact ⟨p, q, dp_of x v p q1 (r.dv e1 h1), dp_of y w q q2 (r.dv e2 h2), hs.1, hs.2, rfl⟩
    · cases h
  · cases h
theorem scB_ok {x y : D} {b : Bool} {H : Hp} {v w : V} (h : scB x y = some b) (h1 : Rep K H x v) (h2 : Rep K H y w) : scal v w = true ∧ decide (v = w) = b := by
  unfold scB at h
  split at h
  · cases (show v = _ from h1); cases (show w = _ from h2); cases h
    exact ⟨rfl, by rw [Bool.eq_iff_iff]; simp⟩
  all_goals first
    | (cases (show v = _ from h1); cases (show w = _ from h2); cases h; exact ⟨rfl, by simp⟩)
    | cases h
theorem ok_eq : OpOk K xs (rEqA K) (dOp eqD) := dOp_ok fun ec δ s t x y d Ψ e1 e2 h k => by
  unfold eqD at h
  rw [Option.map_eq_some_iff] at h
  obtain ⟨b, h, rfl⟩ := h
  unfold eqB at h
  split at h
  · rename_i b' q
    cases h
    refine ow_l ?_
    intro σ I as H Q v w r h1 h2 c
    obtain ⟨g1, g2⟩ := scB_ok q (r.dv e1 h1) (r.dv e2 h2)
    exact ⟨g1, by rw [g2]; exact c (.im (.bl b)) δ _ I as H r (Le.refl I as) rfl k⟩
  refine ow_r ?_
  intro σ I as H Q v w r h1 h2 c
  obtain ⟨p, q, d1, d2, s1, s2, e⟩ := deB_ok r e1 e2 h h1 h2
  exact ⟨p, q, d1, d2, s1, s2, by rw [e]; exact c (.im (.bl b)) δ _ I as H r (Le.refl I as) rfl k⟩
theorem ok_ne : OpOk K xs (rNeA K) (dOp neD) := dOp_ok fun ec δ s t x y d Ψ e1 e2 h k => by
  unfold neD at h
  rw [Option.map_eq_some_iff] at h
  obtain ⟨b, h, rfl⟩ := h
  unfold eqB at h
  split at h
  · rename_i b' q
    cases h
    refine ow_l ?_
    intro σ I as H Q v w r h1 h2 c
    obtain ⟨g1, g2⟩ := scB_ok q (r.dv e1 h1) (r.dv e2 h2)
    exact ⟨g1, by rw [g2]; exact c (.im (.bl (!b))) δ _ I as H r (Le.refl I as) rfl k⟩
  refine ow_r ?_
  intro σ I as H Q v w r h1 h2 c
  obtain ⟨p, q, d1, d2, s1, s2, e⟩ := deB_ok r e1 e2 h h1 h2
  exact ⟨p, q, d1, d2, s1, s2, by rw [e]; exact c (.im (.bl (!b))) δ _ I as H r (Le.refl I as) rfl k⟩
theorem ok_is : OpOk K xs rIsA (dOp isD) := dOp_ok fun ec δ s t x y d Ψ e1 e2 h k => by
  unfold isD at h
  split at h
  · cases h; exact ow_l (ow_isN e1 e2 k)
  · rename_i a b
    cases h
    refine ow_r ?_
    intro σ I as H Q v w r h1 h2 c
    exact ⟨a, b, r.dv e1 h1, r.dv e2 h2, c (.im (.bl _)) δ _ I as H r (Le.refl I as) rfl k⟩
  · cases h
theorem ok_isnot : OpOk K xs rNotA (dOp isnotD) := dOp_ok fun ec δ s t x y d Ψ e1 e2 h k => by
  unfold isnotD at h
  split at h
  · cases h; exact ow_l (ow_notN e1 e2 k)
  · rename_i a b
    cases h
    refine ow_r ?_
    intro σ I as H Q v w r h1 h2 c
    exact ⟨a, b, r.dv e1 h1, r.dv e2 h2, c (.im (.bl _)) δ _ I as H r (Le.refl I as) rfl k⟩
  · cases h
theorem flat_of {H : Hp} {x : D} {v : V} (f : flatD x = true) (h : Rep K H x v) : flatV v = true := by
  cases x <;> first | exact absurd (show false = true from f) Bool.false_ne_true | (cases (show v = _ from h); rfl)
theorem eqF_of {H : Hp} {x y : D} {v w : V} (fx : flatD x = true) (fy : flatD y = true) (hx : Rep K H x v) (hy : Rep K H y w) : eqV v w = eqF x y := by
  cases x <;> first
    | exact absurd (show false = true from fx) Bool.false_ne_true
    | (cases (show v = _ from hx)
       cases y <;> first
         | exact absurd (show false = true from fy) Bool.false_ne_true
         | (cases (show w = _ from hy); rfl))
theorem inF_of {H : Hp} {x : D} {v : V} (fx : flatD x = true) (hx : Rep K H x v) : ∀ {xs : List D} {vs : List V}, xs.all flatD = true → RepL K H xs vs → inV v vs = inF x xs ∧ vs.all flatV = true
  | [], vs, _, h => by rw [show vs = [] from h]; exact ⟨rfl, rfl⟩
  | y :: ys, _, f, ⟨u, r, e, h1, h2⟩ => by
    subst e
    have f' : (flatD y && ys.all flatD) = true := f
    rw [Bool.and_eq_true] at f'
    obtain ⟨g1, g2⟩ := inF_of fx hx f'.2 h2
    refine ⟨?_, ?_⟩
    · show (eqV u v || inV v r) = (eqF y x || inF x ys)
      rw [eqF_of f'.1 fx h1 hx, g1]
    · show (flatV u && r.all flatV) = true
      rw [flat_of f'.1 h1, g2]; rfl
theorem lookV {I : Hp} {k : Key} : ∀ {kds : List (Key × D)} {kvs : List (Key × V)}, RepK K I kds kvs → (valV kvs k).isSome = (lookD kds k).isSome
  | [], kvs, h => by rw [show kvs = [] from h]; rfl
  | (j, x) :: ds, _, ⟨v, r, e1, h, hr⟩ => by
    subst e1
    by_cases hk : j = k
    · subst hk; simp [lookD, valV]
    · rw [valV_neg (p := (j, v)) hk]
      have : lookD ((j, x) :: ds) k = lookD ds k := by simp [lookD, List.find?_cons, hk]
      rw [this]; exact lookV hr
theorem in_any {neg : Bool} {ec : EC} {δ : Sta} {s t : SV} {x y : D} {b : Bool} {Ψ : SV → Sta → Prop} (e1 : dv δ.ce s = some x) (e2 : dv δ.ce t = some y) (h : inB x y = some b) (k : Ψ (.im (.bl (if neg then !b else b))) δ) :
    OpW K ec (fun x y H Q => rIn K neg x y H Q ∨ ((∃ i j, x = .str i ∧ y = .str j ∧ Q (.bl (if neg then !(!(Builtin.Str.occurrences j i 0 j.length 1).isEmpty) else !(Builtin.Str.occurrences j i 0 j.length 1).isEmpty)) H) ∨ rInDc neg x y H Q)) s t Ψ δ := by
  intro σ I as H Q v w r h1 h2 c
  have hx := r.dv e1 h1
  unfold inB at h
  split at h
  · rename_i ys
    split at h
    · rename_i hf
      cases h
      obtain ⟨a, vs, rfl, ha, ra⟩ := r.dv e2 h2
      obtain ⟨g1, g2⟩ := inF_of hf.1 hx hf.2 ra
      exact .inl ⟨a, vs, rfl, .inl (SqL.of ha), flat_of hf.1 hx, g2, by rw [g1]; exact c (.im (.bl _)) δ _ I as H r (Le.refl I as) rfl k⟩
    · cases h
  · rename_i ys
    split at h
    · rename_i hf
      cases h
      obtain ⟨a, vs, rfl, ha, ra⟩ := r.dv e2 h2
      obtain ⟨g1, g2⟩ := inF_of hf.1 hx hf.2 ra
      exact .inl ⟨a, vs, rfl, .inr ha, flat_of hf.1 hx, g2, by rw [g1]; exact c (.im (.bl _)) δ _ I as H r (Le.refl I as) rfl k⟩
    · cases h
  · rename_i z
    split at h
    · rename_i z'
      cases h
      exact .inr (.inl ⟨z', z, hx, r.dv e2 h2, c (.im (.bl _)) δ _ I as H r (Le.refl I as) rfl k⟩)
    · cases h
  · rename_i kds
    split at h
    · rename_i kk hk
      cases h
      obtain ⟨a, kvs, rfl, ha, ra⟩ := r.dvK e2 h2
      have ew : v = kV kk := rep_key hk hx
      subst ew
      exact .inr (.inr ⟨a, _, rfl, .inl ⟨kvs, kk, ha, rfl, rfl⟩, by rw [lookV ra]; exact c (.im (.bl _)) δ _ I as H r (Le.refl I as) rfl k⟩)
    · cases h
  · cases h
theorem ok_in : OpOk K xs (rInA K) (dOp inD) := dOp_ok fun ec δ s t x y d Ψ e1 e2 h k => by
  unfold inD at h
  rw [Option.map_eq_some_iff] at h
  obtain ⟨b, h, rfl⟩ := h
  exact in_any (neg := false) e1 e2 h k
theorem ok_notin : OpOk K xs (rNotInA K) (dOp notinD) := dOp_ok fun ec δ s t x y d Ψ e1 e2 h k => by
  unfold notinD at h
  rw [Option.map_eq_some_iff] at h
  obtain ⟨b, h, rfl⟩ := h
  exact in_any (neg := true) e1 e2 h k
end
end Fx

set_option Elab.async false
set_option linter.all false
set_option autoImplicit false
set_option maxRecDepth 100000
set_option maxHeartbeats 2000000
namespace Fx
open PySem L2
/-! ## equality of data and cells, as a test -/
mutual
def beqD : D → D → Bool
  | .non, .non => true
  | .bl a, .bl b => a == b
  | .int a, .int b => a == b
  | .str a, .str b => a == b
  | .ty a, .ty b => a == b
  | .glo a, .glo b => a == b
  | .lst a, .lst b => beqL a b
  | .tup a, .tup b => beqL a b
  | .dic a, .dic b => beqK a b
  | .ins C a, .ins C' b => C == C' && beqF a b
  | .slf C a, .slf C' b => C == C' && beqF a b
  | .me, .me => true
  | .scr a, .scr b => a == b
  | _, _ => false
def beqL : List D → List D → Bool
  | [], [] => true
  | a :: as, b :: bs => beqD a b && beqL as bs
  | _, _ => false
def beqK : List (Key × D) → List (Key × D) → Bool
  | [], [] => true
  | (k, a) :: as, (j, b) :: bs => decide (k = j) && (beqD a b && beqK as bs)
  | _, _ => false
def beqF : List (Str × D) → List (Str × D) → Bool
  | [], [] => true
  | (k, a) :: as, (j, b) :: bs => k == j && (beqD a b && beqF as bs)
  | _, _ => false
end
theorem and2 {a b : Bool} (h : (a && b) = true) : a = true ∧ b = true := Bool.and_eq_true_iff.mp h
mutual
theorem beqD_eq : ∀ {x y : D}, beqD x y = true → x = y
  | .non, y, h => by cases y <;> first | rfl | (simp only [beqD] at h; cases h)
  | .bl a, y, h => by cases y <;> first | (simp only [beqD, beq_iff_eq] at h; rw [h]; done) | (simp only [beqD] at h; cases h)
  | .int a, y, h => by cases y <;> first | (simp only [beqD, beq_iff_eq] at h; rw [h]; done) | (simp only [beqD] at h; cases h)
  | .str a, y, h => by cases y <;> first | (simp only [beqD, beq_iff_eq] at h; rw [h]; done) | (simp only [beqD] at h; cases h)
  | .ty a, y, h => by cases y <;> first | (simp only [beqD, beq_iff_eq] at h; rw [h]; done) | (simp only [beqD] at h; cases h)
  | .glo a, y, h => by cases y <;> first | (simp only [beqD, beq_iff_eq] at h; rw [h]; done) | (simp only [beqD] at h; cases h)
  | .lst a, y, h => by cases y <;> first | (simp only [beqD] at h; rw [beqL_eq h]; done) | (simp only [beqD] at h; cases h)
  | .tup a, y, h => by cases y <;> first | (simp only [beqD] at h; rw [beqL_eq h]; done) | (simp only [beqD] at h; cases h)
  | .dic a, y, h => by cases y <;> first | (simp only [beqD] at h; rw [beqK_eq h]; done) | (simp only [beqD] at h; cases h)
  | .ins C a, y, h => by cases y <;> first | (simp only [beqD] at h; obtain ⟨h1, h2⟩ := and2 h; rw [beqF_eq h2, eq_of_beq h1]; done) | (simp only [beqD] at h; cases h)
  | .slf C a, y, h => by cases y <;> first | (simp only [beqD] at h; obtain ⟨h1, h2⟩ := and2 h; rw [beqF_eq h2, eq_of_beq h1]; done) | (simp only [beqD] at h; cases h)
  | .me, y, h => by cases y <;> first | rfl | (simp only [beqD] at h; cases h)
  | .scr a, y, h => by cases y <;> first | (simp only [beqD, beq_iff_eq] at h; rw [h]; done) | (simp only [beqD] at h; cases h)
theorem beqL_eq : ∀ {x y : List D}, beqL x y = true → x = y
  | [], [], _ => rfl
  | [], _ :: _, h => by simp only [beqL] at h; cases h
  | _ :: _, [], h => by simp only [beqL] at h; cases h
  | a :: as, b :: bs, h => by
    simp only [beqL] at h
    obtain ⟨h1, h2⟩ := and2 h
    rw [beqD_eq h1, beqL_eq h2]
theorem beqK_eq : ∀ {x y : List (Key × D)}, beqK x y = true → x = y
  | [], [], _ => rfl
  | [], _ :: _, h => by simp only [beqK] at h; cases h
  | (_, _) :: _, [], h => by simp only [beqK] at h; cases h
  | (k, a) :: as, (j, b) :: bs, h => by
    simp only [beqK] at h
    obtain ⟨h0, h⟩ := and2 h
    obtain ⟨h1, h2⟩ := and2 h
    rw [beqD_eq h1, beqK_eq h2, of_decide_eq_true h0]
theorem beqF_eq : ∀ {x y : List (Str × D)}, beqF x y = true → x = y
  | [], [], _ => rfl
  | [], _ :: _, h => by simp only [beqF] at h; cases h
  | (_, _) :: _, [], h => by simp only [beqF] at h; cases h
  | (k, a) :: as, (j, b) :: bs, h => by
    simp only [beqF] at h
    obtain ⟨h0, h⟩ := and2 h
    obtain ⟨h1, h2⟩ := and2 h
    rw [beqD_eq h1, beqF_eq h2, eq_of_beq h0]
end
mutual
theorem beqD_refl : ∀ x : D, beqD x x = true
  | .non => by simp only [beqD]
  | .bl a => by simp only [beqD, beq_self_eq_true]
  | .int a => by simp only [beqD, beq_self_eq_true]
  | .str a => by simp only [beqD, beq_self_eq_true]
  | .ty a => by simp only [beqD, beq_self_eq_true]
  | .glo a => by simp only [beqD, beq_self_eq_true]
  | .lst a => by simp only [beqD, beqL_refl a]
  | .tup a => by simp only [beqD, beqL_refl a]
  | .dic a => by simp only [beqD, beqK_refl a]
  | .ins C a => by simp only [beqD, beqF_refl a, beq_self_eq_true, Bool.and_self]
  | .slf C a => by simp only [beqD, beqF_refl a, beq_self_eq_true, Bool.and_self]
  | .me => by simp only [beqD]
  | .scr a => by simp only [beqD, beq_self_eq_true]
theorem beqL_refl : ∀ x : List D, beqL x x = true
  | [] => by simp only [beqL]
  | a :: as => by simp only [beqL, beqD_refl a, beqL_refl as, Bool.and_self]
theorem beqK_refl : ∀ x : List (Key × D), beqK x x = true
  | [] => by simp only [beqK]
  | (k, a) :: as => by simp only [beqK, beqD_refl a, beqK_refl as, Bool.and_self, decide_true]
theorem beqF_refl : ∀ x : List (Str × D), beqF x x = true
  | [] => by simp only [beqF]
  | (k, a) :: as => by simp only [beqF, beqD_refl a, beqF_refl as, Bool.and_self, beq_self_eq_true]
end
instance : DecidableEq D := fun x y => if h : beqD x y = true then .isTrue (beqD_eq h) else .isFalse fun e => h (e ▸ beqD_refl x)
def beqSV : SV → SV → Bool
  | .no, .no => true
  | .im a, .im b => decide (a = b)
  | .cl a, .cl b => decide (a = b)
  | _, _ => false
theorem beqSV_eq {x y : SV} (h : beqSV x y = true) : x = y := by cases x <;> cases y <;> simp_all [beqSV]
theorem beqSV_refl (x : SV) : beqSV x x = true := by cases x <;> simp [beqSV]
instance : DecidableEq SV := fun x y => if h : beqSV x y = true then .isTrue (beqSV_eq h) else .isFalse fun e => h (e ▸ beqSV_refl x)
def beqCO : CO → CO → Bool
  | .lst a, .lst b => decide (a = b)
  | .tup a, .tup b => decide (a = b)
  | .dic a, .dic b => decide (a = b)
  | .ins C a, .ins D b => decide (C = D) && decide (a = b)
  | .exc C a, .exc D b => decide (C = D) && decide (a = b)
  | .fz a, .fz b => decide (a = b)
  | .dead, .dead => true
  | _, _ => false
theorem beqCO_eq {x y : CO} (h : beqCO x y = true) : x = y := by cases x <;> cases y <;> simp_all [beqCO]
theorem beqCO_refl (x : CO) : beqCO x x = true := by cases x <;> simp [beqCO]
instance : DecidableEq CO := fun x y => if h : beqCO x y = true then .isTrue (beqCO_eq h) else .isFalse fun e => h (e ▸ beqCO_refl x)
/-! ## cells at the end dropped -/
def okAll (k : Nat) : List CO → List CO → Bool
  | [], _ => true
  | _ :: _, [] => false
  | a :: as, b :: bs => (decide (a = b) || b.bnd k) && okAll k as bs
theorem okAll_self (k : Nat) : ∀ l : List CO, okAll k l l = true
  | [] => rfl
  | a :: as => by simp [okAll, okAll_self k as]
theorem okAll_app (k : Nat) : ∀ (l l' m : List CO), okAll k l l' = true → okAll k l (l' ++ m) = true
  | [], _, _, _ => rfl
  | _ :: _, [], _, h => by cases h
  | a :: as, b :: bs, m, h => by
    have h' : ((decide (a = b) || b.bnd k) && okAll k as bs) = true := h
    obtain ⟨h1, h2⟩ := and2 h'
    show ((decide (a = b) || b.bnd k) && okAll k as (bs ++ m)) = true
    rw [h1, okAll_app k as bs m h2]; rfl
theorem okAll_bnd {k : Nat} : ∀ {l l' : List CO}, okAll k l l' = true → l.all (CO.bnd k) = true → (l'.take l.length).all (CO.bnd k) = true
  | [], _, _, _ => by simp
  | _ :: _, [], h, _ => by cases h
  | a :: as, b :: bs, h, hl => by
    obtain ⟨h1, h2⟩ := and2 (show ((decide (a = b) || b.bnd k) && okAll k as bs) = true from h)
    obtain ⟨g1, g2⟩ := and2 (show (a.bnd k && as.all (CO.bnd k)) = true from hl)
    show (b.bnd k && (bs.take as.length).all (CO.bnd k)) = true
    rw [okAll_bnd h2 g2, Bool.and_true]
    rcases Bool.or_eq_true_iff.mp h1 with h1 | h1
    · rw [← of_decide_eq_true h1]; exact g1
    · exact h1
def cutTo (ce0 ce' : List CO) : Option (List CO) := if ce'.length ≤ ce0.length then some ce' else if okAll ce0.length ce0 ce' = true then some (ce'.take ce0.length) else none
theorem cutTo_self (ce : List CO) : cutTo ce ce = some ce := if_pos (Nat.le_refl _)
section
variable {K : PySem.W.Frag} {ec : EC} {δ : Sta} {σ σ' : L2.St} {I I' : Hp} {as as' : List Addr} {H H' : Hp}
theorem RV.take {k : Nat} {s : SV} {v : V} (hb : s.bnd k = true) (h : RV K I as s v) : RV K I (as.take k) s v := h.cut hb
theorem R.cutTo {sl : List SV} {ce' ce'' : List CO} (r0 : R K ec δ σ I as H) (r : R K ec ⟨sl, ce'⟩ σ' I' as' H') (le : Le I as I' as') (h : Fx.cutTo δ.ce ce' = some ce'') :
    R K ec ⟨sl.map (cutS ce''.length), ce''⟩ σ' I' (as'.take ce''.length) H' ∧ Le I as I' (as'.take ce''.length) ∧ ce''.length ≤ ce'.length ∧ ce'.take ce''.length = ce'' ∧ δ.ce.length ≤ ce''.length := by
  have hlen : δ.ce.length ≤ ce'.length := by
    rw [← r0.clen, ← r.clen]
    rcases Nat.lt_or_ge as'.length as.length with h | h
    · obtain ⟨x, hx⟩ := get_of_lt h
      have := lt_of_get (le.a _ _ hx)
      omega
    · exact h
  unfold Fx.cutTo at h
  split at h
  · rename_i hl
    cases h
    have z := R.cut (k := ce'.length) r (by rw [List.take_length]; exact r.bndAll)
    rw [List.take_length] at z
    exact ⟨z, le.cut (by rw [r0.clen]; exact hlen), Nat.le_refl _, List.take_length, hlen⟩
  · split at h
    · rename_i hl ho
      cases h
      have hb := okAll_bnd ho r0.bndAll
      have e : (ce'.take δ.ce.length).length = δ.ce.length := by rw [List.length_take]; omega
      rw [e]
      exact ⟨R.cut (k := δ.ce.length) r hb, le.cut (Nat.le_of_eq r0.clen), by omega, rfl, Nat.le_refl _⟩
    · cases h
end
/-! ## defs -/
abbrev Fn := List SV → List CO → Out (List CO) SV
/-- a value goes out; what was made within is data, or dropped -/
def retF (ce0 : List CO) (s : SV) (ce' : List CO) : Out (List CO) SV := match s with
  | .no => .bad
  | .im d => match cutTo ce0 ce' with
    | some ce2 => .ok (.im d) ce2
    | none => .ok (.im d) ce'
  | .cl c => if c < ce0.length then (match cutTo ce0 ce' with
      | some ce2 => .ok (.cl c) ce2
      | none => .ok (.cl c) ce') else match frz ce' c with
    | some (d, ce1) => (match cutTo ce0 ce1 with
      | some ce2 => .ok (.im d) ce2
      | none => .ok (.im d) ce1)
    | none => .ok (.cl c) ce'
/-- a new cell goes out as it is -/
def retC (ce0 : List CO) (s : SV) (ce' : List CO) : Out (List CO) SV := match s with
  | .cl c => if ce0.length ≤ c then (match ce'[c]? with
      | some co => if co.bnd ce0.length = true ∧ okAll ce0.length ce0 ce' = true then .ok (.cl ce0.length) (ce'.take ce0.length ++ [co]) else .ok (.cl c) ce'
      | none => .bad) else retF ce0 s ce'
  | s => retF ce0 s ce'
def exF (ce0 : List CO) (x : Xn) (ce' : List CO) : Out (List CO) SV := match cutTo ce0 ce' with
  | some ce2 => if (x.fs.all fun p => p.2.bnd ce2.length) = true then .ex x ce2 else .ex x ce'
  | none => .ex x ce'
section
variable {K : PySem.W.Frag} {ec : EC} {δ : Sta} {σ σ' : L2.St} {I I' : Hp} {as as' : List Addr} {H H' : Hp}
theorem le_len (r0 : R K ec δ σ I as H) {ce' : List CO} (r : R K ec ⟨[], ce'⟩ σ' I' as' H') (le : Le I as I' as') : δ.ce.length ≤ ce'.length := by
  rw [← r0.clen, ← r.clen]
  rcases Nat.lt_or_ge as'.length as.length with h | h
  · obtain ⟨x, hx⟩ := get_of_lt h
    have := lt_of_get (le.a _ _ hx)
    omega
  · exact h
/-- what is wanted of a def's end -/
structure FEnd (K : PySem.W.Frag) (ec : EC) (I : Hp) (as : List Addr) (Q : VK) (E : XK) (o : Out (List CO) SV) : Prop where
  go : o.sat (fun s ce' => ∀ v I' as' H', R K ec ⟨[], ce'⟩ [] I' as' H' → Le I as I' as' → RV K I' as' s v → Q v H') (fun x ce' => ∀ d I' as' H', R K ec ⟨[], ce'⟩ [] I' as' H' → Le I as I' as' → XRel K I' as' x.fs d → E (x.cls.v K) d H')
theorem retF_ok {Q : VK} {E : XK} {s : SV} {ce' : List CO} {v : V} (r0 : R K ec δ σ I as H) (e : FEnd K ec I as Q E (retF δ.ce s ce')) (r : R K ec ⟨[], ce'⟩ [] I' as' H') (le : Le I as I' as') (rv : RV K I' as' s v) : Q v H' := by
  have e := e.go
  unfold retF at e
  cases s with
  | no => exact e.elim
  | im d =>
    dsimp only at e
    split at e
    · rename_i ce2 q
      obtain ⟨r2, l2, _⟩ := r0.cutTo r le q
      exact e v I' _ H' r2 l2 rv
    · exact e v I' as' H' r le rv
  | cl c =>
    dsimp only at e
    split at e
    · rename_i hc
      split at e
      · rename_i ce2 q
        obtain ⟨r2, l2, _, _, hl⟩ := r0.cutTo r le q
        exact e v I' _ H' r2 l2 (rv.take (decide_eq_true (Nat.lt_of_lt_of_le hc hl)))
      · exact e v I' as' H' r le rv
    · split at e
      · rename_i d ce1 qf
        obtain ⟨I2, r1, l1, rep⟩ := R.frz r qf
        obtain ⟨a, ha, rfl⟩ := rv
        have rep := rep a ha
        split at e
        · rename_i ce2 q
          obtain ⟨r2, l2, _⟩ := r0.cutTo r1 (le.trans l1) q
          exact e _ I2 _ H' r2 l2 rep
        · exact e _ I2 as' H' r1 (le.trans l1) rep
      · exact e v I' as' H' r le rv
theorem R.pick {sl : List SV} {ce : List CO} (r : R K ec ⟨sl, ce⟩ σ I as H) {k c : Nat} {co : CO} {a : Addr} (hk : k ≤ c) (hc : ce[c]? = some co) (ha : as[c]? = some a) (hb : (ce.take k).all (CO.bnd k) = true) (hco : co.bnd k = true) : R K ec ⟨[], ce.take k ++ [co]⟩ [] I (as.take k ++ [a]) H := by
  have hcl : c < ce.length := lt_of_get hc
  have lk : (ce.take k).length = k := by rw [List.length_take]; omega
  have al : as.length = ce.length := r.clen
  have lk' : (as.take k).length = k := by rw [List.length_take, al]; omega
  have cut : ∀ (d : Nat) (o : CO) (b : Addr), (ce.take k ++ [co])[d]? = some o → (as.take k ++ [a])[d]? = some b → (d < k ∧ ce[d]? = some o ∧ as[d]? = some b) ∨ (d = k ∧ o = co ∧ b = a) := fun d o b h1 h2 => by
    by_cases hd : d < k
    · rw [List.getElem?_append_left (by omega)] at h1 h2
      exact .inl ⟨hd, (take_get.mp h1).2, (take_get.mp h2).2⟩
    · rw [List.getElem?_append_right (by omega), lk] at h1
      rw [List.getElem?_append_right (by omega), lk'] at h2
      have e : d = k := by
        have := lt_of_get h1
        simp at this; omega
      subst e
      simp at h1 h2
      exact .inr ⟨rfl, h1.symm, h2.symm⟩
  have le : Le I (as.take k) I (as.take k ++ [a]) := ⟨Same.refl I, fun d x h => by rw [List.getElem?_append_left (lt_of_get h)]; exact h⟩
  have mv : ∀ (o : CO) (b : Addr), o.bnd k = true → CellOk K ec I as H b o → CellOk K ec I (as.take k ++ [a]) H b o := fun o b h1 h2 => CellOk.mono (h2.cut h1) le (fun l => (CellOk.free l h2).1) (fun _ _ h => h)
  refine ⟨r.fh, fun d o b h1 h2 l => ?_, r.fi, r.ih, rfl, fun i s h => by simp at h, by simp [al], fun d o b h1 h2 => ?_, fun d d' o o' b h1 h2 l1 l2 h3 h4 => ?_⟩
  · rcases cut d o b h1 h2 with ⟨_, g1, g2⟩ | ⟨_, rfl, rfl⟩
    · exact r.cf d o b g1 g2 l
    · exact r.cf c _ _ hc ha l
  · rcases cut d o b h1 h2 with ⟨hd, g1, g2⟩ | ⟨_, rfl, rfl⟩
    · exact mv o b (List.all_eq_true.mp hb o (List.mem_of_getElem? (take_get.mpr ⟨hd, g1⟩))) (r.cells d o b g1 g2)
    · exact mv _ _ hco (r.cells c _ _ hc ha)
  · rcases cut d o b h1 h3 with ⟨hd, g1, g2⟩ | ⟨hd, rfl, rfl⟩
    · rcases cut d' o' b h2 h4 with ⟨hd', g1', g2'⟩ | ⟨hd', rfl, rfl⟩
      · exact r.inj d d' o o' b g1 g1' l1 l2 g2 g2'
      · have := r.inj d c _ _ _ g1 hc l1 l2 g2 ha; omega
    · rcases cut d' o' _ h2 h4 with ⟨hd', g1', g2'⟩ | ⟨hd', _, _⟩
      · have := r.inj c d' _ _ _ hc g1' l1 l2 ha g2'; omega
      · omega
theorem retC_ok {Q : VK} {E : XK} {s : SV} {ce' : List CO} {v : V} (r0 : R K ec δ σ I as H) (e : FEnd K ec I as Q E (retC δ.ce s ce')) (r : R K ec ⟨[], ce'⟩ [] I' as' H') (le : Le I as I' as') (rv : RV K I' as' s v) : Q v H' := by
  have e' := e.go
  unfold retC at e'
  cases s with
  | no => exact retF_ok r0 ⟨e'⟩ r le rv
  | im d => exact retF_ok r0 ⟨e'⟩ r le rv
  | cl c =>
    dsimp only at e'
    split at e'
    · rename_i hc
      split at e'
      · rename_i co q
        split at e'
        · rename_i hh
          obtain ⟨a, ha, rfl⟩ := rv
          have hb := okAll_bnd hh.2 r0.bndAll
          have lk : (as'.take δ.ce.length).length = δ.ce.length := by
            have := lt_of_get ha
            rw [List.length_take]; omega
          refine e' _ I' (as'.take δ.ce.length ++ [a]) H' (R.pick r hc q ha hb hh.1) ⟨le.i, fun d x h => ?_⟩ ⟨a, ?_, rfl⟩
          · have hd : d < δ.ce.length := by rw [← r0.clen]; exact lt_of_get h
            rw [List.getElem?_append_left (by omega)]
            exact take_get.mpr ⟨hd, le.a d x h⟩
          · rw [List.getElem?_append_right (by omega), lk]; simp
        · exact e' v I' as' H' r le rv
      · exact e'.elim
    · exact retF_ok r0 ⟨e'⟩ r le rv
theorem exF_ok {Q : VK} {E : XK} {x : Xn} {ce' : List CO} {d : Option Addr} (r0 : R K ec δ σ I as H) (e : FEnd K ec I as Q E (exF δ.ce x ce')) (r : R K ec ⟨[], ce'⟩ [] I' as' H') (le : Le I as I' as') (xr : XRel K I' as' x.fs d) : E (x.cls.v K) d H' := by
  have e := e.go
  unfold exF at e
  split at e
  · rename_i ce2 q
    split at e
    · rename_i hb
      obtain ⟨r2, l2, _⟩ := r0.cutTo r le q
      exact e d I' _ H' r2 l2 (xr.cut hb)
    · exact e d I' as' H' r le xr
  · exact e d I' as' H' r le xr
end
/-! ## statements -/
inductive OutS where
  | nx (δ : Sta) | rt (s : SV) (δ : Sta) | bk (δ : Sta) | ct (δ : Sta) | ex (x : Xn) (δ : Sta) | bad
abbrev AS := Sta → OutS
def OutS.sat : OutS → Post → Prop
  | .nx δ, Φ => Φ.nx δ
  | .rt s δ, Φ => Φ.rt s δ
  | .bk δ, Φ => Φ.bk δ
  | .ct δ, Φ => Φ.ct δ
  | .ex x δ, Φ => Φ.ex x δ
  | .bad, _ => False
def SS (K : PySem.W.Frag) (xs : Xs) (W : WX) (ts : TS) (a : AS) : Prop := ∀ fr δ Φ, (a δ).sat Φ → WS K ⟨xs, fr⟩ W ts Φ δ
/-- a def: its slots, its body -/
def aDef (n : Nat) (body : AS) : Fn := fun ss ce => match body ⟨ss ++ List.replicate (n - ss.length) .no, ce⟩ with
  | .nx δ => retF ce (.im .non) δ.ce
  | .rt s δ => retF ce s δ.ce
  | .ex x δ => exF ce x δ.ce
  | _ => .bad
/-- .. that gives out a new cell -/
def aDefC (n : Nat) (body : AS) : Fn := fun ss ce => match body ⟨ss ++ List.replicate (n - ss.length) .no, ce⟩ with
  | .nx δ => retF ce (.im .non) δ.ce
  | .rt s δ => retC ce s δ.ce
  | .ex x δ => exF ce x δ.ce
  | _ => .bad
/-- a def's promise -/
def spFn (K : PySem.W.Frag) (n : Nat) (F : Fn) : Sp := fun vs H Q E => vs.length = n ∧ ∃ (xs : Xs) (fr : Hp) (ss : List SV) (ce : List CO) (as : List Addr) (I : Hp), R K ⟨xs, fr⟩ ⟨[], ce⟩ [] I as H ∧ RVL K I as ss vs ∧ FEnd K ⟨xs, fr⟩ I as Q E (F ss ce)
section
variable {P : Program} {w : World} {K : PySem.W.Frag} {mg : Str → Option Value} {base : Heap} {x qual : Str} {params : Arguments} {body : List Stmt} {scope : Scope} {dvs : List V} {kws : List (Str × V)} {f : Addr} {fd : FuncData}
theorem start_slots {I : Hp} {as : List Addr} : ∀ {ss : List SV} {vs : List V} {n : Nat}, RVL K I as ss vs → ∀ (i : Nat) (s : SV), (ss ++ List.replicate n .no)[i]? = some s → s = .no ∨ ∃ v, (vs.map some ++ List.replicate n none)[i]? = some (some v) ∧ RV K I as s v
  | [], vs, n, h, i, s, e => by
    rw [show vs = [] from h]
    simp only [List.nil_append] at e
    exact .inl (List.eq_of_mem_replicate (List.mem_of_getElem? e))
  | t :: ts, vs, n, ⟨v, r, h1, h2, h3⟩, 0, s, e => by
    subst h1
    simp at e
    subst e
    exact .inr ⟨v, rfl, h2⟩
  | t :: ts, vs, n, ⟨v, r, h1, h2, h3⟩, i + 1, s, e => by
    subst h1
    have := start_slots (n := n) h3 i s (by simpa using e)
    simpa using this
theorem body_ok {xs : Xs} {fr : Hp} {E : XK} {t : TS} {a : AS} {N : List Str} {vs : List V} {ss : List SV} {ce : List CO} {as : List Addr} {I H : Hp} {Q : VK} (hs : SS K xs (fun cls d _ H => E cls d H) t a) (hlen : ss.length ≤ N.length)
    (r : R K ⟨xs, fr⟩ ⟨[], ce⟩ [] I as H) (rv : RVL K I as ss vs) (ret : List CO → SV → List CO → Out (List CO) SV)
    (hret : ∀ {s : SV} {ce' : List CO} {v : V} {I' : Hp} {as' : List Addr} {H' : Hp}, FEnd K ⟨xs, fr⟩ I as Q E (ret ce s ce') → R K ⟨xs, fr⟩ ⟨[], ce'⟩ [] I' as' H' → Le I as I' as' → RV K I' as' s v → Q v H')
    (e : FEnd K ⟨xs, fr⟩ I as Q E (match a ⟨ss ++ List.replicate (N.length - ss.length) .no, ce⟩ with
      | .nx δ => retF ce (.im .non) δ.ce
      | .rt s δ => ret ce s δ.ce
      | .ex x δ => exF ce x δ.ce
      | _ => .bad)) : t { nx := fun _ H' => Q .non H', rt := Q } (L2.start N vs) H := by
  have hl := rv.length
  have r1 : R K ⟨xs, fr⟩ ⟨ss ++ List.replicate (N.length - ss.length) .no, ce⟩ (L2.start N vs) I as H := by
    refine ⟨r.fh, r.cf, r.fi, r.ih, ?_, fun i s e => ?_, r.clen, r.cells, r.inj⟩
    · simp [L2.start, hl]
    · have := start_slots rv i s e
      show s = .no ∨ ∃ v, (vs.map some ++ List.replicate (N.length - vs.length) none)[i]? = some (some v) ∧ RV K I as s v
      rw [hl]; exact this
  let Φ : Post := { nx := fun δ => FEnd K ⟨xs, fr⟩ I as Q E (retF ce (.im .non) δ.ce), rt := fun s δ => FEnd K ⟨xs, fr⟩ I as Q E (ret ce s δ.ce), ex := fun x δ => FEnd K ⟨xs, fr⟩ I as Q E (exF ce x δ.ce) }
  refine hs fr _ Φ ?_ (L2.start N vs) I as H _ r1 ⟨fun δ' σ' I' as' H' r' l' k => ?_, fun s δ' σ' v I' as' H' r' l' rv' k => ?_, fun _ _ _ _ _ _ _ k => k.elim, fun _ _ _ _ _ _ _ k => k.elim, fun x δ' σ' d I' as' H' r' l' z k => ?_⟩
  · cases q : a ⟨ss ++ List.replicate (N.length - ss.length) .no, ce⟩ with
    | nx δ => rw [q] at e; exact e
    | rt s δ => rw [q] at e; exact e
    | ex x δ => rw [q] at e; exact e
    | bk δ => rw [q] at e; exact e.go
    | ct δ => rw [q] at e; exact e.go
    | bad => rw [q] at e; exact e.go
  · exact retF_ok (δ := ⟨[], ce⟩) r k r'.bare l' (show RV K I' as' (.im .non) .non from rfl)
  · exact hret k r'.bare l' rv'
  · exact exF_ok (δ := ⟨[], ce⟩) r k r'.bare l' z
theorem fn_ok {N ps : List Str} {k : Nat} {a : AS} (F : FunD K x qual params body scope dvs kws f fd) (S : FnScope N ps scope) (hps : ps.length ≤ N.length)
    (hb : ∀ (cdv : Value) (Ar : Around) (outer : List Env) (s : Shared) (H : Hp) (E : XK) (xs : Xs), RoomG k (Ar.deeper (PyProof.Rows.envOfC qual scope s.heap.objs.size f cdv)) →
      ∃ t, PSs (cxOf (CX P w) P w K mg base N qual scope f cdv Ar outer s H E) body t ∧ SS K xs (fun cls d _ H => E cls d H) t a) : FnG P w K mg base (CX P w) (k + 1) f fd ps (spFn K ps.length (aDef N.length a)) := by
  refine okG F S (fun vs H Q E h => h.1) fun cdv Ar outer s H vs Q E hr h => ?_
  obtain ⟨hl, xs, fr, ss, ce, as, I, r, rv, e⟩ := h
  obtain ⟨t, h1, h2⟩ := hb cdv Ar outer s H E xs hr
  exact ⟨t, h1, body_ok h2 (by rw [← rv.length, hl]; exact hps) r rv retF (fun e r' l rv => retF_ok (δ := ⟨[], ce⟩) r e r' l rv) e⟩
theorem fn_okC {N ps : List Str} {k : Nat} {a : AS} (F : FunD K x qual params body scope dvs kws f fd) (S : FnScope N ps scope) (hps : ps.length ≤ N.length)
    (hb : ∀ (cdv : Value) (Ar : Around) (outer : List Env) (s : Shared) (H : Hp) (E : XK) (xs : Xs), RoomG k (Ar.deeper (PyProof.Rows.envOfC qual scope s.heap.objs.size f cdv)) →
      ∃ t, PSs (cxOf (CX P w) P w K mg base N qual scope f cdv Ar outer s H E) body t ∧ SS K xs (fun cls d _ H => E cls d H) t a) : FnG P w K mg base (CX P w) (k + 1) f fd ps (spFn K ps.length (aDefC N.length a)) := by
  refine okG F S (fun vs H Q E h => h.1) fun cdv Ar outer s H vs Q E hr h => ?_
  obtain ⟨hl, xs, fr, ss, ce, as, I, r, rv, e⟩ := h
  obtain ⟨t, h1, h2⟩ := hb cdv Ar outer s H E xs hr
  exact ⟨t, h1, body_ok h2 (by rw [← rv.length, hl]; exact hps) r rv retC (fun e r' l rv => retC_ok (δ := ⟨[], ce⟩) r e r' l rv) e⟩
end
end Fx

set_option Elab.async false
set_option linter.all false
set_option autoImplicit false
set_option maxRecDepth 100000
set_option maxHeartbeats 2000000
namespace Fx
open PySem L2
/-! ## arguments -/
def aNil : AA := fun δ => .ok [] δ
def aCons (a : AE) (r : AA) : AA := fun δ => (a δ).bind fun s δ1 => (r δ1).bind fun ss δ2 => .ok (s :: ss) δ2
/-! ## tests -/
def aTest (a : AE) : AT := fun δ => (a δ).bind fun s δ1 => match dv δ1.ce s with
  | some (.bl b) => .ok b δ1
  | _ => .bad
def aAnd (t u : AT) : AT := fun δ => (t δ).bind fun b δ1 => if b = true then u δ1 else .ok false δ1
def aOr (t u : AT) : AT := fun δ => (t δ).bind fun b δ1 => if b = true then .ok true δ1 else u δ1
def aNot (t : AT) : AT := fun δ => (t δ).bind fun b δ1 => .ok (!b) δ1
def aYes : AT := fun δ => .ok true δ
def aAndV (a b : AE) : AE := fun δ => (a δ).bind fun s δ1 => match dv δ1.ce s with
  | some (.bl c) => if c = true then b δ1 else .ok (.im (.bl false)) δ1
  | _ => .bad
def aOrV (a b : AE) : AE := fun δ => (a δ).bind fun s δ1 => match dv δ1.ce s with
  | some (.bl c) => if c = true then .ok (.im (.bl true)) δ1 else b δ1
  | _ => .bad
def aNotV (a : AE) : AE := fun δ => (a δ).bind fun s δ1 => match dv δ1.ce s with
  | some (.bl c) => .ok (.im (.bl (!c))) δ1
  | _ => .bad
def aIf (t : AT) (a b : AE) : AE := fun δ => (t δ).bind fun c δ1 => if c = true then a δ1 else b δ1
/-! ## unary minus -/
def aNeg (a : AE) : AE := fun δ => (a δ).bind fun s δ1 => match dv δ1.ce s with
  | some (.int i) => .ok (.im (.int (-i))) δ1
  | _ => .bad
/-- a < b < c -/
def aChain (o o' : AOp) (a b c : AE) : AE := fun δ => (a δ).bind fun s δ1 => (b δ1).bind fun t δ2 => (o s t δ2).bind fun z δ3 => match dv δ3.ce z with
  | some (.bl k) => if k = true then (c δ3).bind fun u δ4 => o' t u δ4 else .ok (.im (.bl false)) δ3
  | _ => .bad
/-! ## displays -/
def aLst (r : AA) : AE := fun δ => (r δ).bind fun ss δ1 => if ss.length ≤ 1000 then (match imL δ1.ce ss with
  | some ds => .ok (.im (.lst ds)) δ1
  | none => .bad) else .bad
def aLstC (r : AA) : AE := fun δ => (r δ).bind fun ss δ1 => if ss.length ≤ 1000 then .ok (.cl δ1.ce.length) ⟨δ1.sl, δ1.ce ++ [.lst ss]⟩ else .bad
def aTup (r : AA) : AE := fun δ => (r δ).bind fun ss δ1 => if ss.length ≤ 1000 then (match imL δ1.ce ss with
  | some ds => .ok (.im (.tup ds)) δ1
  | none => .ok (.cl δ1.ce.length) ⟨δ1.sl, δ1.ce ++ [.tup ss]⟩) else .bad
section
variable {K : PySem.W.Frag} {xs : Xs} {W : WX} {ta tb te tc : TE} {a b c : AE} {t u : TT} {p q : AT} {tr : TA} {r : AA}
open Out in
theorem sa_nil : SA K xs W tNil aNil := fun fr δ Ψ Ξ h => wa_nil h
theorem sa_cons (ha : SE K xs W te a) (hr : SA K xs W tr r) : SA K xs W (tCons te tr) (aCons a r) := fun fr δ Ψ Ξ h =>
  wa_cons (ha fr δ _ _ (Out.sat_mono (Out.sat_bind h) (fun s δ1 h1 => hr fr δ1 _ _ (Out.sat_mono (Out.sat_bind h1) (fun ss δ2 h2 => h2) fun _ _ z => z)) fun _ _ z => z))
theorem bl_of {δ : Sta} {s : SV} {f : Bool → O Bool} {Ψ : Bool → Sta → Prop} {Ξ : Xn → Sta → Prop} (h : (match dv δ.ce s with | some (.bl b) => f b | _ => (.bad : O Bool)).sat Ψ Ξ) : ∃ b, dv δ.ce s = some (.bl b) ∧ (f b).sat Ψ Ξ := by
  split at h
  · rename_i b e; exact ⟨b, e, h⟩
  · exact h.elim
theorem bl_ofV {δ : Sta} {s : SV} {f : Bool → O SV} {Ψ : SV → Sta → Prop} {Ξ : Xn → Sta → Prop} (h : (match dv δ.ce s with | some (.bl b) => f b | _ => (.bad : O SV)).sat Ψ Ξ) : ∃ b, dv δ.ce s = some (.bl b) ∧ (f b).sat Ψ Ξ := by
  split at h
  · rename_i b e; exact ⟨b, e, h⟩
  · exact h.elim
theorem st_test (ha : SE K xs W ta a) : ST K xs W (tTest ta) (aTest a) := fun fr δ Ψ Ξ h =>
  wt_test (ha fr δ _ _ (Out.sat_mono (Out.sat_bind h) (fun s δ1 h1 => bl_of (f := fun b => .ok b δ1) h1) fun _ _ z => z))
theorem st_B (ha : SE K xs W ta a) : ST K xs W (tB ta) (aTest a) := fun fr δ Ψ Ξ h =>
  wt_B (ha fr δ _ _ (Out.sat_mono (Out.sat_bind h) (fun s δ1 h1 => bl_of (f := fun b => .ok b δ1) h1) fun _ _ z => z))
theorem st_and (ht : ST K xs W t p) (hu : ST K xs W u q) : ST K xs W (tAnd t u) (aAnd p q) := fun fr δ Ψ Ξ h =>
  wt_and (ht fr δ _ _ (Out.sat_mono (Out.sat_bind h) (fun b δ1 h1 => ⟨fun hb => hu fr δ1 _ _ (by rw [if_pos hb] at h1; exact h1), fun hb => by rw [hb] at h1; exact h1⟩) fun _ _ z => z))
theorem st_or (ht : ST K xs W t p) (hu : ST K xs W u q) : ST K xs W (tOr t u) (aOr p q) := fun fr δ Ψ Ξ h =>
  wt_or (ht fr δ _ _ (Out.sat_mono (Out.sat_bind h) (fun b δ1 h1 => ⟨fun hb => hu fr δ1 _ _ (by rw [hb] at h1; exact h1), fun hb => by rw [if_pos hb] at h1; exact h1⟩) fun _ _ z => z))
theorem st_not (ht : ST K xs W t p) : ST K xs W (tNot t) (aNot p) := fun fr δ Ψ Ξ h =>
  wt_not (ht fr δ _ _ (Out.sat_mono (Out.sat_bind h) (fun b δ1 h1 => h1) fun _ _ z => z))
theorem st_yes : ST K xs W tYes aYes := fun fr δ Ψ Ξ h => wt_yes h
theorem se_andV (ha : SE K xs W ta a) (hb : SE K xs W tb b) : SE K xs W (tAndV ta tb) (aAndV a b) := fun fr δ Ψ Ξ h =>
  we_andV (ha fr δ _ _ (Out.sat_mono (Out.sat_bind h) (fun s δ1 h1 => by
    obtain ⟨c, e, h2⟩ := bl_ofV (f := fun c => if c = true then b δ1 else .ok (.im (.bl false)) δ1) h1
    exact ⟨c, e, fun hc => hb fr δ1 _ _ (by rw [if_pos hc] at h2; exact h2), fun hc => by rw [hc] at h2; exact h2⟩) fun _ _ z => z))
theorem se_orV (ha : SE K xs W ta a) (hb : SE K xs W tb b) : SE K xs W (tOrV ta tb) (aOrV a b) := fun fr δ Ψ Ξ h =>
  we_orV (ha fr δ _ _ (Out.sat_mono (Out.sat_bind h) (fun s δ1 h1 => by
    obtain ⟨c, e, h2⟩ := bl_ofV (f := fun c => if c = true then .ok (.im (.bl true)) δ1 else b δ1) h1
    exact ⟨c, e, fun hc => hb fr δ1 _ _ (by rw [hc] at h2; exact h2), fun hc => by rw [if_pos hc] at h2; exact h2⟩) fun _ _ z => z))
theorem se_notV (ha : SE K xs W ta a) : SE K xs W (tNotV ta) (aNotV a) := fun fr δ Ψ Ξ h =>
  we_notV (ha fr δ _ _ (Out.sat_mono (Out.sat_bind h) (fun s δ1 h1 => bl_ofV (f := fun c => .ok (.im (.bl (!c))) δ1) h1) fun _ _ z => z))
theorem se_if (ht : ST K xs W t p) (ha : SE K xs W ta a) (hb : SE K xs W tb b) : SE K xs W (tIf t ta tb) (aIf p a b) := fun fr δ Ψ Ξ h =>
  we_if (ht fr δ _ _ (Out.sat_mono (Out.sat_bind h) (fun c δ1 h1 => ⟨fun hc => ha fr δ1 _ _ (by rw [if_pos hc] at h1; exact h1), fun hc => hb fr δ1 _ _ (by rw [hc] at h1; exact h1)⟩) fun _ _ z => z))
theorem se_neg (ha : SE K xs W ta a) : SE K xs W (tUn (rU fun i => .int (-i)) ta) (aNeg a) := fun fr δ Ψ Ξ h σ I as H Q r c =>
  ha fr δ _ _ (Out.sat_bind h) σ I as H _ r ⟨fun s δ1 v I1 as1 H1 r1 l1 rv k => by
    split at k
    · rename_i i e
      exact ⟨i, r1.dv e rv, c.v (.im (.int (-i))) δ1 _ I1 as1 H1 r1 l1 rfl k⟩
    · exact k.elim, c.x⟩
theorem se_chain {r0 r1 : R2} {o o' : AOp} (ho : OpOk K xs r0 o) (ho' : OpOk K xs r1 o') (ha : SE K xs W ta a) (hb : SE K xs W tb b) (hc : SE K xs W tc c) : SE K xs W (tChain r0 r1 ta tb tc) (aChain o o' a b c) := by
  intro fr δ Ψ Ξ h σ I as H Q r k
  refine ha fr δ _ _ (Out.sat_bind h) σ I as H _ r ⟨fun s δ1 v I1 as1 H1 r1 l1 rv1 k1 => ?_, k.x⟩
  refine hb fr δ1 _ _ (Out.sat_bind k1) σ I1 as1 H1 _ r1 ⟨fun t δ2 w I2 as2 H2 r2 l2 rv2 k2 => ?_, (k.later l1).x⟩
  refine ho fr s t δ2 _ _ (Out.sat_bind k2) σ I2 as2 H2 _ v w r2 (rv1.mono l2) rv2 fun z δ3 zv I3 as3 H3 r3 l3 rv3 k3 => ?_
  obtain ⟨kb, e, k4⟩ := bl_ofV (f := fun kb => if kb = true then (c δ3).bind fun u δ4 => o' t u δ4 else .ok (.im (.bl false)) δ3) k3
  refine ⟨kb, r3.dv e rv3, ?_⟩
  have l13 := (l1.trans l2).trans l3
  cases kb with
  | true =>
    refine hc fr δ3 _ _ (Out.sat_bind k4) σ I3 as3 H3 _ r3 ⟨fun u δ4 uv I4 as4 H4 r4 l4 rv4 k5 => ?_, (k.later l13).x⟩
    exact ho' fr t u δ4 _ _ k5 σ I4 as4 H4 Q w uv r4 ((rv2.mono l3).mono l4) rv4 ((k.later l13).later l4).v
  | false => exact k.v (.im (.bl false)) δ3 _ I3 as3 H3 r3 l13 rfl k4
theorem se_lst (hr : SA K xs W tr r) : SE K xs W (tLst tr) (aLst r) := fun fr δ Ψ Ξ h =>
  we_lstF (hr fr δ _ _ (Out.sat_mono (Out.sat_bind h) (fun ss δ1 h1 => by
    split at h1
    · rename_i hl
      split at h1
      · rename_i ds e; exact ⟨ds, hl, e, h1⟩
      · exact h1.elim
    · exact h1.elim) fun _ _ z => z))
theorem se_lstC (hr : SA K xs W tr r) : SE K xs W (tLst tr) (aLstC r) := fun fr δ Ψ Ξ h =>
  we_lst (hr fr δ _ _ (Out.sat_mono (Out.sat_bind h) (fun ss δ1 h1 => by
    split at h1
    · rename_i hl; exact ⟨hl, h1⟩
    · exact h1.elim) fun _ _ z => z))
theorem se_tup (hr : SA K xs W tr r) : SE K xs W (tTup tr) (aTup r) := by
  intro fr δ Ψ Ξ h σ I as H Q rr c
  refine hr fr δ _ _ (Out.sat_bind h) σ I as H _ rr ⟨fun ss δ1 vs I1 as1 H1 r1 l1 rv1 k1 => ?_, c.x⟩
  split at k1
  · rename_i hl
    refine ⟨by rw [rv1.length]; exact Nat.le_trans hl (by decide), fun p hp => ?_⟩
    split at k1
    · rename_i ds e
      obtain ⟨r2, l2⟩ := r1.newF (o := .tup vs) hp
      exact c.v (.im (.tup ds)) _ _ _ as1 _ r2 (l1.trans l2) ⟨p, vs, rfl, SqT.of upd_same, RepL.mono l2.i _ _ (r1.imL e rv1)⟩ k1
    · have hn := none_back r1.ih hp
      obtain ⟨r2, l2⟩ := r1.newC (o := .tup vs) (co := .tup ss) hp ⟨hn, vs, upd_same, rv1⟩ rfl
      refine c.v (.cl δ1.ce.length) _ _ I1 (as1 ++ [p]) _ r2 (l1.trans l2) ⟨p, ?_, rfl⟩ k1
      rw [← r1.clen]; simp
  · exact k1.elim
end
/-! ## a[i] -/
abbrev Tabs := List (Str × List (Str × D))
def ixD : D → D → Option D
  | .lst ds, .int i => atI ds i
  | .tup ds, .int i => atI ds i
  | .scr ns, .int i => (atI ns i).map .int
  | .str z, .int i => if z.length ≤ 1000000 then (atI z.cps.toList i).map fun c => .str ⟨#[c]⟩ else none
  | .dic kvs, y => match keyOf y with
    | some k => lookD kvs k
    | none => none
  | _, _ => none
def tabAt (tabs : Tabs) (x z : Str) : Option D := match tabs.lookup x with
  | some kvs => kvs.lookup z
  | none => none
def ixA (tabs : Tabs) : AOp := fun s t δ => match dv δ.ce t with
  | none => .bad
  | some y => match s with
    | .no => .bad
    | .im (.glo x) => (match y with
      | .str z => (match tabAt tabs x z with
        | some d => .ok (.im d) δ
        | none => .bad)
      | _ => .bad)
    | .im d => (match ixD d y with
      | some e => .ok (.im e) δ
      | none => .bad)
    | .cl c => match δ.ce[c]?, y with
      | some (.lst us), .int i => (match atI us i with
        | some u => .ok (nrm δ.ce u) δ
        | none => .bad)
      | some (.tup us), .int i => (match atI us i with
        | some u => .ok (nrm δ.ce u) δ
        | none => .bad)
      | some (.dic kvs), y => (match keyOf y with
        | some k => (match lookC kvs k with
          | some u => .ok (nrm δ.ce u) δ
          | none => .bad)
        | none => .bad)
      | some (.fz d), y => (match ixD d y with
        | some e => .ok (.im e) δ
        | none => .bad)
      | _, _ => .bad
def TabOk (K : PySem.W.Frag) (w : World) (tabs : Tabs) : Prop := ∀ x z d, tabAt tabs x z = some d → ∃ v, KDct K w (He.ga K x) z v ∧ ∀ I, Rep K I d v
section
variable {K : PySem.W.Frag} {xs : Xs} {w : World}
theorem ixD_ok {ec : EC} {δ : Sta} {t : SV} {d y e : D} {σ : L2.St} {I : Hp} {as : List Addr} {H : Hp} {Q : VK} {v u : V} {Ψ : SV → Sta → Prop} (r : R K ec δ σ I as H) (rv : Rep K I d v) (e2 : dv δ.ce t = some y) (h2 : RV K I as t u) (h : ixD d y = some e)
    (c : ∀ s δ' v I' as' H', R K ec δ' σ I' as' H' → Le I as I' as' → RV K I' as' s v → Ψ s δ' → Q v H') (k : Ψ (.im e) δ) : rIxB K w v u H Q := by
  have go : ∀ v', Rep K I e v' → Q v' H := fun v' q => c (.im e) δ v' I as H r (Le.refl I as) q k
  have hy := r.dv e2 h2
  refine .inl ?_
  unfold ixD at h
  split at h
  · rename_i ds i
    obtain ⟨a, vs, rfl, ha, ra⟩ := rv
    obtain ⟨u', q1, q2⟩ := atI_rep ra h
    exact .inl (.inl ⟨a, vs, i, u', rfl, hy, SqL.of (r.ih _ _ ha), q1, go _ q2⟩)
  · rename_i ds i
    obtain ⟨a, vs, rfl, ha, ra⟩ := rv
    obtain ⟨u', q1, q2⟩ := atI_rep ra h
    exact .inl (.inr (.inl ⟨a, vs, i, u', rfl, hy, same_t r.ih ha, q1, go _ q2⟩))
  · rename_i ns i
    rw [Option.map_eq_some_iff] at h
    obtain ⟨n, h, rfl⟩ := h
    obtain ⟨a, rfl, ha⟩ := rv
    have q1 : atI (ns.map V.int) i = some (.int n) := by
      unfold atI at h ⊢
      rw [List.length_map]
      cases q : ixN ns.length i with
      | none => rw [q] at h; cases h
      | some j => rw [q] at h; show (ns.map V.int)[j]? = _; rw [List.getElem?_map, show ns[j]? = some n from h]; rfl
    exact .inl (.inl ⟨a, _, i, _, rfl, hy, r.ih.seq ha, q1, go _ rfl⟩)
  · rename_i z i
    split at h
    · rename_i hz
      rw [Option.map_eq_some_iff] at h
      obtain ⟨ch, h, rfl⟩ := h
      exact .inl (.inr (.inr ⟨z, i, ch, rv, hy, line_le hz, h, go _ rfl⟩))
    · cases h
  · rename_i kvs
    split at h
    · rename_i kk hk
      obtain ⟨a, ws, rfl, ha, ra⟩ := rv
      obtain ⟨u', q1, q2⟩ := ra.val h
      have ew : u = kV kk := rep_key hk hy
      subst ew
      exact .inr ⟨a, u', rfl, .inl ⟨ws, kk, same_rd r.ih ha, rfl, q1.symm⟩, go _ q2⟩
    · cases h
  · cases h
theorem ok_ix {tabs : Tabs} (hT : TabOk K w tabs) : OpOk K xs (rIxB K w) (ixA tabs) := by
  intro fr s t δ Ψ Ξ h σ I as H Q v u r h1 h2 c
  unfold ixA at h
  split at h
  · exact h.elim
  · rename_i y e2
    have hy := r.dv e2 h2
    split at h
    · exact h.elim
    · rename_i x
      split at h
      · rename_i z
        split at h
        · rename_i d q
          obtain ⟨v', k1, k2⟩ := hT x z d q
          cases (show v = _ from h1)
          exact .inr ⟨_, z, v', rfl, hy, k1, c (.im d) δ v' I as H r (Le.refl I as) (k2 I) h⟩
        · exact h.elim
      · exact h.elim
    · rename_i d _
      split at h
      · rename_i e q
        exact ixD_ok r h1 e2 h2 q c h
      · exact h.elim
    · rename_i cc
      split at h
      · rename_i us i q
        split at h
        · rename_i u' q2
          obtain ⟨a, ha, rfl⟩ := h1
          obtain ⟨_, vs, hh, rl⟩ := r.cells cc _ a q ha
          obtain ⟨u2, q3, q4⟩ := atI_rv rl q2
          exact .inl (.inl (.inl ⟨a, vs, i, u2, rfl, hy, SqL.of hh, q3, c _ δ _ I as H r (Le.refl I as) (nrm_rv r q4) h⟩))
        · exact h.elim
      · rename_i us i q
        split at h
        · rename_i u' q2
          obtain ⟨a, ha, rfl⟩ := h1
          obtain ⟨_, vs, hh, rl⟩ := r.cells cc _ a q ha
          obtain ⟨u2, q3, q4⟩ := atI_rv rl q2
          exact .inl (.inl (.inr (.inl ⟨a, vs, i, u2, rfl, hy, SqT.of hh, q3, c _ δ _ I as H r (Le.refl I as) (nrm_rv r q4) h⟩)))
        · exact h.elim
      · rename_i kvs q
        split at h
        · rename_i kk hk
          split at h
          · rename_i u' q2
            obtain ⟨a, ha, rfl⟩ := h1
            obtain ⟨_, vs, hh, rl⟩ := r.cells cc _ a q ha
            obtain ⟨u2, q3, q4⟩ := rl.val q2
            have ew : u = kV kk := rep_key hk hy
            subst ew
            exact .inl (.inr ⟨a, u2, rfl, .inl ⟨vs, kk, .inl hh, rfl, q3.symm⟩, c _ δ _ I as H r (Le.refl I as) (nrm_rv r q4) h⟩)
          · exact h.elim
        · exact h.elim
      · rename_i d q
        split at h
        · rename_i e q2
          exact ixD_ok r (r.imS (s := .cl cc) (by simp only [Fx.imS, q]) h1) e2 h2 q2 c h
        · exact h.elim
      · exact h.elim
end
/-! ## a[i:j] -/
def cutL {α : Type} (xs : List α) (lo hi : Option Int) : List α := (xs.drop (HT.sIx xs.length 0 lo)).take (HT.sIx xs.length xs.length hi - HT.sIx xs.length 0 lo)
def slD (x : D) (lo hi : Option Int) : Option D := match x with
  | .lst ds => some (.lst (cutL ds lo hi))
  | .tup ds => some (.tup (cutL ds lo hi))
  | .str z => if z.length ≤ 1000000 then some (.str (L2.cutS z lo hi)) else none
  | _ => none
abbrev AO := Sta → O (Option Int)
def aNoPart : AO := fun δ => .ok none δ
def aPart (a : AE) : AO := fun δ => (a δ).bind fun s δ1 => match dv δ1.ce s with
  | some (.int i) => .ok (some i) δ1
  | _ => .bad
def aSl (a : AE) (lo hi : AO) : AE := fun δ => (a δ).bind fun s δ1 => (lo δ1).bind fun l δ2 => (hi δ2).bind fun h δ3 => match s with
  | .im (.tup ds) => .ok (.im (.tup (cutL ds l h))) δ3
  | s => match dv δ3.ce s with
    | some (.tup _) => .bad
    | some x => (match slD x l h with
      | some d => .ok (.im d) δ3
      | none => .bad)
    | none => .bad
def SO (K : PySem.W.Frag) (xs : Xs) (W : WX) (te : TO) (a : AO) : Prop := ∀ fr δ Ψ Ξ, (a δ).sat Ψ Ξ → ∀ (σ : L2.St) (I : Hp) (as : List Addr) (H : Hp) (Q : Option Int → Hp → Prop), R K ⟨xs, fr⟩ δ σ I as H →
  (∀ l δ' I' as' H', R K ⟨xs, fr⟩ δ' σ I' as' H' → Le I as I' as' → Ψ l δ' → Q l H') → (∀ (x : Xn) δ' d I' as' H', R K ⟨xs, fr⟩ δ' σ I' as' H' → Le I as I' as' → XRel K I' as' x.fs d → Ξ x δ' → W (x.cls.v K) d σ H') → te σ H Q
def rSlAll (K : PySem.W.Frag) : V → Option Int → Option Int → Hp → VK → Prop := fun x lo hi H Q => rSlL K x lo hi H Q ∨ (rSlA K x lo hi H Q ∨ rSlS x lo hi H Q)
theorem sl_all {X : Cx} : SlR X (rSlAll X.K) := sl_list.or (sl_tupA.or sl_str)
end Fx

set_option Elab.async false
set_option linter.all false
set_option autoImplicit false
set_option maxRecDepth 100000
set_option maxHeartbeats 2000000
namespace Fx
open PySem L2
section
variable {K : PySem.W.Frag} {xs : Xs} {W : WX} {ta te : TE} {a : AE} {tr : TA} {r : AA} {tl th : TO} {lo hi : AO}
theorem so_none : SO K xs W tNoPart aNoPart := fun fr δ Ψ Ξ h σ I as H Q r c x => c none δ I as H r (Le.refl I as) h
theorem so_some (ha : SE K xs W ta a) : SO K xs W (tPart ta) (aPart a) := fun fr δ Ψ Ξ h σ I as H Q r c x =>
  ha fr δ _ _ (Out.sat_bind h) σ I as H _ r ⟨fun s δ1 v I1 as1 H1 r1 l1 rv k => by
    split at k
    · rename_i i e
      exact ⟨i, r1.dv e rv, c (some i) δ1 I1 as1 H1 r1 l1 k⟩
    · exact k.elim, x⟩
theorem cut_rep {I : Hp} {ds : List D} {vs : List V} {l h : Option Int} (ra : RepL K I ds vs) : RepL K I (cutL ds l h) (cutV vs l h) := by
  have drop : ∀ (n : Nat) (ds : List D) (vs : List V), RepL K I ds vs → RepL K I (ds.drop n) (vs.drop n) := fun n => by
    induction n with
    | zero => intro ds vs h; exact h
    | succ n ih => intro ds vs h; cases ds with
      | nil => rw [show vs = [] from h]; exact rfl
      | cons d ds => obtain ⟨v, r, rfl, _, h2⟩ := h; exact ih ds r h2
  have take : ∀ (n : Nat) (ds : List D) (vs : List V), RepL K I ds vs → RepL K I (ds.take n) (vs.take n) := fun n => by
    induction n with
    | zero => intro ds vs h; exact rfl
    | succ n ih => intro ds vs h; cases ds with
      | nil => rw [show vs = [] from h]; exact rfl
      | cons d ds => obtain ⟨v, r, rfl, h1, h2⟩ := h; exact ⟨v, _, rfl, h1, ih ds r h2⟩
  unfold cutL cutV
  rw [ra.length]
  exact take _ _ _ (drop _ _ _ ra)
theorem se_sl (ha : SE K xs W ta a) (hl : SO K xs W tl lo) (hh : SO K xs W th hi) : SE K xs W (tSl (rSlAll K) ta tl th) (aSl a lo hi) := by
  intro fr δ Ψ Ξ h σ I as H Q r c
  refine ha fr δ _ _ (Out.sat_bind h) σ I as H _ r ⟨fun s δ1 v I1 as1 H1 r1 l1 rv k => ?_, c.x⟩
  refine hl fr δ1 _ _ (Out.sat_bind k) σ I1 as1 H1 _ r1 (fun l δ2 I2 as2 H2 r2 l2 k2 => ?_) (c.later l1).x
  refine hh fr δ2 _ _ (Out.sat_bind k2) σ I2 as2 H2 _ r2 (fun u δ3 I3 as3 H3 r3 l3 k3 => ?_) ((c.later l1).later l2).x
  have l13 := (l1.trans l2).trans l3
  have rv3 := rv.mono (l2.trans l3)
  have go : ∀ (s' : SV) (x : D), dv δ3.ce s' = some x → RV K I3 as3 s' v → (∀ ds, x ≠ .tup ds) → (match slD x l u with | some d => (.ok (.im d) δ3 : O SV) | none => .bad).sat Ψ Ξ → rSlAll K v l u H3 Q := fun s' x e rvx hx k => by
    unfold slD at k
    cases x with
    | lst ds =>
      obtain ⟨b, vs, rfl, hb, rb⟩ := r3.dvL e rvx
      refine .inl ⟨b, vs, rfl, SqL.of hb, fun p hp => ?_⟩
      obtain ⟨r4, l4⟩ := r3.newF (o := .lst (cutV vs l u)) hp
      exact c.v (.im (.lst (cutL ds l u))) _ _ _ as3 _ r4 (l13.trans l4) ⟨p, _, rfl, upd_same, RepL.mono l4.i _ _ (cut_rep rb)⟩ k
    | str z =>
      dsimp only at k
      split at k
      · rename_i d q
        split at q
        · rename_i hz
          cases q
          exact .inr (.inr ⟨z, r3.dv e rvx, line_le hz, c.v (.im (.str _)) _ _ I3 as3 _ r3 l13 rfl k⟩)
        · cases q
      · exact k.elim
    | tup ds => exact absurd rfl (hx ds)
    | _ => exact k.elim
  split at k3
  · rename_i ds
    obtain ⟨b, vs, rfl, hb, rb⟩ := (show Rep K I3 (.tup ds) v from rv3)
    refine .inr (.inl ⟨b, vs, rfl, same_t r3.ih hb, fun z => ?_, fun z p hp => ?_⟩)
    · have e : cutL ds l u = ds := by
        unfold cutL
        rw [← rb.length, z.1, z.2]
        simp [rb.length]
      rw [e] at k3
      exact c.v (.im (.tup ds)) _ _ I3 as3 _ r3 l13 rv3 k3
    · obtain ⟨r4, l4⟩ := r3.newF (o := .tup (cutV vs l u)) hp
      exact c.v (.im (.tup (cutL ds l u))) _ _ _ as3 _ r4 (l13.trans l4) ⟨p, _, rfl, SqT.of upd_same, RepL.mono l4.i _ _ (cut_rep rb)⟩ k3
  · split at k3
    · exact k3.elim
    · rename_i x hx e
      exact go _ x e rv3 (fun ds z => hx ds z) k3
    · exact k3.elim
/-! ## built-in calls -/
abbrev ACB := List SV → Sta → O SV
def aCB (f : ACB) (r : AA) : AE := fun δ => (r δ).bind f
def CbOk (K : PySem.W.Frag) (xs : Xs) (rr : List V → Hp → VK → Prop) (f : ACB) : Prop := ∀ fr ss δ (Ψ : SV → Sta → Prop) Ξ, (f ss δ).sat Ψ Ξ → CbW K ⟨xs, fr⟩ rr ss Ψ δ
theorem se_cb {rr : List V → Hp → VK → Prop} {f : ACB} (hf : CbOk K xs rr f) (hr : SA K xs W tr r) : SE K xs W (tCB rr tr) (aCB f r) := fun fr δ Ψ Ξ h =>
  we_cb (hr fr δ _ _ (Out.sat_mono (Out.sat_bind h) (fun ss δ1 h1 => hf fr ss δ1 Ψ Ξ h1) fun _ _ z => z))
def dCB1 (f : D → Option D) : ACB := fun ss δ => match ss with
  | [s] => (match dv δ.ce s with
    | some x => (match f x with
      | some d => .ok (.im d) δ
      | none => .bad)
    | none => .bad)
  | _ => .bad
def dCB2 (f : D → D → Option D) : ACB := fun ss δ => match ss with
  | [s, t] => dOp f s t δ
  | _ => .bad
theorem dCB1_ok {rr : List V → Hp → VK → Prop} {f : D → Option D} (h : ∀ (ec : EC) (δ : Sta) (s : SV) (x d : D) (Ψ : SV → Sta → Prop), dv δ.ce s = some x → f x = some d → Ψ (.im d) δ → CbW K ec rr [s] Ψ δ) : CbOk K xs rr (dCB1 f) := by
  intro fr ss δ Ψ Ξ q
  unfold dCB1 at q
  split at q
  · split at q
    · rename_i x e
      split at q
      · rename_i d e2; exact h _ δ _ x d Ψ e e2 q
      · exact q.elim
    · exact q.elim
  · exact q.elim
theorem dCB2_ok {rr : List V → Hp → VK → Prop} {f : D → D → Option D} (h : ∀ (ec : EC) (δ : Sta) (s t : SV) (x y d : D) (Ψ : SV → Sta → Prop), dv δ.ce s = some x → dv δ.ce t = some y → f x y = some d → Ψ (.im d) δ → CbW K ec rr [s, t] Ψ δ) : CbOk K xs rr (dCB2 f) := by
  intro fr ss δ Ψ Ξ q
  unfold dCB2 at q
  split at q
  · rename_i s t
    unfold dOp at q
    cases e1 : dv δ.ce s with
    | none => rw [e1] at q; exact q.elim
    | some x =>
      cases e2 : dv δ.ce t with
      | none => rw [e1, e2] at q; exact q.elim
      | some y =>
        rw [e1, e2] at q
        dsimp only at q
        cases e3 : f x y with
        | none => rw [e3] at q; exact q.elim
        | some d => rw [e3] at q; exact h _ δ s t x y d Ψ e1 e2 e3 q
  · exact q.elim
end
def absD : D → Option D
  | .int i => some (.int (if i < 0 then -i else i))
  | _ => none
def intD : D → Option D
  | .int i => some (.int i)
  | .bl b => some (.int (if b then 1 else 0))
  | .str a => if a.length ≤ 640 then (PySem.intText? a).map .int else none
  | _ => none
def maxD : D → D → Option D
  | .int i, .int j => some (.int (if j > i then j else i))
  | _, _ => none
def minD : D → D → Option D
  | .int i, .int j => some (.int (if j < i then j else i))
  | _, _ => none
def lenD : D → Option D
  | .lst ds => some (.int ds.length)
  | .tup ds => some (.int ds.length)
  | .scr ns => some (.int ns.length)
  | .str z => if z.length ≤ 1000000 then some (.int z.length) else none
  | .dic kvs => some (.int kvs.length)
  | _ => none
def strD : D → Option D
  | .int i => if i.natAbs < 1000000000000000000000 then some (.str (toString i)) else none
  | .str x => some (.str x)
  | _ => none
/-! the machine's rules -/
section
variable {X : Cx}
def rIntA : List V → Hp → VK → Prop := fun xs H Q => rInt1 xs H Q ∨ ∃ a n, xs = [.str a] ∧ PySem.intText? a = some n ∧ a.length ≤ 640 ∧ Q (.int n) H
theorem cl_int : CallR X (.type "int") rIntA := CallR.or call_int1 call_int_str
def rLenB (K : PySem.W.Frag) : List V → Hp → VK → Prop := fun xs H Q => rLenA K xs H Q ∨ ∃ a kvs, xs = [.ref a] ∧ Rd H a (.dK kvs) ∧ Q (.int kvs.length) H
theorem cl_len : CallR X (.builtin "len") (rLenB X.K) := by
  refine CallR.or call_len ?_
  intro pins s σ H xs us Q I r h
  obtain ⟨a, kvs, rfl, ha, q⟩ := h
  obtain ⟨u, rfl, ru⟩ := vals1 r
  cases (show u = Value.ref a from ru)
  exact d_len I ha fun t s' I' => ⟨.int kvs.length, H, I', ⟨t, rfl⟩, q⟩
theorem cl_abs : CallR X (.builtin "abs") rAbs := call_abs
theorem cl_max (hc : X.calm = true) : CallR X (.builtin "max") rMax2 := call_max2 hc
theorem cl_min (hc : X.calm = true) : CallR X (.builtin "min") rMin2 := call_min2 hc
end
section
variable {K : PySem.W.Frag} {xs : Xs}
theorem ok_abs : CbOk K xs rAbs (dCB1 absD) := dCB1_ok fun ec δ s x d Ψ e h k => by
  unfold absD at h
  split at h
  · cases h; exact cb_abs e k
  · cases h
theorem ok_int : CbOk K xs rIntA (dCB1 intD) := dCB1_ok fun ec δ s x d Ψ e h k => by
  unfold intD at h
  split at h
  · cases h; exact cb_l (cb_int e k)
  · cases h; exact cb_l (cb_intB e k)
  · rename_i a
    split at h
    · rename_i hl
      rw [Option.map_eq_some_iff] at h
      obtain ⟨n, hn, rfl⟩ := h
      refine cb_r ?_
      intro σ I as H Q vs r h1 c
      obtain ⟨w, t, rfl, h, rfl⟩ := h1
      cases (show w = .str a from r.dv e h)
      exact ⟨a, n, rfl, hn, hl, c (.im (.int n)) δ _ I as H r (Le.refl I as) rfl k⟩
    · cases h
  · cases h
theorem ok_max : CbOk K xs rMax2 (dCB2 maxD) := dCB2_ok fun ec δ s t x y d Ψ e1 e2 h k => by
  unfold maxD at h
  split at h
  · cases h; exact cb_max e1 e2 k
  · cases h
theorem ok_min : CbOk K xs rMin2 (dCB2 minD) := dCB2_ok fun ec δ s t x y d Ψ e1 e2 h k => by
  unfold minD at h
  split at h
  · cases h; exact cb_min e1 e2 k
  · cases h
theorem ok_len : CbOk K xs (rLenB K) (dCB1 lenD) := dCB1_ok fun ec δ s x d Ψ e h k => by
  unfold lenD at h
  split at h
  · cases h; exact cb_l (cb_len e len_lst k)
  · cases h; exact cb_l (cb_len e len_tup k)
  · cases h; exact cb_l (cb_len e len_scr k)
  · split at h
    · rename_i hz; cases h; exact cb_l (cb_len e (len_str (line_le hz)) k)
    · cases h
  · cases h
    refine cb_r ?_
    intro σ I as H Q vs r h1 c
    obtain ⟨w, t, rfl, h, rfl⟩ := h1
    obtain ⟨a, kvs, rfl, ha, ra⟩ := r.dvK e h
    exact ⟨a, kvs, rfl, ha, by rw [ra.length]; exact c (.im (.int _)) δ _ I as H r (Le.refl I as) rfl k⟩
  · cases h
end
/-! ## list(x), tuple(x), dict(x) -/
/-- list(x) as data; as a new cell -/
def listA : ACB := fun ss δ => match ss with
  | [s] => (match dv δ.ce s with
    | some (.lst ds) => .ok (.im (.lst ds)) δ
    | some (.tup ds) => .ok (.im (.lst ds)) δ
    | _ => .bad)
  | _ => .bad
def listC : ACB := fun ss δ => match ss with
  | [s] => (match dv δ.ce s with
    | some (.lst ds) => .ok (.cl δ.ce.length) ⟨δ.sl, δ.ce ++ [.lst (ds.map .im)]⟩
    | some (.tup ds) => .ok (.cl δ.ce.length) ⟨δ.sl, δ.ce ++ [.lst (ds.map .im)]⟩
    | _ => .bad)
  | _ => .bad
def tupleA : ACB := fun ss δ => match ss with
  | [s] => (match imS δ.ce s with
    | some (.tup ds) => .ok (.im (.tup ds)) δ
    | _ => (match dv δ.ce s with
      | some (.lst ds) => .ok (.im (.tup ds)) δ
      | _ => .bad))
  | _ => .bad
def dictC : ACB := fun ss δ => match ss with
  | [s] => (match dv δ.ce s with
    | some (.dic kds) => .ok (.cl δ.ce.length) ⟨δ.sl, δ.ce ++ [.dic (kds.map fun p => (p.1, .im p.2))]⟩
    | _ => .bad)
  | _ => .bad
def rListA (K : PySem.W.Frag) : List V → Hp → VK → Prop := fun xs H Q => ∃ p ys, xs = [.ref p] ∧ (SqL K H p ys ∨ SqT K H p ys) ∧ ∀ l, H l = none → Q (.ref l) (upd H l (.lst ys))
def rTupleA (K : PySem.W.Frag) : List V → Hp → VK → Prop := fun xs H Q => ∃ p ys, xs = [.ref p] ∧ ((SqL K H p ys ∧ ∀ l, H l = none → Q (.ref l) (upd H l (.tup ys))) ∨ (SqT K H p ys ∧ Q (.ref p) H))
theorem cl_list {X : Cx} : CallR X (.type "list") (rListA X.K) := call_list_of
theorem cl_tuple {X : Cx} : CallR X (.type "tuple") (rTupleA X.K) := call_tuple_of
section
variable {K : PySem.W.Frag} {xs : Xs}
theorem rvl_im {I : Hp} {as : List Addr} : ∀ {ds : List D} {ws : List V}, RepL K I ds ws → RVL K I as (ds.map SV.im) ws
  | [], _, h => h
  | d :: ds, _, ⟨v, r, e, h1, h2⟩ => ⟨v, r, e, h1, rvl_im h2⟩
theorem ok_listC : CbOk K xs (rListA K) listC := by
  intro fr ss δ Ψ Ξ h σ I as H Q vs r h1 c
  unfold listC at h
  split at h
  · obtain ⟨w, t, rfl, hw, rfl⟩ := h1
    split at h
    · rename_i ds e
      obtain ⟨a, vs, rfl, ha, ra⟩ := r.dvL e hw
      refine ⟨a, vs, rfl, .inl (SqL.of ha), fun p hp => ?_⟩
      have hn := none_back r.ih hp
      obtain ⟨r2, l2⟩ := r.newC (o := .lst vs) (co := .lst (ds.map .im)) hp ⟨hn, vs, upd_same, rvl_im ra⟩ rfl
      exact c (.cl δ.ce.length) _ _ I (as ++ [p]) _ r2 l2 ⟨p, by rw [← r.clen]; simp, rfl⟩ h
    · rename_i ds e
      obtain ⟨a, vs, rfl, ha, ra⟩ := r.dvT e hw
      refine ⟨a, vs, rfl, .inr ha, fun p hp => ?_⟩
      have hn := none_back r.ih hp
      obtain ⟨r2, l2⟩ := r.newC (o := .lst vs) (co := .lst (ds.map .im)) hp ⟨hn, vs, upd_same, rvl_im ra⟩ rfl
      exact c (.cl δ.ce.length) _ _ I (as ++ [p]) _ r2 l2 ⟨p, by rw [← r.clen]; simp, rfl⟩ h
    · exact h.elim
  · exact h.elim
theorem ok_tuple : CbOk K xs (rTupleA K) tupleA := by
  intro fr ss δ Ψ Ξ h σ I as H Q vs r h1 c
  unfold tupleA at h
  split at h
  · obtain ⟨w, t, rfl, hw, rfl⟩ := h1
    split at h
    · rename_i ds e
      have rep := r.imS e hw
      obtain ⟨a, vs, rfl, ha, ra⟩ := id rep
      exact ⟨a, vs, rfl, .inr ⟨same_t r.ih ha, c (.im (.tup ds)) δ _ I as H r (Le.refl I as) rep h⟩⟩
    · split at h
      · rename_i ds e
        obtain ⟨a, vs, rfl, ha, ra⟩ := r.dvL e hw
        refine ⟨a, vs, rfl, .inl ⟨SqL.of ha, fun p hp => ?_⟩⟩
        obtain ⟨r2, l2⟩ := r.newF (o := .tup vs) hp
        exact c (.im (.tup ds)) δ _ _ as _ r2 l2 ⟨p, vs, rfl, SqT.of upd_same, RepL.mono l2.i _ _ ra⟩ h
      · exact h.elim
  · exact h.elim
end
/-! ## all([..]), any([..]) -/
def blsOf : List D → Option (List Bool)
  | [] => some []
  | .bl b :: r => (blsOf r).map (b :: ·)
  | _ => none
def allD : D → Option D
  | .lst ds => (blsOf ds).map fun bs => .bl (bs.all id)
  | _ => none
theorem cl_all {X : Cx} (hc : X.calm = true) : CallR X (.builtin "all") (rAll X.K) := cr_all hc
section
variable {K : PySem.W.Frag} {xs : Xs}
theorem bls_rep {H : Hp} : ∀ {ds : List D} {bs : List Bool} {vs : List V}, blsOf ds = some bs → RepL K H ds vs → vs = bs.map V.bl
  | [], bs, vs, e, h => by cases e; exact h
  | d :: ds, bs, vs, e, ⟨v, r, h1, h2, h3⟩ => by
    cases d with
    | bl b =>
      have e' : (blsOf ds).map (b :: ·) = some bs := e
      rw [Option.map_eq_some_iff] at e'
      obtain ⟨bs', q, rfl⟩ := e'
      rw [h1, bls_rep q h3, show v = V.bl b from h2]; rfl
    | _ => cases e
theorem ok_all : CbOk K xs (rAll K) (dCB1 allD) := dCB1_ok fun ec δ s x d Ψ e h k => by
  intro σ I as H Q vs r h1 c
  obtain ⟨w, t, rfl, hw, rfl⟩ := h1
  unfold allD at h
  split at h
  · rw [Option.map_eq_some_iff] at h
    obtain ⟨bs, q, rfl⟩ := h
    obtain ⟨a, vs, rfl, ha, ra⟩ := r.dv e hw
    exact ⟨a, bs, rfl, by rw [← bls_rep q ra]; exact SqL.of ha, c (.im (.bl _)) δ _ I as H r (Le.refl I as) rfl k⟩
  · cases h
end
/-! ## isinstance -/
/-- the kind of a value: a built-in class, an own one -/
def kindD : D → Option XC
  | .non => some (.blt "NoneType") | .bl _ => some (.blt "bool") | .int _ => some (.blt "int") | .str _ => some (.blt "str") | .lst _ => some (.blt "list") | .tup _ => some (.blt "tuple") | .dic _ => some (.blt "dict")
  | .ins C _ => some (.own C) | .slf C _ => some (.own C) | _ => none
def kindS (δ : Sta) : SV → Option XC
  | .no => none
  | .im d => kindD d
  | .cl c => match δ.ce[c]? with
    | some (.fz d) => kindD d
    | some (.lst _) => some (.blt "list")
    | some (.tup _) => some (.blt "tuple")
    | some (.dic _) => some (.blt "dict")
    | some (.ins C _) => some (.own C)
    | _ => none
def clsD : D → Option XC
  | .ty n => some (.blt n)
  | .glo x => some (.own x)
  | _ => none
abbrev Isi := List ((XC × XC) × Bool)
def isiA (isi : Isi) : ACB := fun ss δ => match ss with
  | [s, t] => (match kindS δ s, dv δ.ce t with
    | some k, some d => (match clsD d with
      | some c => (match isi.lookup (k, c) with
        | some b => .ok (.im (.bl b)) δ
        | none => .bad)
      | none => .bad)
    | _, _ => .bad)
  | _ => .bad
/-- what is known of an own class, for isinstance -/
structure InsF (K : PySem.W.Frag) (C : Addr) : Prop where
  cl : Cls K C
  ha : PySem.W.findIn K (.ref C) "__class__" = some (some (.builtin "object.__class__"))
  hn : PySem.W.specialIn K (.builtin "object.__class__") "__get__" = some (some (.builtin "getset_descriptor.__get__"))
  htk : PySem.W.takesIn K (.builtin "object.__class__") = some true
  hm : PySem.W.mroIn K C (.type "object") = some true
structure IsiOk (K : PySem.W.Frag) (isi : Isi) : Prop where
  kit : ∀ k c b, isi.lookup (k, c) = some b → PySem.W.kitOne K (k.v K) (c.v K) = some b
  ins : ∀ C c b, isi.lookup (.own C, c) = some b → InsF K (He.ga K C)
theorem cl_isi {X : Cx} : CallR X (.builtin "isinstance") (rIsi X.K) := call_isi
section
variable {K : PySem.W.Frag} {xs : Xs}
theorem tyX_D {isi : Isi} (hI : IsiOk K isi) {H : Hp} {d : D} {k c : XC} {b : Bool} {v : V} (e : kindD d = some k) (q : isi.lookup (k, c) = some b) (h : Rep K H d v) : TyX K H v (k.v K) := by
  cases d with
  | non => cases e; cases (show v = _ from h); exact .base .non
  | bl b => cases e; cases (show v = _ from h); exact .base (.bl b)
  | int b => cases e; cases (show v = _ from h); exact .base (.int b)
  | str b => cases e; cases (show v = _ from h); exact .base (.str b)
  | lst b => cases e; obtain ⟨a, vs, rfl, ha, _⟩ := h; exact .base (.lst ha)
  | tup b =>
    cases e
    obtain ⟨a, vs, rfl, ha, _⟩ := h
    rcases ha with (ha | ⟨o, ha⟩) | ⟨o, its, n, h1, h2, _⟩
    · exact .base (.tup ha)
    · exact .fTuple ha
    · exact .kTuple h1 h2
  | dic b =>
    cases e
    obtain ⟨a, vs, rfl, ha, _⟩ := h
    rcases ha with ha | ⟨o, ha⟩
    · exact .base (.dK ha)
    · exact .fDict ha
  | ins C fs =>
    cases e
    obtain ⟨a, dx, vs, rfl, ha, _⟩ := h
    have f := hI.ins C c b q
    exact .base (.ins ha f.cl f.ha f.hn f.htk f.hm)
  | slf C fs =>
    cases e
    obtain ⟨a, dx, vs, rfl, ha, _⟩ := h
    have f := hI.ins C c b q
    exact .base (.ins ha f.cl f.ha f.hn f.htk f.hm)
  | _ => cases e
theorem tyX_S {isi : Isi} (hI : IsiOk K isi) {ec : EC} {δ : Sta} {σ : L2.St} {I : Hp} {as : List Addr} {H : Hp} (r : R K ec δ σ I as H) {s : SV} {k c : XC} {b : Bool} {v : V} (e : kindS δ s = some k) (q : isi.lookup (k, c) = some b) (h : RV K I as s v) : TyX K H v (k.v K) := by
  cases s with
  | no => cases e
  | im d => exact tyX_D hI e q (Rep.mono r.ih _ _ h)
  | cl cc =>
    obtain ⟨a, ha, rfl⟩ := h
    unfold kindS at e
    dsimp only at e
    cases qc : δ.ce[cc]? with
    | none => rw [qc] at e; cases e
    | some o =>
      rw [qc] at e
      have z := r.cells cc o a qc ha
      cases o with
      | fz d => exact tyX_D hI e q (Rep.mono r.ih _ _ z)
      | lst _ => cases e; obtain ⟨_, vs, h1, _⟩ := z; exact .base (.lst h1)
      | tup _ => cases e; obtain ⟨_, vs, h1, _⟩ := z; exact .base (.tup h1)
      | dic _ => cases e; obtain ⟨_, vs, h1, _⟩ := z; exact .base (.dK h1)
      | ins C _ =>
        cases e
        obtain ⟨_, dx, vs, h1, _⟩ := z
        have f := hI.ins C c b q
        exact .base (.ins h1 f.cl f.ha f.hn f.htk f.hm)
      | exc _ _ => cases e
      | dead => cases e
theorem ok_isi {isi : Isi} (hI : IsiOk K isi) : CbOk K xs (rIsi K) (isiA isi) := by
  intro fr ss δ Ψ Ξ h σ I as H Q vs r h1 c
  unfold isiA at h
  split at h
  · obtain ⟨w, _, rfl, hw, w', _, rfl, hw', rfl⟩ := h1
    split at h
    · rename_i k d ek ed
      split at h
      · rename_i cc ec
        split at h
        · rename_i b q
          have rep := r.dv ed hw'
          have cv : ClsV w' (cc.v K) := by
            cases d with
            | ty n => cases ec; cases (show w' = _ from rep); exact .ty n
            | glo x => cases ec; cases (show w' = _ from rep); exact .own _
            | _ => cases ec
          exact ⟨w, w', _, _, b, rfl, cv, tyX_S hI r ek q hw, hI.kit k cc b q, c (.im (.bl b)) δ _ I as H r (Le.refl I as) rfl h⟩
        · exact h.elim
      · exact h.elim
    · exact h.elim
  · exact h.elim
end
end Fx

set_option Elab.async false
set_option linter.all false
set_option autoImplicit false
set_option maxRecDepth 100000
set_option maxHeartbeats 2000000
namespace Fx
open PySem PySem.Spec PyProof.Rows L2
/-! ## fields and constants of classes -/
/-- the classes: of each its fields; its constants -/
structure CT where
  fl : List (Str × List Str)
  cn : List ((Str × Str) × D)
def CT.has (ct : CT) (C f : Str) : Bool := match ct.fl.lookup C with
  | some fs => fs.contains f
  | none => false
structure CtOk (K : PySem.W.Frag) (ct : CT) : Prop where
  cls : ∀ C fs, ct.fl.lookup C = some fs → Cls K (He.ga K C)
  fl : ∀ C f, ct.has C f = true → NoAttr K (He.ga K C) f
  cn : ∀ C f d, ct.cn.lookup (C, f) = some d → Cls K (He.ga K C) ∧ ∃ v u, Con K (He.ga K C) f v u ∧ ∀ I, Rep K I d v
theorem CtOk.clsOf {K : PySem.W.Frag} {ct : CT} (h : CtOk K ct) {C f : Str} (q : ct.has C f = true) : Cls K (He.ga K C) := by
  unfold CT.has at q
  split at q
  · rename_i fs e; exact h.cls C fs e
  · cases q
def aFld (ct : CT) (a : AE) (f : Str) : AE := fun δ => (a δ).bind fun s δ1 => match s with
  | .im (.ins C fs) => (match fs.lookup f with
    | some d => if ct.has C f = true then .ok (.im d) δ1 else .bad
    | none => (match ct.cn.lookup (C, f) with
      | some d => .ok (.im d) δ1
      | none => .bad))
  | .im (.slf C fs) => (match fs.lookup f with
    | some d => if ct.has C f = true then .ok (.im (selfF (.slf C fs) d)) δ1 else .bad
    | none => (match ct.cn.lookup (C, f) with
      | some d => .ok (.im d) δ1
      | none => .bad))
  | .cl c => (match δ1.ce[c]? with
    | some (.ins C fs) => (match fs.lookup f with
      | some t => if ct.has C f = true then .ok (nrm δ1.ce t) δ1 else .bad
      | none => (match ct.cn.lookup (C, f) with
        | some d => .ok (.im d) δ1
        | none => .bad))
    | _ => .bad)
  | _ => .bad
/-! ## calls -/
abbrev EW (W : WX) : L2.St → XK := fun σ cls d H => W cls d σ H
/-- a def by its name, so many parameters, the defaults that fill up -/
structure GF (P : Program) (w : World) (K : PySem.W.Frag) (mg : Str → Option Value) (base : Heap) (x : Str) (n : Nat) (dds : List D) (k : Nat) (F : Fn) : Prop where
  ex : ∃ (f : Addr) (fd : FuncData) (ps : List Str) (ds : List Value) (dvs : List V), FnG P w K mg base (CX P w) k f fd ps (spFn K n F) ∧ mg x = some (.ref f) ∧ PySem.W.keepIn K (.ref f) = true ∧ Binds K fd ps ds ∧ Vals dvs ds ∧ ∀ I, RepL K I dds dvs
/-- a class by its name -/
structure GK (P : Program) (w : World) (K : PySem.W.Frag) (mg : Str → Option Value) (base : Heap) (x : Str) (n : Nat) (dds : List D) (k : Nat) (F : Fn) : Prop where
  ex : ∃ (f : Addr) (fd : FuncData) (ps : List Str) (ds : List Value) (dvs : List V), FnG P w K mg base (CX P w) k f fd ps (spFn K n F) ∧ Mk K (He.ga K x) f ∧ mg x = some (.ref (He.ga K x)) ∧ Binds K fd ps ds ∧ Vals dvs ds ∧ ∀ I, RepL K I dds dvs
/-- a method of some classes -/
abbrev MTab := List (Str × (Nat × Fn))
structure GM (P : Program) (w : World) (K : PySem.W.Frag) (mg : Str → Option Value) (base : Heap) (m : Str) (k : Nat) (tab : MTab) : Prop where
  ex : ∀ C n F, tab.lookup C = some (n, F) → ∃ (f : Addr) (fd : FuncData) (ps : List Str), Cls K (He.ga K C) ∧ Meth K (He.ga K C) m f ∧ FnG P w K mg base (CX P w) k f fd ps (spFn K n F) ∧ Binds K fd ps []
def tCallF (K : PySem.W.Frag) (n : Nat) (F : Fn) (dds : List D) (W : WX) (t : TA) : TE := fun σ H Q => t σ H fun vs H1 => ∀ dvs, (∀ I, RepL K I dds dvs) → spFn K n F (vs ++ dvs) H1 Q (EW W σ)
def tMakeF (K : PySem.W.Frag) (x : Str) (n : Nat) (F : Fn) (dds : List D) (W : WX) (t : TA) : TE := fun σ H Q => t σ H fun vs H1 => ∀ dvs, (∀ I, RepL K I dds dvs) → ∀ o dx, H1 o = none → H1 dx = none → dx ≠ o →
  spFn K n F (.ref o :: (vs ++ dvs)) (upd (upd H1 dx (.own o)) o (.ins (He.ga K x) dx [])) (fun v H2 => v = .non ∧ Q (.ref o) H2) (EW W σ)
section
variable {X : Cx} {P : Program} {w : World} {K : PySem.W.Frag} {mg : Str → Option Value} {base : Heap} {k n : Nat} {F : Fn} {dds : List D} {x m : Str} {p pos apos : Pos} {e o : Expr} {es : List Expr} {t : TA} {ta : TE} {W : WX} {tab : MTab}
abbrev Same5 (X : Cx) (P : Program) (w : World) (K : PySem.W.Frag) (mg : Str → Option Value) (base : Heap) : Prop := X.prog = P ∧ X.w = w ∧ X.K = K ∧ X.mg = mg ∧ X.base = base
theorem pe_cf (G : GF P w K mg base x n dds k F) (hr : RoomG k X.A) (hg : Gl X x) (tk : Takes X W) (ha : PA X (e :: es) t) (hX : Same5 X P w K mg base := by exact ⟨rfl, rfl, rfl, rfl, rfl⟩) (hdb : (x == ("__debug__" : Str)) = false := by decide)
    (he : starEach (e :: es) X.env = (false, eval e X.env) :: starEach es X.env := by rfl) (hpl : (backTo pos (starEach es X.env)).any (·.1) = false := by rfl) : PE X (.Call (.Name x p) (e :: es) [] pos) (tCallF K n F dds W t) := by
  obtain ⟨rfl, rfl, rfl, rfl, rfl⟩ := hX
  obtain ⟨f, fd, ps, ds, dvs, Fo, hm, hk, hb, hd, rp⟩ := G.ex
  refine ⟨fun pins s σ H Q I h => ?_⟩
  refine wpAny_Call_Name_kw (ld_glob I hg hm ?_ hdb)
  refine PySem.W.callWith_K (h₀ := X.base) I.ok.mod.kin hk (thn (ha.run pos pins s σ H _ I h) fun us s1 ⟨vs, H1, I1, r, q⟩ => ⟨I1.kIn, ?_⟩) he hpl
  exact run_fnG (E := EW W) Fo hr hb hd (passAt tk σ) I1 r (q dvs rp)
theorem run_makeS {CX : CXT} {f C : Addr} {fd : FuncData} {ps : List Str} {sp : Sp} {dvs : List V} {ds : List Value} {E : XK} {pins : List (Addr × Obj)} {σ : L2.St} {H : Hp} {s : Shared} {Q : VK} {us : List Value} {vs : List V} (M : Mk X.K C f) (F : FnG X.prog X.w X.K X.mg X.base CX k f fd ps sp) (hr : RoomG (k + 1) X.A) (hb : Binds X.K fd ps ds) (hd : Vals dvs ds)
    (hx : PassesAt CX X σ E) (I : Inv X pins σ H s) (r : Vals vs us)
    (h : ∀ x dx, H x = none → H dx = none → dx ≠ x → sp (.ref x :: (vs ++ dvs)) (upd (upd H dx (.own x)) x (.ins C dx [])) (fun v H2 => v = .non ∧ Q (.ref x) H2) E) :
    wpAny (model X.prog X.w) X.A (call (.ref C) us) (EP X pins σ Q) X.xe s := by
  have hq := h (s.heap.objs.size + 1) s.heap.objs.size (I.hok.fresh (Nat.le_succ _)) (I.hok.fresh (Nat.le_refl _)) (Nat.ne_of_lt (Nat.lt_succ_self _))
  have I2 := Inv.made (C := C) I
  have r2 : Vals (V.ref (s.heap.objs.size + 1) :: (vs ++ dvs)) (Value.ref (s.heap.objs.size + 1) :: (us ++ ds)) := .cons rfl (r.append hd)
  have hl : (Value.ref (s.heap.objs.size + 1) :: us ++ ds).length = ps.length := by
    have e := r2.length
    rw [F.len _ _ _ _ hq] at e
    exact e.symm
  refine wpAny_call (make_map (f := f) I.kIn M.makes M.init (beq_iff_eq.mp M.fn) (codeAny_mono (F.run _ X.stack _ _ ⟨Value.ref (s.heap.objs.size + 1) :: us, []⟩ (Value.ref (s.heap.objs.size + 1) :: (us ++ ds)) _ _ E (hr.make C us [])
    (I2.env0.make C us []) (hb _ (Value.ref (s.heap.objs.size + 1) :: us) I2.kIn hl) r2 hq) fun r s' hq' => ?_))
  cases r with
  | error e => exact hx pins _ _ e s' I2 hq'
  | ok fl =>
    cases fl with
    | ret u =>
      obtain ⟨v, H', I3, rv, ev, q3⟩ := I2.after hq'
      subst ev
      exact ⟨rv, ⟨V.ref (s.heap.objs.size + 1), H', I3, rfl, q3⟩⟩
    | next => exact False.elim hq'
    | brk => exact False.elim hq'
    | cont => exact False.elim hq'
theorem pe_mk (G : GK P w K mg base x n dds k F) (hr : RoomG (k + 1) X.A) (hg : Gl X x) (tk : Takes X W) (ha : PA X (e :: es) t) (hX : Same5 X P w K mg base := by exact ⟨rfl, rfl, rfl, rfl, rfl⟩) (hdb : (x == ("__debug__" : Str)) = false := by decide)
    (he : starEach (e :: es) X.env = (false, eval e X.env) :: starEach es X.env := by rfl) (hpl : (backTo pos (starEach es X.env)).any (·.1) = false := by rfl) : PE X (.Call (.Name x p) (e :: es) [] pos) (tMakeF K x n F dds W t) := by
  obtain ⟨rfl, rfl, rfl, rfl, rfl⟩ := hX
  obtain ⟨f, fd, ps, ds, dvs, Fo, M, hm, hb, hd, rp⟩ := G.ex
  refine ⟨fun pins s σ H Q I h => ?_⟩
  refine wpAny_Call_Name_kw (ld_glob I hg hm ?_ hdb)
  refine PySem.W.callWith_K (h₀ := X.base) I.ok.mod.kin M.kp (thn (ha.run pos pins s σ H _ I h) fun us s1 ⟨vs, H1, I1, r, q⟩ => ⟨I1.kIn, ?_⟩) he hpl
  exact run_makeS (E := EW W σ) M Fo hr hb hd (passAt tk σ) I1 r (q dvs rp)
end
/-! the calls as outcomes -/
def out1 (sl : List SV) : Out (List CO) SV → O SV
  | .ok s ce => .ok s ⟨sl, ce⟩
  | .ex x ce => .ex x ⟨sl, ce⟩
  | .bad => .bad
def aCall (n : Nat) (F : Fn) (dds : List D) (r : AA) : AE := fun δ => (r δ).bind fun ss δ1 => if (ss ++ dds.map SV.im).length = n then out1 δ1.sl (F (ss ++ dds.map SV.im) δ1.ce) else .bad
/-- C(..): a new instance, filled by __init__; data behind it -/
def aMake (x : Str) (n : Nat) (F : Fn) (dds : List D) (r : AA) : AE := fun δ => (r δ).bind fun ss δ1 => if (SV.cl δ1.ce.length :: (ss ++ dds.map SV.im)).length = n then (match F (.cl δ1.ce.length :: (ss ++ dds.map SV.im)) (δ1.ce ++ [.ins x []]) with
  | .ok (.im .non) ce => (match frz ce δ1.ce.length with
    | some (d, ce1) => (match cutTo δ1.ce ce1 with
      | some ce2 => .ok (.im d) ⟨δ1.sl, ce2⟩
      | none => .ok (.im d) ⟨δ1.sl, ce1⟩)
    | none => .bad)
  | .ok _ _ => .bad
  | .ex y ce => (match cutTo δ1.ce ce with
      | some ce2 => if (y.fs.all fun p => p.2.bnd ce2.length) = true then .ex y ⟨δ1.sl, ce2⟩ else .ex y ⟨δ1.sl, ce⟩
      | none => .ex y ⟨δ1.sl, ce⟩)
  | .bad => .bad) else .bad
/-- .. that stays a cell -/
def aMakeC (x : Str) (n : Nat) (F : Fn) (dds : List D) (r : AA) : AE := fun δ => (r δ).bind fun ss δ1 => if (SV.cl δ1.ce.length :: (ss ++ dds.map SV.im)).length = n then (match F (.cl δ1.ce.length :: (ss ++ dds.map SV.im)) (δ1.ce ++ [.ins x []]) with
  | .ok (.im .non) ce => .ok (.cl δ1.ce.length) ⟨δ1.sl, ce⟩
  | .ok _ _ => .bad
  | .ex y ce => .ex y ⟨δ1.sl, ce⟩
  | .bad => .bad) else .bad
def clsS (δ : Sta) (m : Str) : SV → Option Str
  | .im (.ins C fs) => if (fs.lookup m).isSome then none else some C
  | .im (.slf C fs) => if (fs.lookup m).isSome then none else some C
  | .cl c => match δ.ce[c]? with
    | some (.ins C fs) => if (fs.lookup m).isSome then none else some C
    | _ => none
  | _ => none
def aMeth (tab : MTab) (m : Str) (a : AE) (r : AA) : AE := fun δ => (a δ).bind fun s δ1 => match clsS δ1 m s with
  | some C => (match tab.lookup C with
    | some (n, F) => (r δ1).bind fun ss δ2 => if (s :: ss).length = n then out1 δ2.sl (F (s :: ss) δ2.ce) else .bad
    | none => .bad)
  | none => .bad
section
variable {K : PySem.W.Frag} {xs : Xs} {W : WX} {ta : TE} {a : AE} {tr : TA} {r : AA} {n : Nat} {F : Fn} {dds : List D}
theorem rvl_app {I : Hp} {as : List Addr} : ∀ {s1 s2 : List SV} {w1 w2 : List V}, RVL K I as s1 w1 → RVL K I as s2 w2 → RVL K I as (s1 ++ s2) (w1 ++ w2)
  | [], _, w1, _, h1, h2 => by rw [show w1 = [] from h1]; exact h2
  | s :: ss, _, _, _, ⟨v, r, e, g1, g2⟩, h2 => by subst e; exact ⟨v, _, rfl, g1, rvl_app g2 h2⟩
/-- a def is run: from its outcome to its promise -/
theorem sp_of {fr : Hp} {δ : Sta} {σ : L2.St} {I : Hp} {as : List Addr} {H : Hp} {Q : VK} {ss : List SV} {vs : List V} {Ψ : SV → Sta → Prop} {Ξ : Xn → Sta → Prop} (r : R K ⟨xs, fr⟩ δ σ I as H) (rv : RVL K I as ss vs) (hl : ss.length = n) (h : (out1 δ.sl (F ss δ.ce)).sat Ψ Ξ) (c : ConE K ⟨xs, fr⟩ σ I as W Ψ Ξ Q) :
    spFn K n F vs H Q (EW W σ) := by
  refine ⟨by rw [rv.length]; exact hl, xs, fr, ss, δ.ce, as, I, r.bare, rv, ⟨?_⟩⟩
  cases q : F ss δ.ce with
  | ok s ce => rw [q] at h; exact fun v I' as' H' r' l' rv' => c.v s ⟨δ.sl, ce⟩ v I' as' H' (R.reslot r' r l') l' rv' h
  | ex x ce => rw [q] at h; exact fun d I' as' H' r' l' xr => c.x x ⟨δ.sl, ce⟩ d I' as' H' (R.reslot r' r l') l' xr h
  | bad => rw [q] at h; exact h
theorem se_call (hr : SA K xs W tr r) : SE K xs W (tCallF K n F dds W tr) (aCall n F dds r) := by
  intro fr δ Ψ Ξ h σ I as H Q rr c
  refine hr fr δ _ _ (Out.sat_bind h) σ I as H _ rr ⟨fun ss δ1 vs I1 as1 H1 r1 l1 rv k => ?_, c.x⟩
  intro dvs rp
  split at k
  · rename_i hl
    exact sp_of r1 (rvl_app rv (rvl_im (rp I1))) hl k (c.later l1)
  · exact k.elim
theorem slBnd {ec : EC} {δ : Sta} {σ : L2.St} {I : Hp} {as : List Addr} {H : Hp} (r : R K ec δ σ I as H) {k : Nat} (hk : δ.ce.length ≤ k) : δ.sl.map (cutS k) = δ.sl := by
  have h : ∀ s ∈ δ.sl, cutS k s = s := fun s hs => by
    obtain ⟨i, hi⟩ := List.getElem?_of_mem hs
    rcases r.slots i s hi with q | ⟨v, _, q⟩
    · subst q; rfl
    · have := q.bnd
      rw [r.clen] at this
      cases s with
      | no => rfl
      | im d => rfl
      | cl c => exact if_pos (Nat.lt_of_lt_of_le (of_decide_eq_true (show decide (c < δ.ce.length) = true from this)) hk)
  rw [List.map_congr_left (g := id) h, List.map_id]
theorem se_make {x : Str} (hr : SA K xs W tr r) : SE K xs W (tMakeF K x n F dds W tr) (aMake x n F dds r) := by
  intro fr δ Ψ Ξ h σ I as H Q rr c
  refine hr fr δ _ _ (Out.sat_bind h) σ I as H _ rr ⟨fun ss δ1 vs I1 as1 H1 r1 l1 rv k => ?_, c.x⟩
  intro dvs rp o dx ho hdx ne
  split at k
  · rename_i hl
    obtain ⟨r2, l2⟩ := r1.newF (o := .own o) hdx
    have ho2 : upd H1 dx (.own o) o = none := by rw [upd_ne (Ne.symm ne)]; exact ho
    have hn := none_back r2.ih ho2
    obtain ⟨r3, l3⟩ := r2.newC (o := .ins (He.ga K x) dx []) (co := .ins x []) ho2 ⟨hn, dx, [], upd_same, rfl⟩ rfl
    have l23 := l2.trans l3
    have hxa : (as1 ++ [o])[δ1.ce.length]? = some o := by rw [← r1.clen]; simp
    have rv' : RVL K (upd I1 dx (.own o)) (as1 ++ [o]) (.cl δ1.ce.length :: (ss ++ dds.map SV.im)) (.ref o :: (vs ++ dvs)) :=
      ⟨_, _, rfl, ⟨o, hxa, rfl⟩, rvl_app (rv.mono l23) (rvl_im (rp _))⟩
    have c1 := c.later l1
    refine ⟨by rw [rv'.length]; exact hl, xs, fr, _, _, _, _, r3.bare, rv', ⟨?_⟩⟩
    show (F (.cl δ1.ce.length :: (ss ++ dds.map SV.im)) (δ1.ce ++ [.ins x []])).sat _ _
    cases q : F (.cl δ1.ce.length :: (ss ++ dds.map SV.im)) (δ1.ce ++ [.ins x []]) with
    | bad => rw [q] at k; exact k
    | ok s ce =>
      rw [q] at k
      cases s with
      | no => exact k.elim
      | cl _ => exact k.elim
      | im d0 =>
        cases d0 with
        | non =>
          dsimp only at k
          intro v I' as' H' r' l' rvv
          refine ⟨rvv, ?_⟩
          have hxa' := l'.a _ _ hxa
          split at k
          · rename_i d ce1 qf
            obtain ⟨I4, r4, l4, rep⟩ := R.frz r' qf
            have rep := rep o hxa'
            have l14 := (l23.trans l').trans l4
            split at k
            · rename_i ce2 qc
              obtain ⟨r5, l5, _, _, hle⟩ := R.cutTo r1 (R.reslot r4 r1 l14) l14 qc
              have r6 : R K ⟨xs, fr⟩ ⟨δ1.sl, ce2⟩ σ I4 (as'.take ce2.length) H' := by rw [slBnd r1 hle] at r5; exact r5
              exact c1.v (.im d) _ _ I4 _ H' r6 l5 rep k
            · exact c1.v (.im d) _ _ I4 as' H' (R.reslot r4 r1 l14) l14 rep k
          · exact k.elim
        | _ => exact k.elim
    | ex y ce =>
      rw [q] at k
      dsimp only at k
      intro d I' as' H' r' l' xr
      have l14 := l23.trans l'
      split at k
      · rename_i ce2 qc
        split at k
        · rename_i hb
          obtain ⟨r5, l5, _, _, hle⟩ := R.cutTo r1 (R.reslot r' r1 l14) l14 qc
          have r6 : R K ⟨xs, fr⟩ ⟨δ1.sl, ce2⟩ σ I' (as'.take ce2.length) H' := by rw [slBnd r1 hle] at r5; exact r5
          exact c1.x y _ d I' _ H' r6 l5 (xr.cut hb) k
        · exact c1.x y _ d I' as' H' (R.reslot r' r1 l14) l14 xr k
      · exact c1.x y _ d I' as' H' (R.reslot r' r1 l14) l14 xr k
  · exact k.elim
end
end Fx

set_option Elab.async false
set_option linter.all false
set_option autoImplicit false
set_option maxRecDepth 100000
set_option maxHeartbeats 2000000
namespace Fx
open PySem L2
/-! ## targets -/
def gNm (i : Nat) : AG := fun s δ => some ⟨δ.sl.set i s, δ.ce⟩
def gAll : List AG → List D → Sta → Option Sta
  | [], [], δ => some δ
  | g :: gs, d :: ds, δ => match g (.im d) δ with
    | some δ1 => gAll gs ds δ1
    | none => none
  | _, _, _ => none
def gTp (gs : List AG) : AG := fun s δ => match imS δ.ce s with
  | some (.tup ds) => gAll gs ds δ
  | _ => none
/-- x.f = s, x in the slot i -/
def gFl (ct : CT) (i : Nat) (f : Str) : AG := fun s δ => match δ.sl[i]? with
  | some (.cl c) => (match δ.ce[c]? with
    | some (.ins C fs) => if ct.has C f = true ∧ fs.length < 1000 then some ⟨δ.sl, δ.ce.set c (.ins C (putFS f s fs))⟩ else none
    | _ => none)
  | _ => none
/-- a[i] = s, a a list -/
def gIx (a b : AE) : AG := fun s δ => match a δ with
  | .ok (.cl c) δ1 => (match b δ1 with
    | .ok t δ2 => (match δ2.ce[c]?, dv δ2.ce t with
      | some (.lst us), some (.int k) => (match ixN us.length k with
        | some j => some ⟨δ2.sl, δ2.ce.set c (.lst (us.set j s))⟩
        | none => none)
      | _, _ => none)
    | _ => none)
  | _ => none
def SGs (K : PySem.W.Frag) (xs : Xs) (g : TGs) (n : Nat) (gs : List AG) : Prop := gs.length = n ∧ ∀ fr ds δ (Φ : Sta → Prop), (match gAll gs ds δ with | some δ' => Φ δ' | none => False) → WGs K ⟨xs, fr⟩ g ds Φ δ
section
variable {K : PySem.W.Frag} {xs : Xs} {W : WX} {ta tb te : TE} {a b : AE}
theorem sg_nm (i : Nat) : SG K xs (gName i) (gNm i) := fun fr s δ Φ h => wg_name h
theorem sgs_nil : SGs K xs gNil 0 [] := ⟨rfl, fun fr ds δ Φ h => by
  cases ds with
  | nil => exact wgs_nil h
  | cons d ds => exact h.elim⟩
theorem sgs_cons {g : TG} {gs : TGs} {n : Nat} {p : AG} {ps : List AG} (hg : SG K xs g p) (hs : SGs K xs gs n ps) : SGs K xs (gCons g gs) (n + 1) (p :: ps) := ⟨by rw [List.length_cons, hs.1], fun fr ds δ Φ h => by
  cases ds with
  | nil => exact h.elim
  | cons d ds =>
    refine wgs_cons (hg fr (.im d) δ _ ?_)
    unfold gAll at h
    cases q : p (.im d) δ with
    | none => rw [q] at h; exact h
    | some δ1 => rw [q] at h; exact hs.2 fr ds δ1 Φ h⟩
theorem gAll_len : ∀ {gs : List AG} {ds : List D} {δ δ' : Sta}, gAll gs ds δ = some δ' → ds.length = gs.length
  | [], [], _, _, _ => rfl
  | [], _ :: _, _, _, h => by cases h
  | _ :: _, [], _, _, h => by cases h
  | g :: gs, d :: ds, δ, δ', h => by
    unfold gAll at h
    split at h
    · rw [List.length_cons, List.length_cons, gAll_len h]
    · cases h
theorem sg_tp {gs : TGs} {n : Nat} {ps : List AG} (hs : SGs K xs gs n ps) : SG K xs (gTup K n gs) (gTp ps) := fun fr s δ Φ h => by
  unfold gTp at h
  split at h
  · rename_i δ' q
    split at q
    · rename_i ds e
      exact wg_tup e (by rw [gAll_len q, hs.1]) (hs.2 fr ds δ Φ (by rw [q]; exact h))
    · cases q
  · exact h.elim
theorem sg_fl {ct : CT} (hC : CtOk K ct) (i : Nat) (f : Str) : SG K xs (gFld K (tVar i) f) (gFl ct i f) := fun fr s δ Φ h => by
  unfold gFl at h
  split at h
  · rename_i δ' q
    split at q
    · rename_i c e
      split at q
      · rename_i C fs e2
        split at q
        · rename_i hh
          cases q
          exact wg_fld e e2 (hC.clsOf hh.1) (hC.fl C f hh.1) hh.2 h
        · cases q
      · cases q
    · cases q
  · exact h.elim
theorem sg_ix (ha : SE K xs W0 ta a) (hb : SE K xs W0 tb b) : SG K xs (gSub ta tb rSetL) (gIx a b) := fun fr s δ Φ h => by
  unfold gIx at h
  split at h
  · rename_i δ' q
    refine wg_setL ?_
    cases qa : a δ with
    | bad => rw [qa] at q; cases q
    | ex x δ1 => rw [qa] at q; cases q
    | ok t δ1 =>
      rw [qa] at q
      cases t with
      | no => cases q
      | im d => cases q
      | cl c =>
        dsimp only at q
        cases qb : b δ1 with
        | bad => rw [qb] at q; cases q
        | ex x δ2 => rw [qb] at q; cases q
        | ok u δ2 =>
          rw [qb] at q
          dsimp only at q
          split at q
          · rename_i us k e1 e2
            split at q
            · rename_i j e3
              cases q
              refine ha fr δ _ _ ?_
              rw [qa]
              refine hb fr δ1 _ _ ?_
              rw [qb]
              exact ⟨c, us, k, j, rfl, e1, e2, e3, h⟩
            · cases q
          · cases q
  · exact h.elim
end
/-! ## statements -/
def aNext : AS := fun δ => .nx δ
def aSeq (a b : AS) : AS := fun δ => match a δ with
  | .nx δ1 => b δ1
  | o => o
def aAsg (e : AE) (g : AG) : AS := fun δ => match e δ with
  | .ok s δ1 => (match g s δ1 with
    | some δ2 => .nx δ2
    | none => .bad)
  | .ex x δ1 => .ex x δ1
  | .bad => .bad
def aRet (e : AE) : AS := fun δ => match e δ with
  | .ok s δ1 => .rt s δ1
  | .ex x δ1 => .ex x δ1
  | .bad => .bad
def aRetN : AS := fun δ => .rt (.im .non) δ
def aExpr (e : AE) : AS := fun δ => match e δ with
  | .ok _ δ1 => .nx δ1
  | .ex x δ1 => .ex x δ1
  | .bad => .bad
def aIfS (t : AT) (a b : AS) : AS := fun δ => match t δ with
  | .ok c δ1 => if c = true then a δ1 else b δ1
  | .ex x δ1 => .ex x δ1
  | .bad => .bad
def aPar (i j : Nat) (r : AA) : AS := fun δ => match r δ with
  | .ok [s, t] δ1 => .nx ⟨(δ1.sl.set i s).set j t, δ1.ce⟩
  | .ok _ _ => .bad
  | .ex x δ1 => .ex x δ1
  | .bad => .bad
def aBreak : AS := fun δ => .bk δ
def aCont : AS := fun δ => .ct δ
def aNever : AS := fun _ => .bad
/-- d[k] = v -/
def aDput (d k v : AE) : AS := fun δ => match v δ with
  | .ok s δ1 => (match d δ1 with
    | .ok (.cl c) δ2 => (match k δ2 with
      | .ok y δ3 => (match δ3.ce[c]?, dv δ3.ce y with
        | some (.dic kvs), some kd => (match keyOf kd with
          | some kk => if kvs.length < 1000 then .nx ⟨δ3.sl, δ3.ce.set c (.dic (putS kvs kk s))⟩ else .bad
          | none => .bad)
        | _, _ => .bad)
      | .ex x δ3 => .ex x δ3
      | .bad => .bad)
    | .ok _ _ => .bad
    | .ex x δ2 => .ex x δ2
    | .bad => .bad)
  | .ex x δ1 => .ex x δ1
  | .bad => .bad
def forL (g : AG) (body : AS) : List D → Sta → OutS
  | [], δ => .nx δ
  | d :: ds, δ => match g (.im d) δ with
    | none => .bad
    | some δ1 => match body δ1 with
      | .nx δ2 => forL g body ds δ2
      | .ct δ2 => forL g body ds δ2
      | .bk δ2 => .nx δ2
      | o => o
def aFor (it : AI) (g : AG) (body : AS) : AS := fun δ => match it δ with
  | .ok ds δ1 => forL g body ds δ1
  | .ex x δ1 => .ex x δ1
  | .bad => .bad
/-- behind a turn: the cells that it made are dropped -/
def cutTurn (ce0 : List CO) (δ : Sta) : Sta := match cutTo ce0 δ.ce with
  | some ce2 => ⟨δ.sl.map (cutS ce2.length), ce2⟩
  | none => δ
def forLC (ce0 : List CO) (g : AG) (body : AS) : List D → Sta → OutS
  | [], δ => .nx δ
  | d :: ds, δ => match g (.im d) δ with
    | none => .bad
    | some δ1 => match body δ1 with
      | .nx δ2 => forLC ce0 g body ds (cutTurn ce0 δ2)
      | .ct δ2 => forLC ce0 g body ds (cutTurn ce0 δ2)
      | .bk δ2 => .nx δ2
      | o => o
def aForC (it : AI) (g : AG) (body : AS) : AS := fun δ => match it δ with
  | .ok ds δ1 => forLC δ1.ce g body ds δ1
  | .ex x δ1 => .ex x δ1
  | .bad => .bad
/-- while, at most n turns -/
def whileN (t : AT) (body : AS) : Nat → Sta → OutS
  | 0, _ => .bad
  | n + 1, δ => match t δ with
    | .ok c δ1 => if c = true then (match body δ1 with
        | .nx δ2 => whileN t body n δ2
        | .ct δ2 => whileN t body n δ2
        | .bk δ2 => .nx δ2
        | o => o) else .nx δ1
    | .ex x δ1 => .ex x δ1
    | .bad => .bad
def aWhile (n : Nat) (t : AT) (body : AS) : AS := whileN t body n
section
variable {K : PySem.W.Frag} {xs : Xs} {W : WX} {ta tb te : TE} {e : AE} {t : TT} {p : AT} {ts us : TS} {a b : AS} {tr : TA} {r : AA}
theorem ss_next : SS K xs W tNext aNext := fun fr δ Φ h => ws_next h
theorem ss_seq (ha : SS K xs W ts a) (hb : SS K xs W us b) : SS K xs W (tSeq ts us) (aSeq a b) := fun fr δ Φ h => by
  refine ws_seq (ha fr δ _ ?_)
  unfold aSeq at h
  cases q : a δ with
  | nx δ1 => rw [q] at h; exact hb fr δ1 Φ h
  | rt s δ1 => rw [q] at h; exact h
  | bk δ1 => rw [q] at h; exact h
  | ct δ1 => rw [q] at h; exact h
  | ex x δ1 => rw [q] at h; exact h
  | bad => rw [q] at h; exact h
theorem ss_asg {g : TG} {ag : AG} (he : SE K xs W te e) (hg : SG K xs g ag) : SS K xs W (tAsg te g) (aAsg e ag) := fun fr δ Φ h => by
  refine ws_asg (he fr δ _ _ ?_)
  unfold aAsg at h
  cases q : e δ with
  | ok s δ1 =>
    rw [q] at h
    refine hg fr s δ1 _ ?_
    dsimp only at h
    cases q2 : ag s δ1 with
    | none => rw [q2] at h; exact h
    | some δ2 => rw [q2] at h; exact h
  | ex x δ1 => rw [q] at h; exact h
  | bad => rw [q] at h; exact h
theorem ss_ret (he : SE K xs W te e) : SS K xs W (tRet te) (aRet e) := fun fr δ Φ h => by
  refine ws_ret (he fr δ _ _ ?_)
  unfold aRet at h
  cases q : e δ with
  | ok s δ1 => rw [q] at h; exact h
  | ex x δ1 => rw [q] at h; exact h
  | bad => rw [q] at h; exact h
theorem ss_expr (he : SE K xs W te e) : SS K xs W (tDrop te) (aExpr e) := fun fr δ Φ h => by
  refine ws_drop (he fr δ _ _ ?_)
  unfold aExpr at h
  cases q : e δ with
  | ok s δ1 => rw [q] at h; exact h
  | ex x δ1 => rw [q] at h; exact h
  | bad => rw [q] at h; exact h
theorem ss_if (ht : ST K xs W t p) (ha : SS K xs W ts a) (hb : SS K xs W us b) : SS K xs W (tIfS t ts us) (aIfS p a b) := fun fr δ Φ h => by
  refine ws_if (ht fr δ _ _ ?_)
  unfold aIfS at h
  cases q : p δ with
  | ok c δ1 =>
    rw [q] at h
    dsimp only at h
    exact ⟨fun hc => ha fr δ1 Φ (by rw [if_pos hc] at h; exact h), fun hc => hb fr δ1 Φ (by rw [hc] at h; exact h)⟩
  | ex x δ1 => rw [q] at h; exact h
  | bad => rw [q] at h; exact h
theorem ss_par {i j : Nat} (hr : SA K xs W tr r) : SS K xs W (tPar i j tr) (aPar i j r) := fun fr δ Φ h => by
  refine ws_par (hr fr δ _ _ ?_)
  unfold aPar at h
  cases q : r δ with
  | ok ss δ1 =>
    rw [q] at h
    match ss, h with
    | [s, t], h => exact ⟨s, t, rfl, h⟩
    | [], h => exact h.elim
    | [_], h => exact h.elim
    | _ :: _ :: _ :: _, h => exact h.elim
  | ex x δ1 => rw [q] at h; exact h
  | bad => rw [q] at h; exact h
theorem ss_for {wi : TI} {g : TG} {it : AI} {ag : AG} (hi : SI K xs W wi it) (hg : SG K xs g ag) (hb : SS K xs W ts a) : SS K xs W (tFor wi g ts) (aFor it ag a) := fun fr δ Φ h => by
  refine ws_for (hi fr δ _ _ ?_)
  unfold aFor at h
  cases q : it δ with
  | ex x δ1 => rw [q] at h; exact h
  | bad => rw [q] at h; exact h
  | ok ds δ1 =>
    rw [q] at h
    refine ⟨fun i δ2 => (forL ag a (ds.drop i) δ2).sat Φ, h, fun i d δ2 hd hP => ?_, fun δ2 hP => ?_⟩
    · have hlt := lt_of_get hd
      have e : ds.drop i = d :: ds.drop (i + 1) := by
        rw [List.drop_eq_getElem_cons hlt]
        rw [List.getElem?_eq_getElem hlt] at hd
        rw [Option.some.inj hd]
      have hP : (forL ag a (ds.drop i) δ2).sat Φ := hP
      rw [e] at hP
      unfold forL at hP
      refine hg fr (.im d) δ2 _ ?_
      cases q2 : ag (.im d) δ2 with
      | none => rw [q2] at hP; exact hP
      | some δ3 =>
        rw [q2] at hP
        refine hb fr δ3 _ ?_
        dsimp only at hP
        cases q3 : a δ3 with
        | nx δ4 => rw [q3] at hP; exact hP
        | ct δ4 => rw [q3] at hP; exact hP
        | bk δ4 => rw [q3] at hP; exact hP
        | rt s δ4 => rw [q3] at hP; exact hP
        | ex x δ4 => rw [q3] at hP; exact hP
        | bad => rw [q3] at hP; exact hP
    · have hP : (forL ag a (ds.drop ds.length) δ2).sat Φ := hP
      rw [List.drop_length] at hP; exact hP
theorem ss_forC {wi : TI} {g : TG} {it : AI} {ag : AG} (hi : SI K xs W wi it) (hg : SG K xs g ag) (hb : SS K xs W ts a) : SS K xs W (tFor wi g ts) (aForC it ag a) := by
  intro fr δ Φ h σ I as H D r c
  unfold aForC at h
  refine hi fr δ (fun ds δ1 => (forLC δ1.ce ag a ds δ1).sat Φ) Φ.ex ?_ σ I as H _ r ⟨fun ds δ1 J I1 as1 H1 r1 l1 w k => ?_, fun x δ1 d I1 as1 H1 r1 l1 z k => c.x x δ1 σ d I1 as1 H1 r1 l1 z k⟩
  · cases q : it δ with
    | ex x δ1 => rw [q] at h; exact h
    | bad => rw [q] at h; exact h
    | ok ds δ1 => rw [q] at h; exact h
  refine ⟨fun i m σ' H' => m = ds.length - i ∧ i ≤ ds.length ∧ ∃ δ' I' as', R K ⟨xs, fr⟩ δ' σ' I' as' H' ∧ Le I1 as1 I' as' ∧ (forLC δ1.ce ag a (ds.drop i) δ').sat Φ, ⟨ds.length, by simp, Nat.zero_le _, δ1, I1, as1, r1, Le.refl I1 as1, k⟩, ?_⟩
  rintro i m σ2 H2 ⟨rfl, hi, δ2, I2, as2, r2, l2, p2⟩
  have e2 : Same I1 H2 := l2.i.trans r2.ih
  by_cases hlt : i < ds.length
  · refine .inr ⟨w.go i H2 e2 hlt, fun σ' H' => ∃ δ' I' as', R K ⟨xs, fr⟩ δ' σ' I' as' H' ∧ Le I1 as1 I' as' ∧ (forLC δ1.ce ag a (ds.drop (i + 1)) δ').sat Φ, fun σ' H' p' => ⟨ds.length - (i + 1), by omega, rfl, hlt, p'⟩, fun x H3 y => ?_⟩
    have hd : ds[i]? = some ds[i] := List.getElem?_eq_getElem hlt
    obtain ⟨I3, r3, l3, q3⟩ := w.yld _ i _ x H2 H3 δ2 σ2 I2 as2 hd l2.i r2 y
    rw [List.drop_eq_getElem_cons hlt] at p2
    unfold forLC at p2
    refine hg fr (.im ds[i]) δ2 (fun δ3 => (match a δ3 with | .nx δ2 => forLC δ1.ce ag a (ds.drop (i + 1)) (cutTurn δ1.ce δ2) | .ct δ2 => forLC δ1.ce ag a (ds.drop (i + 1)) (cutTurn δ1.ce δ2) | .bk δ2 => .nx δ2 | o => o : OutS).sat Φ) ?_ σ2 I3 as2 H3 x _ r3 q3 fun δ4 σ4 I4 as4 H4 r4 l4 k4 => ?_
    · cases q2 : ag (.im ds[i]) δ2 with
      | none => rw [q2] at p2; exact p2
      | some δ3 => rw [q2] at p2; exact p2
    have l14 := (l2.trans l3).trans l4
    have c4 := c.later (l1.trans l14)
    have turn : ∀ δ5 σ5 I5 as5 H5, R K ⟨xs, fr⟩ δ5 σ5 I5 as5 H5 → Le I4 as4 I5 as5 → (forLC δ1.ce ag a (ds.drop (i + 1)) (cutTurn δ1.ce δ5)).sat Φ → ∃ δ' I' as', R K ⟨xs, fr⟩ δ' σ5 I' as' H5 ∧ Le I1 as1 I' as' ∧ (forLC δ1.ce ag a (ds.drop (i + 1)) δ').sat Φ := fun δ5 σ5 I5 as5 H5 r5 l5 k5 => by
      unfold cutTurn at k5
      split at k5
      · rename_i ce2 qc
        obtain ⟨r6, l6, _⟩ := R.cutTo r1 r5 (l14.trans l5) qc
        exact ⟨_, I5, _, r6, l6, k5⟩
      · exact ⟨δ5, I5, as5, r5, l14.trans l5, k5⟩
    refine hb fr δ4 { Φ with nx := fun δ5 => (forLC δ1.ce ag a (ds.drop (i + 1)) (cutTurn δ1.ce δ5)).sat Φ, ct := fun δ5 => (forLC δ1.ce ag a (ds.drop (i + 1)) (cutTurn δ1.ce δ5)).sat Φ, bk := Φ.nx } ?_ σ4 I4 as4 H4 _ r4 ⟨fun δ5 σ5 I5 as5 H5 r5 l5 k5 => turn δ5 σ5 I5 as5 H5 r5 l5 k5, c4.rt, c4.nx, fun δ5 σ5 I5 as5 H5 r5 l5 k5 => turn δ5 σ5 I5 as5 H5 r5 l5 k5, c4.x⟩
    dsimp only at k4
    cases q3 : a δ4 with
    | nx δ5 => rw [q3] at k4; exact k4
    | ct δ5 => rw [q3] at k4; exact k4
    | bk δ5 => rw [q3] at k4; exact k4
    | rt s δ5 => rw [q3] at k4; exact k4
    | ex x δ5 => rw [q3] at k4; exact k4
    | bad => rw [q3] at k4; exact k4
  · have e : i = ds.length := by omega
    subst e
    rw [List.drop_length] at p2
    exact .inl ⟨w.stop H2 e2, (c.later l1).nx δ2 σ2 I2 as2 H2 r2 l2 p2⟩
end
end Fx

set_option Elab.async false
set_option linter.all false
set_option autoImplicit false
set_option maxRecDepth 100000
set_option maxHeartbeats 2000000
namespace Fx
open PySem PySem.Spec PyProof.Rows L2
/-! ## what is walked: a list, a tuple, a text -/
def iAny (K : PySem.W.Frag) (tl : TE) : TI := fun σ H R => tl σ H fun x H1 => (∃ a, x = .ref a ∧ (∃ xs, SqL K H1 a xs) ∧ R (Itl K a) H1) ∨ ((∃ a, x = .ref a ∧ (∃ xs, SqT K H1 a xs) ∧ R (Itt K a) H1) ∨ ∃ z, x = .str z ∧ R (Its z) H1)
theorem pi_any {X : Cx} {K : PySem.W.Frag} {tg l : Expr} {tl : TE} (hl : PE X l tl) (hK : X.K = K := by rfl) : PI X tg l (iAny K tl) := by
  subst hK
  refine ⟨fun pins s σ H R I h => ?_⟩
  refine thn (hl.run pins s σ H _ I h) fun v s1 ⟨x, H1, I1, r1, q1⟩ => ?_
  rcases q1 with ⟨a, e, ⟨xs, hq⟩, q⟩ | ⟨a, e, ⟨xs, hq⟩, q⟩ | ⟨z, e, q⟩
  · subst e
    cases r1
    obtain ⟨its, rv, p, hz⟩ := I1.list hq
    refine wpAny_pyIter_list p.isList ?_
    refine ⟨s1.heap.objs.size, [s1.heap.objs.size], _, _, H1, rfl, I1.kept (t' := s1.toks) fun b o e => Heap.get?_push_of_some _ e, turn_list a _, ⟨_, Heap.get?_push_size _ rfl, rfl, rfl⟩, fun b hb => ?_, q⟩
    have e : b = s1.heap.objs.size := by simpa using hb
    subst e
    exact I1.fpOk (Nat.le_refl _) (I1.hok.fresh (Nat.le_refl _))
  · subst e
    cases r1
    obtain ⟨its, rv, p, hz⟩ := I1.tuple hq
    refine wpAny_pyIter_tuple (show s1.heap.IsTuple a its.toArray from p) ?_
    refine ⟨s1.heap.objs.size, [s1.heap.objs.size], _, _, H1, rfl, I1.kept (t' := s1.toks) fun b o e => Heap.get?_push_of_some _ e, turn_tuple a _, ⟨_, Heap.get?_push_size _ rfl, rfl, rfl⟩, fun b hb => ?_, q⟩
    have e : b = s1.heap.objs.size := by simpa using hb
    subst e
    exact I1.fpOk (Nat.le_refl _) (I1.hok.fresh (Nat.le_refl _))
  · subst e
    obtain ⟨t, rfl⟩ := r1
    cases ha : z.cps.all (· < 128)
    · exact wpAny_pyIter_wide ha (pi_one (tk := s1.toks) I1 _ (turn_str _ z t "str_iterator" (.inr rfl)) ⟨_, Heap.get?_push_size _ rfl, rfl, rfl⟩ q)
    · exact wpAny_pyIter_ascii ha (pi_one (tk := s1.toks) I1 _ (turn_str _ z t "str_ascii_iterator" (.inl rfl)) ⟨_, Heap.get?_push_size _ rfl, rfl, rfl⟩ q)
def chsD (z : Str) : List D := z.cps.toList.map fun c => D.str ⟨#[c]⟩
def itD : D → Option (List D)
  | .lst ds => some ds
  | .tup ds => some ds
  | .scr ns => some (ns.map .int)
  | .str z => some (chsD z)
  | _ => none
def aIt (a : AE) : AI := fun δ => (a δ).bind fun s δ1 => match s with
  | .im d => (match itD d with
    | some ds => .ok ds δ1
    | none => .bad)
  | .cl c => (match frz δ1.ce c with
    | some (.lst ds, ce) => .ok ds ⟨δ1.sl, ce⟩
    | some (.tup ds, ce) => .ok ds ⟨δ1.sl, ce⟩
    | _ => .bad)
  | .no => .bad
def aRg1 (r : AA) : AI := fun δ => (r δ).bind fun ss δ1 => match ss with
  | [s] => (match dv δ1.ce s with
    | some (.int n) => if -1000000000 ≤ n ∧ n ≤ 1000000000 then .ok (rgD 0 n.toNat) δ1 else .bad
    | _ => .bad)
  | _ => .bad
def aRg2 (r : AA) : AI := fun δ => (r δ).bind fun ss δ1 => match ss with
  | [s, t] => (match dv δ1.ce s, dv δ1.ce t with
    | some (.int n), some (.int m) => if (-1000000000 ≤ n ∧ n ≤ 1000000000) ∧ (-1000000000 ≤ m ∧ m ≤ 1000000000) then .ok (rgD n (m - n).toNat) δ1 else .bad
    | _, _ => .bad)
  | _ => .bad
/-- d.items() of a dict that is a cell: it is data from then on -/
def aItems (a : AE) : AI := fun δ => (a δ).bind fun s δ1 => match s with
  | .cl c => (match δ1.ce[c]? with
    | some (.dic kvs) => (match imK δ1.ce kvs with
      | some kds => .ok (pairsD kds) ⟨δ1.sl, δ1.ce.set c (.fz (.dic kds))⟩
      | none => .bad)
    | _ => .bad)
  | _ => .bad
section
variable {K : PySem.W.Frag} {xs : Xs} {W : WX} {ta te : TE} {a : AE} {tr : TA} {r : AA}
theorem walks_str {ec : EC} {I : Hp} (z : Str) : Walks K ec (Its z) I (chsD z) where
  go := fun i H e hi => by
    have : (chsD z).length = z.cps.size := by simp [chsD]
    rw [this] at hi; exact hi
  stop := fun H e => by
    have : (chsD z).length = z.cps.size := by simp [chsD]
    rw [this]; exact Nat.le_refl _
  yld := fun ec' i d x H H' δ σ I2 as hd e r y => by
    obtain ⟨rfl, c, hc, rfl⟩ := y
    unfold chsD at hd
    rw [List.getElem?_map] at hd
    have hc' : z.cps.toList[i]? = some c := by simpa using hc
    rw [hc'] at hd
    cases hd
    exact ⟨I2, r, Le.refl I2 as, rfl⟩
theorem si_it (ha : SE K xs W ta a) : SI K xs W (iAny K ta) (aIt a) := by
  intro fr δ Ψ Ξ h σ I as H Q r c
  refine ha fr δ _ _ (Out.sat_bind h) σ I as H _ r ⟨fun s δ1 v I1 as1 H1 r1 l1 rv k => ?_, c.x⟩
  split at k
  · rename_i d
    split at k
    · rename_i ds e
      have rep := (show Rep K I1 d v from rv)
      unfold itD at e
      split at e
      · cases e
        obtain ⟨b, vs, rfl, hb, rb⟩ := rep
        exact .inl ⟨b, rfl, ⟨vs, SqL.of (r1.ih _ _ hb)⟩, c.v _ δ1 _ I1 as1 H1 r1 l1 (walks_list (SqL.of hb) rb) k⟩
      · cases e
        obtain ⟨b, vs, rfl, hb, rb⟩ := rep
        exact .inr (.inl ⟨b, rfl, ⟨vs, same_t r1.ih hb⟩, c.v _ δ1 _ I1 as1 H1 r1 l1 (walks_tup hb rb) k⟩)
      · cases e
        obtain ⟨b, rfl, hb⟩ := rep
        exact .inl ⟨b, rfl, ⟨_, r1.ih.seq hb⟩, c.v _ δ1 _ I1 as1 H1 r1 l1 (walks_list hb (repL_ints _)) k⟩
      · rename_i z
        cases e
        exact .inr (.inr ⟨z, rep, c.v _ δ1 _ I1 as1 H1 r1 l1 (walks_str z) k⟩)
      · cases e
    · exact k.elim
  · rename_i cc
    obtain ⟨b, hb, rfl⟩ := rv
    split at k
    · rename_i ds ce qf
      obtain ⟨I2, r2, l2, rep⟩ := R.frz r1 qf
      obtain ⟨b', vs, e, hb', rb⟩ := rep b hb
      cases e
      exact .inl ⟨b, rfl, ⟨vs, SqL.of (r2.ih _ _ hb')⟩, c.v ds _ _ I2 as1 H1 r2 (l1.trans l2) (walks_list (SqL.of hb') rb) k⟩
    · rename_i ds ce qf
      obtain ⟨I2, r2, l2, rep⟩ := R.frz r1 qf
      obtain ⟨b', vs, e, hb', rb⟩ := rep b hb
      cases e
      exact .inr (.inl ⟨b, rfl, ⟨vs, same_t r2.ih hb'⟩, c.v ds _ _ I2 as1 H1 r2 (l1.trans l2) (walks_tup hb' rb) k⟩)
    · exact k.elim
  · exact k.elim
theorem si_rg1 (hr : SA K xs W tr r) : SI K xs W (iRng1 tr) (aRg1 r) := fun fr δ Ψ Ξ h =>
  wi_rng1 (hr fr δ _ _ (Out.sat_mono (Out.sat_bind h) (fun ss δ1 h1 => by
    split at h1
    · rename_i s
      split at h1
      · rename_i n e
        split at h1
        · rename_i hh
          exact ⟨s, n, rfl, e, by omega, by omega, h1⟩
        · exact h1.elim
      · exact h1.elim
    · exact h1.elim) fun _ _ z => z))
/-! ## list(range(..)) as data -/
def aLstRg (a b : AE) : AE := fun δ => (a δ).bind fun s δ1 => (b δ1).bind fun t δ2 => match dv δ2.ce s, dv δ2.ce t with
  | some (.int i), some (.int j) => if (-1000000 ≤ i ∧ i ≤ 1000000) ∧ (-1000000 ≤ j ∧ j ≤ 1000000) then .ok (.im (.lst (rgD i (j - i).toNat))) δ2 else .bad
  | _, _ => .bad
end
/-! ## [e for x in .. if t] -/
/-- a value as data -/
def toIm (ce : List CO) : SV → Option (D × List CO)
  | .no => none
  | .im d => some (d, ce)
  | .cl c => frz ce c
def cutOr (ce0 ce : List CO) : List CO := match cutTo ce0 ce with
  | some ce2 => ce2
  | none => ce
def wipeS (sl : List SV) : List Nat → List SV
  | [] => sl
  | v :: vs => (wipeS sl vs).set v .no
def lcL (g : AG) (t : AT) (e : AE) (sl : List SV) : List D → List D → List CO → Option (List D × List CO)
  | [], acc, ce => some (acc, ce)
  | d :: ds, acc, ce => match g (.im d) ⟨sl, ce⟩ with
    | none => none
    | some δ1 => match t δ1 with
      | .ok b δ2 => if b = true then (match e δ2 with
          | .ok s δ3 => (match toIm δ3.ce s with
            | some (y, ce3) => lcL g t e sl ds (acc ++ [y]) (cutOr ce ce3)
            | none => none)
          | _ => none) else lcL g t e sl ds acc (cutOr ce δ2.ce)
      | _ => none
def aLc (it : AI) (g : AG) (t : AT) (e : AE) (vs : List Nat) : AE := fun δ => (it δ).bind fun ds δ1 => if ds.length ≤ 100000 then (match lcL g t e (wipeS δ1.sl vs) ds [] δ1.ce with
  | some (acc, ce) => .ok (.im (.lst acc)) ⟨δ1.sl, ce⟩
  | none => .bad) else .bad
section
variable {K : PySem.W.Frag} {xs : Xs} {W : WX}
theorem wipe_len (σ : L2.St) (vs : List Nat) : (wipe σ vs).length = σ.length := wipe_length σ vs
theorem wipeS_len (sl : List SV) : ∀ vs : List Nat, (wipeS sl vs).length = sl.length
  | [] => rfl
  | v :: vs => by show ((wipeS sl vs).set v .no).length = _; rw [List.length_set, wipeS_len sl vs]
theorem R.wipe {ec : EC} {sl : List SV} {ce : List CO} {σ : L2.St} {I : Hp} {as : List Addr} {H : Hp} (r : R K ec ⟨sl, ce⟩ σ I as H) (vs : List Nat) : R K ec ⟨wipeS sl vs, ce⟩ (L2.wipe σ vs) I as H := by
  refine ⟨r.fh, r.cf, r.fi, r.ih, by show (L2.wipe σ vs).length = (wipeS sl vs).length; rw [wipe_length, wipeS_len]; exact r.len, fun i s hs => ?_, r.clen, r.cells, r.inj⟩
  have key : ∀ (vs : List Nat) (i : Nat) (s : SV), (wipeS sl vs)[i]? = some s → s = .no ∨ ∃ v, (L2.wipe σ vs)[i]? = some (some v) ∧ RV K I as s v := fun vs => by
    induction vs with
    | nil => intro i s h; exact r.slots i s h
    | cons v vs ih =>
      intro i s h
      have h' : ((wipeS sl vs).set v .no)[i]? = some s := h
      by_cases hi : i = v
      · subst hi
        by_cases hlt : i < (wipeS sl vs).length
        · rw [List.getElem?_set_self hlt] at h'; cases h'; exact .inl rfl
        · have := lt_of_get h'; simp at this; exact absurd this hlt
      · rw [List.getElem?_set_ne (Ne.symm hi)] at h'
        rcases ih i s h' with z | ⟨w, z1, z2⟩
        · exact .inl z
        · exact .inr ⟨w, by show ((L2.wipe σ vs).set v none)[i]? = _; rw [List.getElem?_set_ne (Ne.symm hi)]; exact z1, z2⟩
  exact key vs i s hs
/-- a private object is put aside -/
theorem R.hide {fr : Hp} {δ : Sta} {σ : L2.St} {I : Hp} {as : List Addr} {H : Hp} {D : Addr} {u : HO} (r : R K ⟨xs, fr⟩ δ σ I as H) (hD : H D = some u) (hI : I D = none) (hc : ∀ (c : Nat) (o : CO), δ.ce[c]? = some o → o.live = true → as[c]? ≠ some D) : R K ⟨xs, upd fr D u⟩ δ σ I as H := by
  refine ⟨fun b w h => ?_, fun c o a h1 h2 l => ?_, fun b w h => ?_, r.ih, r.len, r.slots, r.clen, fun c o a h1 h2 => ?_, r.inj⟩
  · have h : upd fr D u b = some w := h
    by_cases hb : b = D
    · subst hb; rw [upd_same] at h; cases h; exact hD
    · rw [upd_ne hb] at h; exact r.fh b w h
  · show upd fr D u a = none
    rw [upd_ne (fun z => hc c o h1 l (by rw [z] at h2; exact h2))]
    exact r.cf c o a h1 h2 l
  · have h : upd fr D u b = some w := h
    by_cases hb : b = D
    · subst hb; exact hI
    · rw [upd_ne hb] at h; exact r.fi b w h
  · have z := r.cells c o a h1 h2
    cases o <;> exact z
/-- and written, and shown again -/
theorem R.show_ {fr : Hp} {δ : Sta} {σ : L2.St} {I : Hp} {as : List Addr} {H : Hp} {D : Addr} {u u' : HO} (r : R K ⟨xs, upd fr D u⟩ δ σ I as H) (hf : fr D = none) : R K ⟨xs, fr⟩ δ σ I as (upd H D u') ∧ H D = some u ∧ I D = none ∧ ∀ (c : Nat) (o : CO), δ.ce[c]? = some o → o.live = true → as[c]? ≠ some D := by
  have hD : H D = some u := r.fh D u upd_same
  have hI : I D = none := r.fi D u upd_same
  have hc : ∀ (c : Nat) (o : CO), δ.ce[c]? = some o → o.live = true → as[c]? ≠ some D := fun c o h l z => by
    have := r.cf c o D h z l
    have this : upd fr D u D = none := this
    rw [upd_same] at this; cases this
  refine ⟨⟨fun b w h => ?_, fun c o a h1 h2 l => ?_, fun b w h => ?_, fun b w h => ?_, r.len, r.slots, r.clen, fun c o a h1 h2 => ?_, r.inj⟩, hD, hI, hc⟩
  · have h : fr b = some w := h
    have hb : b ≠ D := ne_of_none h hf
    rw [upd_ne hb]; exact r.fh b w (by show upd fr D u b = _; rw [upd_ne hb]; exact h)
  · have hb : a ≠ D := fun z => hc c o h1 l (by rw [z] at h2; exact h2)
    have := r.cf c o a h1 h2 l
    have this : upd fr D u a = none := this
    rw [upd_ne hb] at this; exact this
  · have h : fr b = some w := h
    have hb : b ≠ D := ne_of_none h hf
    exact r.fi b w (by show upd fr D u b = _; rw [upd_ne hb]; exact h)
  · have hb : b ≠ D := ne_of_none h hI
    rw [upd_ne hb]; exact r.ih b w h
  · have z := r.cells c o a h1 h2
    have z' : CellOk K ⟨xs, fr⟩ I as H a o := by cases o <;> exact z
    refine z'.mono (Le.refl I as) (fun l => (z.free l).1) fun l w hw => ?_
    rw [upd_ne (fun e => hc c o h1 l (by rw [e] at h2; exact h2))]; exact hw
theorem R.toIm {ec : EC} {δ : Sta} {σ : L2.St} {I : Hp} {as : List Addr} {H : Hp} (r : R K ec δ σ I as H) {s : SV} {v : V} {d : D} {ce' : List CO} (e : Fx.toIm δ.ce s = some (d, ce')) (h : RV K I as s v) : ∃ I', R K ec ⟨δ.sl, ce'⟩ σ I' as H ∧ Le I as I' as ∧ Rep K I' d v := by
  cases s with
  | no => cases e
  | im d' => cases e; exact ⟨I, r, Le.refl I as, h⟩
  | cl c =>
    obtain ⟨a, ha, rfl⟩ := h
    obtain ⟨I', r', l, rep⟩ := R.frz r e
    exact ⟨I', r', l, rep a ha⟩
theorem R.cutOr {ec : EC} {δ0 : Sta} {σ0 : L2.St} {I0 I : Hp} {as0 as : List Addr} {H0 H : Hp} {ce : List CO} (r0 : R K ec δ0 σ0 I0 as0 H0) (r : R K ec ⟨δ0.sl, ce⟩ σ0 I as H) (l : Le I0 as0 I as) : ∃ as', R K ec ⟨δ0.sl, Fx.cutOr δ0.ce ce⟩ σ0 I as' H ∧ Le I0 as0 I as' := by
  unfold Fx.cutOr
  split
  · rename_i ce2 q
    obtain ⟨r2, l2, _, _, hle⟩ := R.cutTo r0 r l q
    rw [slBnd r0 hle] at r2
    exact ⟨_, r2, l2⟩
  · exact ⟨as, r, l⟩
theorem se_lc {wi : TI} {g : TG} {tt : TT} {te : TE} {vs : List Nat} {it : AI} {ag : AG} {t : AT} {e : AE} (hi : SI K xs W wi it) (hg : SG K xs g ag) (ht : ST K xs W0 tt t) (he : SE K xs W0 te e)
    (hw : ∀ (x : V) (σ : L2.St) (H : Hp) (Q : L2.St → Hp → Prop), g x (wipe σ vs) H Q → g x (wipe σ vs) H fun σ2 H2 => wipe σ2 vs = wipe σ vs ∧ Q σ2 H2) : SE K xs W (tLc wi g tt te vs) (aLc it ag t e vs) := by
  intro fr δ Ψ Ξ h σ I as H Q r c
  refine hi fr δ _ _ (Out.sat_bind h) σ I as H _ r ⟨fun ds δ1 J I1 as1 H1 r1 l1 w k => ?_, c.x⟩
  split at k
  rotate_left
  · exact k.elim
  rename_i hds
  intro D hD
  have hfD : fr D = none := none_back r1.fh hD
  have hn := none_back r1.ih hD
  have c1 := c.later l1
  have start : R K ⟨xs, fr⟩ δ1 σ I1 as1 (upd H1 D (.lst [])) := by
    refine ⟨fun b u h => ?_, r1.cf, r1.fi, fun b u h => ?_, r1.len, r1.slots, r1.clen, fun cc o a h1 h2 => ?_, r1.inj⟩
    · rw [upd_ne (ne_of_none (r1.fh b u h) hD)]; exact r1.fh b u h
    · rw [upd_ne (ne_of_none h hn)]; exact r1.ih b u h
    · have z := r1.cells cc o a h1 h2
      refine z.mono (Le.refl I1 as1) (fun l => (z.free l).1) fun l u hu => ?_
      rw [upd_ne (ne_of_none hu hD)]; exact hu
  have noc : ∀ (cc : Nat) (o : CO), δ1.ce[cc]? = some o → o.live = true → as1[cc]? ≠ some D := fun cc o h l z => by
    obtain ⟨_, u, hu⟩ := (r1.cells cc o D h z).free l
    rw [hD] at hu; cases hu
  refine ⟨fun i m H' => m = ds.length - i ∧ i ≤ ds.length ∧ ∃ I' as' acc ws ce', R K ⟨xs, fr⟩ ⟨δ1.sl, ce'⟩ σ I' as' H' ∧ Le I1 as1 I' as' ∧ H' D = some (.lst ws) ∧ I' D = none ∧ (∀ (cc : Nat) (o : CO), ce'[cc]? = some o → o.live = true → as'[cc]? ≠ some D) ∧ RepL K I' acc ws ∧ acc.length ≤ i ∧
    ∃ res, lcL ag t e (wipeS δ1.sl vs) (ds.drop i) acc ce' = some res ∧ lcL ag t e (wipeS δ1.sl vs) ds [] δ1.ce = some res, ⟨ds.length, by simp, Nat.zero_le _, I1, as1, [], [], δ1.ce, start, Le.refl I1 as1, upd_same, hn, noc, rfl, Nat.le_refl _, ?_⟩, ?_⟩
  · cases q : lcL ag t e (wipeS δ1.sl vs) ds [] δ1.ce with
    | none => rw [q] at k; exact k.elim
    | some res => exact ⟨res, q, rfl⟩
  rintro i m H2 ⟨rfl, hi, I2, as2, acc, ws, ce2, r3, l3, hD2, hI2, noc2, rl2, hacc, res, hres, hall⟩
  have e2 : Same I1 H2 := l3.i.trans r3.ih
  by_cases hlt : i < ds.length
  · refine .inr ⟨w.go i H2 e2 hlt, fun H' => ∃ I' as' acc ws ce', R K ⟨xs, fr⟩ ⟨δ1.sl, ce'⟩ σ I' as' H' ∧ Le I1 as1 I' as' ∧ H' D = some (.lst ws) ∧ I' D = none ∧ (∀ (cc : Nat) (o : CO), ce'[cc]? = some o → o.live = true → as'[cc]? ≠ some D) ∧ RepL K I' acc ws ∧ acc.length ≤ i + 1 ∧
      ∃ res, lcL ag t e (wipeS δ1.sl vs) (ds.drop (i + 1)) acc ce' = some res ∧ lcL ag t e (wipeS δ1.sl vs) ds [] δ1.ce = some res, fun H' p' => ⟨ds.length - (i + 1), by omega, rfl, hlt, p'⟩, fun x H3 y => ?_⟩
    have hd : ds[i]? = some ds[i] := List.getElem?_eq_getElem hlt
    have rh := r3.hide hD2 hI2 noc2
    have r3h := rh
    obtain ⟨I3, r4, l4, q4⟩ := w.yld _ i _ x H2 H3 _ _ I2 as2 hd l3.i rh y
    have r5 := r4.wipe vs
    rw [List.drop_eq_getElem_cons hlt] at hres
    unfold lcL at hres
    cases qg : ag (.im ds[i]) ⟨wipeS δ1.sl vs, ce2⟩ with
    | none => rw [qg] at hres; cases hres
    | some δg =>
      rw [qg] at hres
      dsimp only at hres
      refine hw x σ H3 _ (hg (upd fr D (.lst ws)) (.im ds[i]) ⟨wipeS δ1.sl vs, ce2⟩ (fun δ' => δ' = δg) (by rw [qg]) (wipe σ vs) I3 as2 H3 x _ r5 q4 fun δ4 σ4 I4 as4 H4 r6 l6 k4 => ?_)
      subst k4
      cases qt : t δ4 with
      | bad => rw [qt] at hres; cases hres
      | ex x δ5 => rw [qt] at hres; cases hres
      | ok b δ5 =>
        rw [qt] at hres
        dsimp only at hres
        refine ht (upd fr D (.lst ws)) δ4 (fun b' δ' => b' = b ∧ δ' = δ5) (fun _ _ => False) (by rw [qt]; exact ⟨rfl, rfl⟩) σ4 I4 as4 H4 _ r6 ⟨fun b' δ' I5 as5 H5 r7 l7 k7 => ?_, fun _ _ _ _ _ _ _ _ _ z => z.elim⟩
        obtain ⟨rfl, rfl⟩ := k7
        have l47 : Le I2 as2 I5 as5 := (l4.trans l6).trans l7
        have fin : ∀ {sl9 : List SV} {ce9 : List CO} {σ9 : L2.St} {I9 : Hp} {as9 : List Addr} {H9 : Hp} (u' : HO), R K ⟨xs, upd fr D (.lst ws)⟩ ⟨sl9, ce9⟩ σ9 I9 as9 H9 → Le I2 as2 I9 as9 →
            ∃ as10, R K ⟨xs, fr⟩ ⟨δ1.sl, Fx.cutOr ce2 ce9⟩ σ I9 as10 (upd H9 D u') ∧ Le I2 as2 I9 as10 ∧ I9 D = none ∧ ∀ (cc : Nat) (o : CO), (Fx.cutOr ce2 ce9)[cc]? = some o → o.live = true → as10[cc]? ≠ some D := fun u' r9 l9 => by
          have ra := R.reslot r9 r3h l9
          obtain ⟨as10, rb, lb⟩ := R.cutOr r3h ra l9
          obtain ⟨rc, _, q2, q3⟩ := rb.show_ (u' := u') hfD
          exact ⟨as10, rc, lb, q2, q3⟩
        cases b' with
        | true =>
          skip
          show te σ4 H5 _
          cases qe : e δ' with
          | bad => rw [if_pos rfl, qe] at hres; cases hres
          | ex x δ6 => rw [if_pos rfl, qe] at hres; cases hres
          | ok s δ6 =>
            rw [if_pos rfl, qe] at hres
            dsimp only at hres
            cases qi : toIm δ6.ce s with
            | none => rw [qi] at hres; cases hres
            | some yc =>
              obtain ⟨yd, ce6⟩ := yc
              rw [qi] at hres
              dsimp only at hres
              refine he (upd fr D (.lst ws)) δ' (fun s' δ'' => s' = s ∧ δ'' = δ6) (fun _ _ => False) (by rw [qe]; exact ⟨rfl, rfl⟩) σ4 I5 as5 H5 _ r7 ⟨fun s' δ'' v I6 as6 H6 r8 l8 rv8 k8 => ?_, fun _ _ _ _ _ _ _ _ _ z => z.elim⟩
              obtain ⟨rfl, rfl⟩ := k8
              obtain ⟨I7, r9, l9, rep⟩ := R.toIm r8 qi rv8
              have l2_7 : Le I2 as2 I7 as6 := (l47.trans l8).trans l9
              have hD6 : H6 D = some (.lst ws) := r9.fh D _ upd_same
              refine ⟨ws, hD6, by rw [rl2.length]; exact Nat.lt_of_le_of_lt hacc (Nat.lt_of_lt_of_le hlt (line_le (Nat.le_trans hds (by decide)))), ?_⟩
              obtain ⟨as10, rc, lc, q2, q3⟩ := fin (.lst (ws ++ [v])) r9 l2_7
              refine ⟨I7, as10, acc ++ [yd], ws ++ [v], _, rc, l3.trans lc, upd_same, q2, q3, (RepL.mono l2_7.i _ _ rl2).append ⟨v, [], rfl, rep, rfl⟩, by simp; omega, res, hres, hall⟩
        | false =>
          rw [if_neg (by simp)] at hres
          have hD5 : H5 D = some (.lst ws) := r7.fh D _ upd_same
          obtain ⟨as10, rc, lc, q2, q3⟩ := fin (sl9 := δ'.sl) (ce9 := δ'.ce) (.lst ws) r7 l47
          have eH : upd H5 D (.lst ws) = H5 := by
            funext b
            by_cases hb : b = D
            · subst hb; rw [upd_same, hD5]
            · rw [upd_ne hb]
          rw [eH] at rc
          exact ⟨I5, as10, acc, ws, _, rc, l3.trans lc, hD5, q2, q3, RepL.mono l47.i _ _ rl2, by omega, res, hres, hall⟩
  · have e : i = ds.length := by omega
    subst e
    refine .inl ⟨w.stop H2 e2, ?_⟩
    rw [List.drop_length] at hres
    unfold lcL at hres
    cases hres
    rw [hall] at k
    have rF : R K ⟨xs, fr⟩ ⟨δ1.sl, ce2⟩ σ (upd I2 D (.lst ws)) as2 H2 := by
      refine ⟨r3.fh, r3.cf, fun b u h => ?_, fun b u h => ?_, r3.len, fun i s hs => ?_, r3.clen, fun cc o a h1 h2 => ?_, r3.inj⟩
      · rw [upd_ne (ne_of_none h hfD)]; exact r3.fi b u h
      · by_cases hb : b = D
        · subst hb; rw [upd_same] at h; cases h; exact hD2
        · rw [upd_ne hb] at h; exact r3.ih b u h
      · rcases r3.slots i s hs with z | ⟨v, z1, z2⟩
        · exact .inl z
        · exact .inr ⟨v, z1, z2.mono ⟨same_upd hI2, fun _ _ h => h⟩⟩
      · have z := r3.cells cc o a h1 h2
        refine z.mono ⟨same_upd hI2, fun _ _ h => h⟩ (fun l => ?_) fun _ _ h => h
        rw [upd_ne (fun e => noc2 cc o h1 l (by rw [e] at h2; exact h2))]; exact (z.free l).1
    exact c1.v (.im (.lst acc)) _ (.ref D) (upd I2 D (.lst ws)) as2 H2 rF (l3.trans ⟨same_upd hI2, fun _ _ h => h⟩) ⟨D, ws, rfl, upd_same, RepL.mono (same_upd hI2) _ _ rl2⟩ k
end
end Fx

set_option Elab.async false
set_option linter.all false
set_option autoImplicit false
set_option maxRecDepth 100000
set_option maxHeartbeats 2000000
namespace Fx
open PySem L2
/-! ## targets of a comprehension keep the other slots -/
def Keeps (vs : List Nat) (g : TG) : Prop := ∀ (x : V) (σ : L2.St) (H : Hp) (Q : L2.St → Hp → Prop), g x σ H Q → g x σ H fun σ2 H2 => wipe σ2 vs = wipe σ vs ∧ Q σ2 H2
def KeepsS (vs : List Nat) (g : TGs) : Prop := ∀ (x : List V) (σ : L2.St) (H : Hp) (Q : L2.St → Hp → Prop), g x σ H Q → g x σ H fun σ2 H2 => wipe σ2 vs = wipe σ vs ∧ Q σ2 H2
theorem wipe_set {σ : L2.St} {i : Nat} {v : Option V} : ∀ {vs : List Nat}, i ∈ vs → wipe (σ.set i v) vs = wipe σ vs
  | [], h => by cases h
  | w :: ws, h => by
    show (wipe (σ.set i v) ws).set w none = (wipe σ ws).set w none
    by_cases hi : i ∈ ws
    · rw [wipe_set hi]
    · have e : i = w := by
        rcases List.mem_cons.mp h with h | h
        · exact h
        · exact absurd h hi
      subst e
      have out : ∀ (ws : List Nat), i ∉ ws → wipe (σ.set i v) ws = (wipe σ ws).set i v := fun ws => by
        induction ws with
        | nil => intro _; rfl
        | cons w ws ih =>
          intro h
          have h1 : i ≠ w := fun z => h (z ▸ List.mem_cons_self)
          have h2 : i ∉ ws := fun z => h (List.mem_cons_of_mem _ z)
          show (wipe (σ.set i v) ws).set w none = ((wipe σ ws).set w none).set i v
          rw [ih h2, List.set_comm _ _ h1]
      rw [out ws hi]
      simp
theorem keeps_nm {vs : List Nat} {i : Nat} (h : vs.contains i = true) : Keeps vs (gName i) := fun x σ H Q q => ⟨wipe_set (by simpa using h), q⟩
theorem keepsS_nil {vs : List Nat} : KeepsS vs gNil := fun x σ H Q q => ⟨q.1, rfl, q.2⟩
theorem keepsS_cons {vs : List Nat} {g : TG} {gs : TGs} (h1 : Keeps vs g) (h2 : KeepsS vs gs) (m1 : ∀ (x : V) (σ : L2.St) (H : Hp) (Q Q' : L2.St → Hp → Prop), (∀ σ H, Q σ H → Q' σ H) → g x σ H Q → g x σ H Q') (m2 : ∀ (x : List V) (σ : L2.St) (H : Hp) (Q Q' : L2.St → Hp → Prop), (∀ σ H, Q σ H → Q' σ H) → gs x σ H Q → gs x σ H Q') : KeepsS vs (gCons g gs) := fun x σ H Q q => by
  obtain ⟨v, r, e, q⟩ := q
  refine ⟨v, r, e, m1 _ _ _ _ _ (fun σ1 H1 z => ?_) (h1 v σ H _ q)⟩
  exact m2 _ _ _ _ _ (fun σ2 H2 z2 => ⟨z2.1.trans z.1, z2.2⟩) (h2 r σ1 H1 _ z.2)
structure GMono (g : TG) : Prop where
  m : ∀ (x : V) (σ : L2.St) (H : Hp) (Q Q' : L2.St → Hp → Prop), (∀ σ H, Q σ H → Q' σ H) → g x σ H Q → g x σ H Q'
structure GMonoS (g : TGs) : Prop where
  m : ∀ (x : List V) (σ : L2.St) (H : Hp) (Q Q' : L2.St → Hp → Prop), (∀ σ H, Q σ H → Q' σ H) → g x σ H Q → g x σ H Q'
/-- what a comprehension asks of its target -/
structure TgOk (vs : List Nat) (g : TG) : Prop where
  k : Keeps vs g
  m : GMono g
structure TgsOk (vs : List Nat) (g : TGs) : Prop where
  k : KeepsS vs g
  m : GMonoS g
theorem tgo_nm {vs : List Nat} {i : Nat} (h : vs.contains i = true) : TgOk vs (gName i) := ⟨keeps_nm h, ⟨fun _ _ _ _ _ k q => k _ _ q⟩⟩
theorem tgos_nil {vs : List Nat} : TgsOk vs gNil := ⟨keepsS_nil, ⟨fun _ _ _ _ _ k q => ⟨q.1, k _ _ q.2⟩⟩⟩
theorem tgos_cons {vs : List Nat} {g : TG} {gs : TGs} (h1 : TgOk vs g) (h2 : TgsOk vs gs) : TgsOk vs (gCons g gs) := ⟨keepsS_cons h1.k h2.k h1.m.m h2.m.m, ⟨fun x σ H Q Q' k q => by
  obtain ⟨v, r, e, q⟩ := q
  exact ⟨v, r, e, h1.m.m _ _ _ _ _ (fun σ1 H1 z => h2.m.m _ _ _ _ _ k z) q⟩⟩⟩
theorem tgo_tp {K : PySem.W.Frag} {vs : List Nat} {n : Nat} {gs : TGs} (h : TgsOk vs gs) : TgOk vs (gTup K n gs) := ⟨fun x σ H Q q => by
  obtain ⟨a, xs, e, hs, hl, q⟩ := q
  exact ⟨a, xs, e, hs, hl, h.k xs σ H Q q⟩, ⟨fun x σ H Q Q' k q => by
  obtain ⟨a, xs, e, hs, hl, q⟩ := q
  exact ⟨a, xs, e, hs, hl, h.m.m _ _ _ _ _ k q⟩⟩⟩
theorem wipe_wipe (σ : L2.St) (vs : List Nat) : wipe (wipe σ vs) vs = wipe σ vs := by
  have key : ∀ ws : List Nat, (∀ i ∈ ws, i ∈ vs) → wipe (wipe σ ws) vs = wipe σ vs := fun ws => by
    induction ws with
    | nil => intro _; rfl
    | cons w ws ih =>
      intro h
      show wipe ((wipe σ ws).set w none) vs = _
      rw [wipe_set (h w List.mem_cons_self), ih fun i hi => h i (List.mem_cons_of_mem _ hi)]
  exact key vs fun _ h => h
theorem lc_w {vs : List Nat} {g : TG} (h : TgOk vs g) : ∀ (x : V) (σ : L2.St) (H : Hp) (Q : L2.St → Hp → Prop), g x (wipe σ vs) H Q → g x (wipe σ vs) H fun σ2 H2 => wipe σ2 vs = wipe σ vs ∧ Q σ2 H2 := fun x σ H Q q =>
  h.m.m _ _ _ _ _ (fun σ2 H2 z => ⟨z.1.trans (wipe_wipe σ vs), z.2⟩) (h.k x (wipe σ vs) H Q q)
/-! ## methods of built-in things -/
abbrev ABM := SV → List SV → Sta → O SV
def tyS (T : String) (δ : Sta) (s : SV) : Bool := match kindS δ s with
  | some (.blt n) => n == T
  | _ => false
def aBM (T : String) (f : ABM) (a : AE) (r : AA) : AE := fun δ => (a δ).bind fun s δ1 => if tyS T δ1 s = true then (r δ1).bind fun ss δ2 => f s ss δ2 else .bad
def aBM0 (T : String) (f : ABM) (a : AE) : AE := fun δ => (a δ).bind fun s δ1 => if tyS T δ1 s = true then f s [] δ1 else .bad
def MtOk (K : PySem.W.Frag) (xs : Xs) (T : String) (rr : V → List V → Hp → VK → Prop) (f : ABM) : Prop := ∀ fr s ss δ (Ψ : SV → Sta → Prop) Ξ, (f s ss δ).sat Ψ Ξ → MtW K ⟨xs, fr⟩ T rr s ss Ψ δ
section
variable {K : PySem.W.Frag} {xs : Xs} {W : WX} {ta te : TE} {a : AE} {tr : TA} {r : AA}
theorem tyS_list {ec : EC} {δ : Sta} {s : SV} (h : tyS "list" δ s = true) : TyS K ec "list" s δ := fun σ I as H v r rv => by
  unfold tyS at h
  split at h
  · rename_i n e
    have hn : n = "list" := eq_of_beq h
    subst hn
    cases s with
    | no => cases e
    | im d =>
      cases d with
      | lst ds => obtain ⟨b, vs, rfl, hb, _⟩ := (show Rep K I (.lst ds) v from rv); exact .inl ⟨rfl, vs, SqL.of (r.ih _ _ hb)⟩
      | _ => first | (cases e; done) | (simp [kindS, kindD] at e)
    | cl c =>
      obtain ⟨b, hb, rfl⟩ := rv
      unfold kindS at e
      dsimp only at e
      cases q : δ.ce[c]? with
      | none => rw [q] at e; cases e
      | some o =>
        rw [q] at e
        have z := r.cells c o b q hb
        cases o with
        | lst us => obtain ⟨_, vs, h1, _⟩ := z; exact .inl ⟨rfl, vs, SqL.of h1⟩
        | fz d =>
          cases d with
          | lst ds => obtain ⟨b', vs, e', h1, _⟩ := (show Rep K I (.lst ds) (.ref b) from z); cases e'; exact .inl ⟨rfl, vs, SqL.of (r.ih _ _ h1)⟩
          | _ => first | (cases e; done) | (simp [kindD] at e)
        | _ => first | (cases e; done) | (simp at e)
  · cases h
theorem tyS_str {ec : EC} {δ : Sta} {s : SV} (h : tyS "str" δ s = true) : TyS K ec "str" s δ := fun σ I as H v r rv => by
  unfold tyS at h
  split at h
  · rename_i n e
    have hn : n = "str" := eq_of_beq h
    subst hn
    cases s with
    | no => cases e
    | im d =>
      cases d with
      | str z => cases (show v = _ from rv); rfl
      | _ => first | (cases e; done) | (simp [kindS, kindD] at e)
    | cl c =>
      obtain ⟨b, hb, rfl⟩ := rv
      unfold kindS at e
      dsimp only at e
      cases q : δ.ce[c]? with
      | none => rw [q] at e; cases e
      | some o =>
        rw [q] at e
        have z := r.cells c o b q hb
        cases o with
        | fz d =>
          cases d with
          | str ds => cases (show V.ref b = .str ds from z)
          | _ => first | (cases e; done) | (simp [kindD] at e)
        | _ => first | (cases e; done) | (simp at e)
  · cases h
/-- a dict that may be changed: a cell -/
def tyC (δ : Sta) (s : SV) : Bool := match s with
  | .cl c => (match δ.ce[c]? with
    | some (.dic _) => true
    | _ => false)
  | _ => false
def aBMd (f : ABM) (a : AE) (r : AA) : AE := fun δ => (a δ).bind fun s δ1 => if tyC δ1 s = true then (r δ1).bind fun ss δ2 => f s ss δ2 else .bad
theorem se_bmS {rr : V → List V → Hp → VK → Prop} {f : ABM} (hf : MtOk K xs "str" rr f) (ha : SE K xs W ta a) (hr : SA K xs W tr r) : SE K xs W (tBM K "str" rr ta tr) (aBM "str" f a r) := fun fr δ Ψ Ξ h =>
  we_bm (ha fr δ _ _ (Out.sat_mono (Out.sat_bind h) (fun s δ1 h1 => by
    split at h1
    · rename_i q
      exact ⟨tyS_str q, hr fr δ1 _ _ (Out.sat_mono (Out.sat_bind h1) (fun ss δ2 h2 => hf fr s ss δ2 Ψ Ξ h2) fun _ _ z => z)⟩
    · exact h1.elim) fun _ _ z => z))
theorem se_bmL {rr : V → List V → Hp → VK → Prop} {f : ABM} (hf : MtOk K xs "list" rr f) (ha : SE K xs W ta a) (hr : SA K xs W tr r) : SE K xs W (tBM K "list" rr ta tr) (aBM "list" f a r) := fun fr δ Ψ Ξ h =>
  we_bm (ha fr δ _ _ (Out.sat_mono (Out.sat_bind h) (fun s δ1 h1 => by
    split at h1
    · rename_i q
      exact ⟨tyS_list q, hr fr δ1 _ _ (Out.sat_mono (Out.sat_bind h1) (fun ss δ2 h2 => hf fr s ss δ2 Ψ Ξ h2) fun _ _ z => z)⟩
    · exact h1.elim) fun _ _ z => z))
end
/-! their outcomes -/
def dBM0 (f : D → Option D) : ABM := fun s ss δ => match ss with
  | [] => (match dv δ.ce s with
    | some x => (match f x with
      | some d => .ok (.im d) δ
      | none => .bad)
    | none => .bad)
  | _ => .bad
def dBM1 (f : D → D → Option D) : ABM := fun s ss δ => match ss with
  | [t] => dOp f s t δ
  | _ => .bad
def rstripD : D → D → Option D
  | .str a, .str b => if a.length ≤ 1000000 then some (.str (Txt.rstripChars a b)) else none
  | _, _ => none
def strsOf : List D → Option (List Str)
  | [] => some []
  | .str z :: r => (strsOf r).map (z :: ·)
  | _ => none
def joinS (a : Str) (ys : List Str) : Option D := if (ys.map (·.length)).sum + ys.length * a.length ≤ 1000000 then some (.str (Txt.join a ys)) else none
def joinD : D → D → Option D
  | .str a, .lst ds => (strsOf ds).bind (joinS a)
  | .str a, .tup ds => (strsOf ds).bind (joinS a)
  | _, _ => none
def appendA : ABM := fun s ss δ => match s, ss with
  | .cl c, [t] => (match δ.ce[c]? with
    | some (.lst us) => if us.length < 100000 then .ok (.im .non) ⟨δ.sl, δ.ce.set c (.lst (us ++ [t]))⟩ else .bad
    | _ => .bad)
  | _, _ => .bad
def notCl (t : SV) (c : Nat) : Bool := match t with
  | .cl c' => c' != c
  | _ => true
def updateA : ABM := fun s ss δ => match s, ss with
  | .cl c, [t] => (match δ.ce[c]?, dv δ.ce t with
    | some (.dic kvs), some (.dic kds) => if kvs.length + kds.length ≤ 1000 ∧ notCl t c = true then .ok (.im .non) ⟨δ.sl, δ.ce.set c (.dic (mergeS kvs (kds.map fun p => (p.1, .im p.2))))⟩ else .bad
    | _, _ => .bad)
  | _, _ => .bad
/-! the machine's rules -/
section
variable {X : Cx}
def rRstripC : V → List V → Hp → VK → Prop := fun x xs H Q => ∃ a b, x = .str a ∧ xs = [.str b] ∧ a.length ≤ sizeLine ∧ Q (.str (Txt.rstripChars a b)) H
def rJoin (K : PySem.W.Frag) : V → List V → Hp → VK → Prop := fun x xs H Q => ∃ a p, ∃ ys : List Str, x = .str a ∧ xs = [.ref p] ∧ (SqL K H p (ys.map V.str) ∨ SqT K H p (ys.map V.str)) ∧ (ys.map (·.length)).sum + ys.length * a.length ≤ 16777216 ∧ Q (.str (Txt.join a ys)) H
theorem mtr_rstrip : MtR X "str.rstrip" rRstripC := mt_rstripChars
theorem mtr_join : MtR X "str.join" (rJoin X.K) := mt_join
theorem mtr_append : MtR X "list.append" rAppend := mt_append
end
section
variable {K : PySem.W.Frag} {xs : Xs}
theorem dBM1_ok {T : String} {rr : V → List V → Hp → VK → Prop} {f : D → D → Option D} (h : ∀ (ec : EC) (δ : Sta) (s t : SV) (x y d : D) (Ψ : SV → Sta → Prop), dv δ.ce s = some x → dv δ.ce t = some y → f x y = some d → Ψ (.im d) δ → MtW K ec T rr s [t] Ψ δ) : MtOk K xs T rr (dBM1 f) := by
  intro fr s ss δ Ψ Ξ q
  unfold dBM1 at q
  split at q
  · rename_i t
    unfold dOp at q
    cases e1 : dv δ.ce s with
    | none => rw [e1] at q; exact q.elim
    | some x =>
      cases e2 : dv δ.ce t with
      | none => rw [e1, e2] at q; exact q.elim
      | some y =>
        rw [e1, e2] at q
        dsimp only at q
        cases e3 : f x y with
        | none => rw [e3] at q; exact q.elim
        | some d => rw [e3] at q; exact h _ δ s t x y d Ψ e1 e2 e3 q
  · exact q.elim
theorem ok_rstrip : MtOk K xs "str" rRstripC (dBM1 rstripD) := dBM1_ok fun ec δ s t x y d Ψ e1 e2 h k σ I as H Q v vs r rv rvs cc => by
  obtain ⟨w, _, rfl, hw, rfl⟩ := rvs
  unfold rstripD at h
  split at h
  · rename_i a b
    split at h
    · rename_i hz
      cases h
      cases (show w = .str b from r.dv e2 hw)
      exact ⟨a, b, r.dv e1 rv, rfl, line_le hz, cc (.im (.str _)) δ _ I as H r (Le.refl I as) rfl k⟩
    · cases h
  · cases h
theorem strs_rep {H : Hp} : ∀ {ds : List D} {zs : List Str} {vs : List V}, strsOf ds = some zs → RepL K H ds vs → vs = zs.map V.str
  | [], zs, vs, e, h => by cases e; exact h
  | d :: ds, zs, vs, e, ⟨v, r, h1, h2, h3⟩ => by
    cases d with
    | str b =>
      have e' : (strsOf ds).map (b :: ·) = some zs := e
      rw [Option.map_eq_some_iff] at e'
      obtain ⟨bs', q, rfl⟩ := e'
      rw [h1, strs_rep q h3, show v = V.str b from h2]; rfl
    | _ => cases e
theorem ok_join : MtOk K xs "str" (rJoin K) (dBM1 joinD) := dBM1_ok fun ec δ s t x y d Ψ e1 e2 h k σ I as H Q v vs r rv rvs cc => by
  obtain ⟨w, _, rfl, hw, rfl⟩ := rvs
  unfold joinD at h
  split at h
  · rename_i a ds
    rw [Option.bind_eq_some_iff] at h
    obtain ⟨zs, q, h⟩ := h
    unfold joinS at h
    split at h
    · rename_i hz
      cases h
      obtain ⟨p, ws, rfl, hp, rp⟩ := r.dv e2 hw
      exact ⟨a, p, zs, r.dv e1 rv, rfl, .inl (by rw [← strs_rep q rp]; exact SqL.of hp), Nat.le_trans hz (by decide), cc (.im (.str _)) δ _ I as H r (Le.refl I as) rfl k⟩
    · cases h
  · rename_i a ds
    rw [Option.bind_eq_some_iff] at h
    obtain ⟨zs, q, h⟩ := h
    unfold joinS at h
    split at h
    · rename_i hz
      cases h
      obtain ⟨p, ws, rfl, hp, rp⟩ := r.dv e2 hw
      exact ⟨a, p, zs, r.dv e1 rv, rfl, .inr (by rw [← strs_rep q rp]; exact hp), Nat.le_trans hz (by decide), cc (.im (.str _)) δ _ I as H r (Le.refl I as) rfl k⟩
    · cases h
  · cases h
theorem ok_append : MtOk K xs "list" rAppend appendA := fun fr s ss δ Ψ Ξ h => by
  unfold appendA at h
  split at h
  · split at h
    · rename_i us e
      split at h
      · rename_i hl; exact mt_append' e hl h
      · exact h.elim
    · exact h.elim
  · exact h.elim
end
/-! ## dict displays -/
def pairsA : List (AE × AE) → Sta → O (List (Key × SV))
  | [], δ => .ok [] δ
  | (k, v) :: r, δ => (k δ).bind fun s δ1 => (v δ1).bind fun t δ2 => (pairsA r δ2).bind fun ps δ3 => match imS δ3.ce s with
    | some kd => (match keyOf kd with
      | some kk => .ok ((kk, t) :: ps) δ3
      | none => .bad)
    | none => .bad
/-- {k: v, ..}: a new cell -/
def aDisp (ps : List (AE × AE)) : AE := fun δ => (pairsA ps ⟨δ.sl, δ.ce ++ [.dic []]⟩).bind fun kvs δ1 => match δ1.ce[δ.ce.length]? with
  | some (.dic []) => if kvs.length ≤ 15 then .ok (.cl δ.ce.length) ⟨δ1.sl, δ1.ce.set δ.ce.length (.dic (mergeS [] kvs))⟩ else .bad
  | _ => .bad
/-- {**d, k: v, ..} -/
def aDispS (d : AE) (ps : List (AE × AE)) : AE := fun δ => (d ⟨δ.sl, δ.ce ++ [.dic []]⟩).bind fun s δ1 => match dv δ1.ce s, δ1.ce[δ.ce.length]? with
  | some (.dic kds), some (.dic []) => if kds.length ≤ 1000 ∧ notCl s δ.ce.length = true then
      (pairsA ps ⟨δ1.sl, δ1.ce.set δ.ce.length (.dic (mergeS [] (kds.map fun p => (p.1, .im p.2)))) ++ [.dic []]⟩).bind fun kvs δ2 => (match δ2.ce[δ.ce.length]?, δ2.ce[δ1.ce.length]? with
        | some (.dic kvs3), some (.dic []) => if kvs.length ≤ 15 ∧ kvs3 = mergeS [] (kds.map fun p => (p.1, .im p.2)) then .ok (.cl δ.ce.length) ⟨δ2.sl, (δ2.ce.set δ1.ce.length (.dic (mergeS [] kvs))).set δ.ce.length (.dic (mergeS kvs3 (mergeS [] kvs)))⟩ else .bad
        | _, _ => .bad) else .bad
  | _, _ => .bad
section
variable {K : PySem.W.Frag} {xs : Xs} {W : WX} {ta te : TE} {a : AE}
end
end Fx

set_option Elab.async false
set_option linter.all false
set_option autoImplicit false
set_option maxRecDepth 100000
set_option maxHeartbeats 2000000
namespace Fx
open PySem L2
/-! ## the rules with K told -/
section
variable {X : Cx} {K : PySem.W.Frag} {w : World}
theorem op_addA' (hK : X.K = K := by rfl) : OpR X (binaryOp .Add) (rAddA K) := by subst hK; exact op_addA
theorem op_eqA' {k : Nat} (hr : RoomG k X.A) (hK : X.K = K := by rfl) : OpR X (compareOp .Eq) (rEqA K) := by subst hK; exact op_eqA hr
theorem op_neA' {k : Nat} (hr : RoomG k X.A) (hK : X.K = K := by rfl) : OpR X (compareOp .NotEq) (rNeA K) := by subst hK; exact op_neA hr
theorem op_inA' (hu : X.A.units + 1 < cLine) (hK : X.K = K := by rfl) : OpR X (compareOp .In) (rInA K) := by subst hK; exact op_inA hu
theorem op_notinA' (hu : X.A.units + 1 < cLine) (hK : X.K = K := by rfl) : OpR X (compareOp .NotIn) (rNotInA K) := by subst hK; exact op_notinA hu
theorem ix_all' (hu : X.A.units + 1 < cLine) (hK : X.K = K := by rfl) (hw : X.w = w := by rfl) : IxR X (rIxB K w) := by subst hK hw; exact ix_all hu
theorem sl_all' (hK : X.K = K := by rfl) : SlR X (rSlAll K) := by subst hK; exact sl_all
theorem cl_len' (hK : X.K = K := by rfl) : CallR X (.builtin "len") (rLenB K) := by subst hK; exact cl_len
theorem cl_isi' (hK : X.K = K := by rfl) : CallR X (.builtin "isinstance") (rIsi K) := by subst hK; exact cl_isi
theorem cl_list' (hK : X.K = K := by rfl) : CallR X (.type "list") (rListA K) := by subst hK; exact cl_list
theorem cl_tuple' (hK : X.K = K := by rfl) : CallR X (.type "tuple") (rTupleA K) := by subst hK; exact cl_tuple
theorem cl_all' (hc : X.calm = true) (hK : X.K = K := by rfl) : CallR X (.builtin "all") (rAll K) := by subst hK; exact cl_all hc
theorem mtr_join' (hK : X.K = K := by rfl) : MtR X "str.join" (rJoin K) := by subst hK; exact mtr_join
theorem pe_bm' {o e : Expr} {es : List Expr} {to : TE} {t : TA} {name : Str} {apos cpos : Pos} {T id : String} {r : V → List V → Hp → VK → Prop} (pa : PlainAttrs T) (slot : Slot T name id) (hty : typeOf (.builtin id) = pure (.type "method_descriptor")) (hm : MtR X id r) (ho : PE X o to) (ha : PA X (e :: es) t) (hK : X.K = K := by rfl)
    (hbase : attributeBase o name X.env (eval o X.env) = eval o X.env := by rfl)
    (hp : ((((backTo cpos (starEach (e :: es) X.env)).all fun x => !x.fst) && (backToKw cpos (keywordEach [] X.env)).all fun x => x.fst.isSome) && decide (((e :: es).length + ([] : List Keyword).length + if ([] : List Keyword).isEmpty = true then 0 else 1) < 30)) = true := by rfl)
    (hline : (apos.endLine == cpos.line) = true := by rfl) (hs : starEach (e :: es) X.env = (false, eval e X.env) :: starEach es X.env := by rfl) (hpl : (backTo cpos (starEach es X.env)).any (·.1) = false := by rfl) : PE X (.Call (.Attribute o name apos) (e :: es) [] cpos) (tBM K T r to t) := by
  subst hK; exact pe_bm pa slot hty hm ho ha hbase hp hline hs hpl
theorem pg_tup' {es : List Expr} {k : Nat} {t : TGs} {n : Nat} {pos : Pos} (hc : X.calm = true) (h : PGs X es t) (hK : X.K = K := by rfl)
    (hn : (assignEach es X.env).length = n := by rfl) (hst : (assignEach es X.env).findIdx? (·.1) = none := by rfl) : PG X (.Tuple es k pos) (gTup K n t) := by
  subst hK; exact pg_tup hc h hn hst
theorem pg_fld' {o : Expr} {f : Str} {pos : Pos} {ta : TE} (ha : PE X o ta) (hK : X.K = K := by rfl) : PG X (.Attribute o f pos) (gFld K ta f) := by
  subst hK; exact pg_fld ha
end
/-- {} : a new cell -/
def aDnew : AE := fun δ => .ok (.cl δ.ce.length) ⟨δ.sl, δ.ce ++ [.dic []]⟩
/-! ## the law's own promise -/
theorem sp_start {K : PySem.W.Frag} {F : Fn} {H : Hp} {a : Addr} {ns : List Int} {ce : List CO} (hS : SqL K H a (ns.map V.int)) (h : F [.im (.scr ns)] [] = .ok (.im (.bl true)) ce) : spFn K 1 F [.ref a] H (fun v _ => v = .bl true) fun _ _ _ => False := by
  refine ⟨rfl, [], fun _ => none, [.im (.scr ns)], [], [], H, ⟨(fun b u e => by cases e), (fun c o b h1 => by simp at h1), (fun b u e => by cases e), Same.refl H, rfl, (fun i s h => by simp at h), rfl, (fun c o b h1 => by simp at h1), (fun c c' o o' b h1 => by simp at h1)⟩, ⟨.ref a, [], rfl, ⟨a, rfl, hS⟩, rfl⟩, ⟨?_⟩⟩
  rw [h]
  intro v I' as' H' r l rv
  exact rv
/-! ## the head's checks -/
def relB : D → Value → Bool
  | .non, .none => true
  | .bl b, .bool c => b == c
  | .int i, .int j _ => i == j
  | .str x, .str y _ => x == y
  | _, _ => false
def relLB : List D → List Value → Bool
  | [], [] => true
  | d :: ds, v :: vs => relB d v && relLB ds vs
  | _, _ => false
def repB (K : PySem.W.Frag) (d : D) (u : Value) : Bool := match d with
  | .tup ds => (match u with
    | .ref t => (match K.lookup t with
      | some ⟨.type c, _, .seq its _, _⟩ => decide (c = "tuple") && (decide (its.size ≤ sizeLine) && relLB ds its.toList)
      | _ => false)
    | _ => false)
  | d => relB d u
def vOf : D → V
  | .bl b => .bl b | .int i => .int i | .str x => .str x | _ => .non
theorem relB_ok {d : D} {u : Value} (h : relB d u = true) : RelV (vOf d) u ∧ ∀ (K : PySem.W.Frag) I, Rep K I d (vOf d) := by
  cases d <;> cases u <;> simp only [relB] at h <;> first
    | (cases h; done)
    | exact ⟨rfl, fun _ _ => rfl⟩
    | (rw [eq_of_beq h]; exact ⟨rfl, fun _ _ => rfl⟩)
    | (rw [eq_of_beq h]; exact ⟨⟨_, rfl⟩, fun _ _ => rfl⟩)
theorem relLB_ok : ∀ {ds : List D} {us : List Value}, relLB ds us = true → Vals (ds.map vOf) us ∧ ∀ (K : PySem.W.Frag) I, RepL K I ds (ds.map vOf)
  | [], [], _ => ⟨.nil, fun _ _ => rfl⟩
  | [], _ :: _, h => by cases h
  | _ :: _, [], h => by cases h
  | d :: ds, u :: us, h => by
    obtain ⟨h1, h2⟩ := and2 (show (relB d u && relLB ds us) = true from h)
    obtain ⟨g1, g2⟩ := relB_ok h1
    obtain ⟨k1, k2⟩ := relLB_ok h2
    exact ⟨.cons g1 k1, fun K I => ⟨_, _, rfl, g2 K I, k2 K I⟩⟩
theorem repB_ok {K : PySem.W.Frag} {d : D} {u : Value} (h : repB K d u = true) : ∃ v, RelV v u ∧ ∀ I, Rep K I d v := by
  by_cases hd : ∃ ds, d = .tup ds
  · obtain ⟨ds, rfl⟩ := hd
    unfold repB at h
    dsimp only at h
    split at h
    · rename_i t
      split at h
      · rename_i c od its n sl q
        obtain ⟨h1, h2⟩ := and2 h
        obtain ⟨h3, h4⟩ := and2 h2
        obtain ⟨k1, k2⟩ := relLB_ok h4
        exact ⟨.ref t, rfl, fun I => ⟨t, _, rfl, .inr ⟨_, its, n, q, congrArg Value.type (of_decide_eq_true h1), rfl, of_decide_eq_true h3, k1⟩, k2 K I⟩⟩
      · cases h
    · cases h
  · have e : repB K d u = relB d u := by
      cases d <;> first | rfl | exact absurd ⟨_, rfl⟩ hd
    rw [e] at h
    exact ⟨_, (relB_ok h).1, fun I => (relB_ok h).2 K I⟩
/-- a global that is data -/
def conG (K : PySem.W.Frag) (x : Str) (d : D) : Bool := match PySem.W.nsIn K mainGlobals x with
  | some (some u) => repB K d u
  | _ => false
theorem conG_ok {K : PySem.W.Frag} {h : Heap} {mg : Str → Option Value} (X : K.In h) (G : h.Ns mainGlobals mg) {x : Str} {d : D} (c : conG K x d = true) : ∃ v u, mg x = some u ∧ RelV v u ∧ ∀ I, Rep K I d v := by
  unfold conG at c
  split at c
  · rename_i u q
    obtain ⟨v, h1, h2⟩ := repB_ok c
    exact ⟨v, u, PySem.W.mg_of X G q, h1, h2⟩
  · cases c
def tabB (K : PySem.W.Frag) (tabs : Tabs) : Bool := tabs.all fun p => p.2.all fun q => match PySem.W.nsIn K (He.ga K p.1) q.1 with
  | some (some u) => repB K q.2 u
  | _ => false
theorem tabAt_mem {tabs : Tabs} {x z : Str} {d : D} (h : tabAt tabs x z = some d) : ∃ kvs, (x, kvs) ∈ tabs ∧ (z, d) ∈ kvs := by
  have mem : ∀ {α : Type} {l : List (Str × α)} {x : Str} {y : α}, l.lookup x = some y → (x, y) ∈ l := fun {α l x y} => by
    induction l with
    | nil => intro h; cases h
    | cons p ps ih =>
      intro h
      obtain ⟨k, v⟩ := p
      rw [List.lookup_cons] at h
      split at h
      · rename_i e; cases h; rw [eq_of_beq e]; exact List.mem_cons_self
      · exact List.mem_cons_of_mem _ (ih h)
  unfold tabAt at h
  split at h
  · rename_i kvs e; exact ⟨kvs, mem e, mem h⟩
  · cases h
theorem tabB_ok {K : PySem.W.Frag} {w : World} {tabs : Tabs} (h : tabB K tabs = true) (hk : ∀ x kvs, (x, kvs) ∈ tabs → ∃ es n, KDict K w (He.ga K x) es n) : TabOk K w tabs := fun x z d q => by
  obtain ⟨kvs, m1, m2⟩ := tabAt_mem q
  obtain ⟨es, n, kd⟩ := hk x kvs m1
  have h1 := List.all_eq_true.mp (List.all_eq_true.mp h (x, kvs) m1) (z, d) m2
  dsimp only at h1
  split at h1
  · rename_i u q2
    obtain ⟨v, g1, g2⟩ := repB_ok h1
    exact ⟨v, ⟨es, n, u, kd.at_, kd.lit, q2, g1⟩, g2⟩
  · cases h1
def clsB (K : PySem.W.Frag) (C : Str) : Bool := (He.Fa.cls C).ok K
def ctB (K : PySem.W.Frag) (ct : CT) : Bool := (ct.fl.all fun p => clsB K p.1 && p.2.all fun f => (He.Fa.noat p.1 f).ok K) && ct.cn.all fun p => clsB K p.1.1 && (!PySem.W.copiedNames.contains p.1.2 && match p.2 with
  | .str z => He.conB K p.1.1 p.1.2 (.str z)
  | .bl b => He.conB K p.1.1 p.1.2 (.bl b)
  | _ => false)
theorem look_mem {α β : Type} [BEq α] [LawfulBEq α] {l : List (α × β)} {x : α} {y : β} (h : l.lookup x = some y) : (x, y) ∈ l := by
  induction l with
  | nil => cases h
  | cons p ps ih =>
    obtain ⟨k, v⟩ := p
    rw [List.lookup_cons] at h
    split at h
    · rename_i e; cases h; rw [eq_of_beq e]; exact List.mem_cons_self
    · exact List.mem_cons_of_mem _ (ih h)
theorem ctB_ok {K : PySem.W.Frag} {ct : CT} (h : ctB K ct = true) : CtOk K ct := by
  obtain ⟨h1, h2⟩ := and2 h
  have key : ∀ C fs, ct.fl.lookup C = some fs → clsB K C = true ∧ ∀ f ∈ fs, (He.Fa.noat C f).ok K = true := fun C fs e => by
    obtain ⟨g1, g2⟩ := and2 (List.all_eq_true.mp h1 (C, fs) (look_mem e))
    exact ⟨g1, fun f hf => List.all_eq_true.mp g2 f hf⟩
  refine ⟨fun C fs e => He.cls_ok (key C fs e).1, fun C f e => ?_, fun C f d e => ?_⟩
  · unfold CT.has at e
    split at e
    · rename_i fs q
      exact He.noat_ok ((key C fs q).2 f (by simpa using e))
    · cases e
  · obtain ⟨g1, g2⟩ := and2 (List.all_eq_true.mp h2 ((C, f), d) (look_mem e))
    obtain ⟨g2, g3⟩ := and2 g2
    refine ⟨He.cls_ok g1, ?_⟩
    dsimp only at g3
    split at g3
    · rename_i z
      obtain ⟨u, con⟩ := He.conB_ok g3 (by simpa using g2)
      exact ⟨_, u, con, fun _ => rfl⟩
    · rename_i b
      obtain ⟨u, con⟩ := He.conB_ok g3 (by simpa using g2)
      exact ⟨_, u, con, fun _ => rfl⟩
    · cases g3
def insB (K : PySem.W.Frag) (C : Str) : Bool := clsB K C && (decide (PySem.W.findIn K (.ref (He.ga K C)) "__class__" = some (some (.builtin "object.__class__"))) && (decide (PySem.W.specialIn K (.builtin "object.__class__") "__get__" = some (some (.builtin "getset_descriptor.__get__"))) &&
  (decide (PySem.W.takesIn K (.builtin "object.__class__") = some true) && decide (PySem.W.mroIn K (He.ga K C) (.type "object") = some true))))
def isiB (K : PySem.W.Frag) (isi : Isi) : Bool := isi.all fun p => decide (PySem.W.kitOne K (p.1.1.v K) (p.1.2.v K) = some p.2) && (match p.1.1 with
  | .own C => insB K C
  | _ => true)
theorem isiB_ok {K : PySem.W.Frag} {isi : Isi} (h : isiB K isi = true) : IsiOk K isi := by
  refine ⟨fun k c b e => ?_, fun C c b e => ?_⟩
  · obtain ⟨g1, _⟩ := and2 (List.all_eq_true.mp h ((k, c), b) (look_mem e))
    exact of_decide_eq_true g1
  · obtain ⟨_, g2⟩ := and2 (List.all_eq_true.mp h ((.own C, c), b) (look_mem e))
    obtain ⟨a1, g2⟩ := and2 (show insB K C = true from g2)
    obtain ⟨a2, g2⟩ := and2 g2
    obtain ⟨a3, g2⟩ := and2 g2
    obtain ⟨a4, a5⟩ := and2 g2
    exact ⟨He.cls_ok a1, of_decide_eq_true a2, of_decide_eq_true a3, of_decide_eq_true a4, of_decide_eq_true a5⟩
/-- a fact of the law's text -/
structure Tx (K : PySem.W.Frag) (w : World) (mg : Str → Option Value) (tabs : Tabs) (ct : CT) (isi : Isi) (free : List Str) (glo : List Str) (cons : List (Str × D)) : Prop where
  tabs : TabOk K w tabs
  ct : CtOk K ct
  isi : IsiOk K isi
  free : ∀ x, free.contains x = true → mg x = none
  glo : ∀ x, glo.contains x = true → mg x = some (.ref (He.ga K x))
  con : ∀ x d, cons.lookup x = some d → ∃ v u, mg x = some u ∧ RelV v u ∧ ∀ I, Rep K I d v
def txB (K : PySem.W.Frag) (tabs : Tabs) (ct : CT) (isi : Isi) (free : List Str) (glo : List Str) (cons : List (Str × D)) : Bool := tabB K tabs && (ctB K ct && (isiB K isi && ((free.all fun x => (He.Fa.free x).ok K) && ((glo.all fun x => (He.Fa.glo x).ok K) && cons.all fun p => conG K p.1 p.2))))
theorem txB_ok {K : PySem.W.Frag} {w : World} {h : Heap} {mg : Str → Option Value} {tabs : Tabs} {ct : CT} {isi : Isi} {free glo : List Str} {cons : List (Str × D)} (X : K.In h) (G : h.Ns mainGlobals mg) (c : txB K tabs ct isi free glo cons = true) (hk : ∀ x kvs, (x, kvs) ∈ tabs → ∃ es n, KDict K w (He.ga K x) es n) : Tx K w mg tabs ct isi free glo cons := by
  obtain ⟨c1, c⟩ := and2 c
  obtain ⟨c2, c⟩ := and2 c
  obtain ⟨c3, c⟩ := and2 c
  obtain ⟨c4, c⟩ := and2 c
  obtain ⟨c5, c6⟩ := and2 c
  exact ⟨tabB_ok c1 hk, ctB_ok c2, isiB_ok c3, fun x hx => He.free_ok X G (List.all_eq_true.mp c4 x (by simpa using hx)), fun x hx => He.glo_ok X G (List.all_eq_true.mp c5 x (by simpa using hx)), fun x d e => conG_ok X G (List.all_eq_true.mp c6 (x, d) (look_mem e))⟩
section
open PySem.Spec PyProof.Rows
/-- the law called, from where nothing is tracked but the script -/
theorem law_callG {P : Program} {w : World} {K : PySem.W.Frag} {mg mb : Str → Option Value} {CX : CXT} {k : Nat} {fa a : Addr} {fd : FuncData} {x : Str} {sp : Sp} {s₁ : Shared} {vs : List Value} {ns : List Int}
    (KX : K.In s₁.heap) (hns : s₁.heap.Ns mainGlobals mg) (hb : s₁.heap.Ns builtinsNs mb) (hbb : ∀ x : Str, x ≠ "__name__" → mb x = bootBuiltins x) (hlim : s₁.heap.NoLimit) (hg : s₁.gens = #[])
    (ha : s₁.heap.get? a = some { cls := .type "list", data := .seq vs.toArray }) (hi : IntsAre vs ns) (hl : ns.length ≤ sizeLine) (hr : RoomG k callerA)
    (F : ∀ base : Heap, K.In base → base.Ns mainGlobals mg → FnG P w K mg base CX k fa fd [x] sp) (hbind : ∀ (s : Shared) (u : Value), BindsTo s fd ⟨[u], []⟩ [(x, u)])
    (hsp : ∀ H : Hp, Only H → SqL K H a (ns.map V.int) → sp [.ref a] H (fun v _ => v = .bl true) fun _ _ _ => False)
    (hCX : ∀ H e s', CX [] H s₁ (fun _ _ _ => False) e s' → False) :
    codeAny (model P w) callerA (.call (.ref fa) ⟨[.ref a], []⟩) (fun r s' => r = .ok (.ret (.bool true)) ∧ OldK s₁.heap s'.heap ∧ s'.os = s₁.os ∧ AllBare s'.gens) s₁ := by
  have rv := vals_ints hi
  have lenV := hi.length
  have core : ∀ H : Hp, Only H → SqL K H a (ns.map V.int) → HOk P w H s₁.heap → (∀ b, H b ≠ none → b = a) → (H a ≠ none → K.lookup a = none) →
      codeAny (model P w) callerA (.call (.ref fa) ⟨[.ref a], []⟩) (fun r s' => r = .ok (.ret (.bool true)) ∧ OldK s₁.heap s'.heap ∧ s'.os = s₁.os ∧ AllBare s'.gens) s₁ := fun H hO hS hok hA hK => by
    have keep : ∀ {b : Addr} {o : Obj}, s₁.heap.get? b = some o → H b = none → (hidT s₁.heap H).get? b = some o := fun e n => hidT_get e n
    have only : ∀ {b : Addr}, b ≠ a → H b = none := fun {b} hb => Classical.byContradiction fun q => hb (hA b q)
    have nd : ∀ {b : Addr} {o : Obj} {es : Array DictEntry} {ep : Nat}, s₁.heap.get? b = some o → o.data = .dict es ep → H b = none := fun {b o es ep} e d => only fun z => by
      subst z
      rw [ha] at e
      cases e
      cases (show Data.seq vs.toArray _ = Data.dict es ep from d)
    have nsK : ∀ {b : Addr} {m : Str → Option Value}, s₁.heap.Ns b m → (hidT s₁.heap H).Ns b m := fun {b m} ⟨o, es, ep, e, d, r⟩ => ⟨o, es, ep, keep e (nd e d), d, r⟩
    have hKb : K.In (hidT s₁.heap H) := fun b o e => keep (KX b o e) (Classical.byContradiction fun q => by
      have z := hA b q
      subst z
      rw [hK q] at e
      cases e)
    have e0 : Env0 P w K mg (hidT s₁.heap H) callerA [] s₁ H :=
      ⟨rfl, ⟨hKb, nsK hns, ⟨mb, nsK hb, hbb⟩, let ⟨mc, h1, h2⟩ := hlim; ⟨mc, nsK h1, h2⟩⟩, fun b o e => of_hidT e, Nat.le_of_eq (hidT_size _ _), trivial, fun b hb => (List.not_mem_nil (show b ∈ ([] : List Addr) from hb)).elim, hok, .of_eq hg⟩
    refine codeAny_mono ((F _ hKb (nsK hns)).run callerA [] s₁ H ⟨[.ref a], []⟩ [.ref a] [.ref a] _ _ hr e0 (hbind s₁ (.ref a)) (.cons rfl .nil) (hsp H hO hS)) fun r s' h => ?_
    rcases r with e | fl
    · exact (hCX H e s' h).elim
    · cases fl with
      | ret u =>
        obtain ⟨v, H', os, bare, un, hok', r', q⟩ := h
        cases (show v = .bl true from q)
        cases (show u = Value.bool true from r')
        refine ⟨rfl, OldK.of_keep fun b o e => ?_, os, bare⟩
        cases q : H b with
        | none => exact un.keep b o e q (fun z => List.not_mem_nil (show b ∈ ([] : List Addr) from z)) (by simp)
        | some u =>
          rcases hO b with z | ⟨ob, xs, z⟩
          · rw [q] at z; cases z
          · have e1 := (hok b _ z).1
            rw [e] at e1
            cases e1
            exact (hok' b _ (un.frzs b _ _ z)).1
      | next => exact h.elim
      | brk => exact h.elim
      | cont => exact h.elim
  cases hk : K.lookup a with
  | some o =>
    have e := KX a o hk
    rw [ha] at e
    cases e
    exact core (fun _ => none) (fun _ => .inl rfl) (.inr ⟨_, vs.toArray, _, hk, rfl, rfl, rfl, by rw [List.size_toArray, lenV]; exact hl, by simpa using rv⟩) (fun b u z => by cases (show (none : Option HO) = some u from z)) (fun b z => absurd rfl z) fun z => absurd rfl z
  | none =>
    let H0 : Hp := fun b => if b = a then some (.frz { cls := .type "list", data := .seq vs.toArray } (.lst (ns.map V.int))) else none
    have h1 : ∀ {b : Addr}, b = a → H0 b = some (.frz { cls := .type "list", data := .seq vs.toArray } (.lst (ns.map V.int))) := fun e => if_pos e
    have h2 : ∀ {b : Addr}, b ≠ a → H0 b = none := fun e => if_neg e
    refine core H0 (fun b => ?_) (.inl (.inr ⟨{ cls := .type "list", data := .seq vs.toArray }, h1 rfl⟩)) (fun b u z => ?_) (fun b z => ?_) fun _ => hk
    · by_cases hb : b = a
      · exact .inr ⟨_, _, h1 hb⟩
      · exact .inl (h2 hb)
    · by_cases hb : b = a
      · have z' := (h1 hb).symm.trans z
        cases z'
        subst hb
        exact ⟨ha, by rw [List.length_map]; exact hl, vs, _, rv, ha⟩
      · have z' := (h2 hb).symm.trans z
        cases z'
    · exact Classical.byContradiction fun hb => z (h2 hb)
end
/-- a law's end, the exceptions by the world -/
theorem walk_ofW {l : PySem.W.OpenLaw} {n k : Nat} {q : Program} {loose : List Str} {XP : (Str → Option Value) → Heap → Prop} {YP : World → Heap → Prop} {d : DefRec} {x : Str}
    (hn : l.most = some n) (hn2 : n ≤ sizeLine) (hdf : d.params.defaults = []) (hr : Room k callerA)
    (F : ∀ (w : World) (mg : Str → Option Value) (fa : Addr) (h : Heap), YP w h → h.Ns mainGlobals mg → mg d.name = some (.ref fa) →
      ∃ (K : PySem.W.Frag) (fd : FuncData) (sp : Sp), K.In h ∧ (∀ (s : Shared) (u : Value), BindsTo s fd ⟨[u], []⟩ [(x, u)]) ∧
        (∀ (H : Hp) (a : Addr) (ns : List Int), ns.length ≤ n → Only H → SqL K H a (ns.map V.int) → sp [.ref a] H (fun v _ => v = .bl true) fun _ _ _ => False) ∧
        ∀ base : Heap, K.In base → base.Ns mainGlobals mg → FnG l.prog w K mg base (CX l.prog w) k fa fd [x] sp) :
    PySem.W.WalkO q loose XP YP l.row.toRowW d [] (fun f vs => PySem.call f vs) := by
  refine Att.attach_call hn hdf fun w s₀ s₁ mg mb fa o pm cd doc a vs ns G Y ho hd hcd hmg hobj hints hlen hg => ?_
  obtain ⟨K, fd, sp, KX, hb, hsp, hF⟩ := F w mg fa _ Y G.T.g hmg
  refine law_callG KX G.T.g G.T.b G.T.builtins G.T.nolimit hg hobj hints (Nat.le_trans hlen hn2) ⟨hr, rfl⟩ hF hb (fun H hO hS => hsp H a ns hlen hO hS) fun H e s' => ?_
  rintro ⟨_, _, _, _, _, _, _, _, _, _, _, _, z⟩
  exact z
end Fx

set_option Elab.async false
set_option linter.all false
set_option autoImplicit false
set_option maxRecDepth 100000
set_option maxHeartbeats 4000000
namespace Fx
open PySem L2 StX
/-! ## keywords: d.m(k = v), C(**d) -/
section
variable {prog : Program} {w : World} {A : Around} {E : Value → Shared → Prop} {s : Shared}
def inrs {α : Type} (l : List (Str × α)) : List (Key × α) := l.map fun p => (.inr p.1, p.2)
end
def FnKW (P : Program) (w : World) (K : PySem.W.Frag) (mg : Str → Option Value) (base : Heap) (CX : CXT) (k : Nat) (f : Addr) (ks : List Str) (sp : List V → List V → Hp → VK → XK → Prop) : Prop :=
  ∀ (A : Around) (outer : List Env) (s : Shared) (H : Hp) (us ws : List Value) (vs zs : List V) (Q : VK) (E : XK), RoomG k A → Env0 P w K mg base A outer s H → Vals vs us → Vals zs ws → sp vs zs H Q E →
    codeAny (model P w) A (.call (.ref f) ⟨us, ks.zip ws⟩) (CR CX outer P w H s Q E) s
section
variable {CX : CXT} {P : Program} {w : World} {K : PySem.W.Frag} {mg : Str → Option Value} {base : Heap} {k : Nat} {f : Addr} {fd : FuncData} {x qual : Str} {params : Arguments} {body : List Stmt} {scope : Scope} {kws : List (Str × V)} {N ps ks : List Str} {sp : Sp} {pd : Str}
end
end Fx

set_option Elab.async false
set_option linter.all false
set_option autoImplicit false
set_option maxRecDepth 100000
set_option maxHeartbeats 4000000
namespace Fx
open PySem L2 StX
/-- a method of some classes, def m(self, **d), called by the keywords ks -/
structure GMK (P : Program) (w : World) (K : PySem.W.Frag) (mg : Str → Option Value) (base : Heap) (m : Str) (k : Nat) (ks : List Str) (tab : MTab) : Prop where
  ex : ∀ C n F, tab.lookup C = some (n, F) → ∃ f : Addr, Cls K (He.ga K C) ∧ Meth K (He.ga K C) m f ∧
    FnKW P w K mg base (CX P w) k f ks (fun vs zs H Q E => vs.length = 1 ∧ zs.length = ks.length ∧ ∀ d, H d = none → spFn K n F (vs ++ [V.ref d]) (upd H d (.dK (mergeK [] (inrs (ks.zip zs))))) Q E)
section
variable {X : Cx} {P : Program} {w : World} {K : PySem.W.Frag} {mg : Str → Option Value} {base : Heap} {k n : Nat} {F : Fn} {x m : Str} {p pos apos kp : Pos} {e o : Expr} {es : List Expr} {kws : List Keyword} {ks : List Str} {t : TA} {ta te : TE} {W : WX} {tab : MTab}
end
/-! ## C(**d) -/
section
variable {prog : Program} {w : World} {A : Around} {E : Value → Shared → Prop} {s : Shared}
end
end Fx

set_option Elab.async false
set_option linter.all false
set_option autoImplicit false
set_option maxRecDepth 100000
set_option maxHeartbeats 4000000
namespace Fx
open PySem L2 StX
section
variable {prog : Program} {w : World} {A : Around} {E : Value → Shared → Prop} {s : Shared}
end
/-- a class by its name, called by the keywords ks -/
structure GKK (P : Program) (w : World) (K : PySem.W.Frag) (mg : Str → Option Value) (base : Heap) (x : Str) (n : Nat) (ks : List Str) (k : Nat) (F : Fn) : Prop where
  ex : ∃ (f : Addr) (fd : FuncData) (ps : List Str) (g : List Value → List Value → List Value), FnG P w K mg base (CX P w) k f fd ps (spFn K n F) ∧ Mk K (He.ga K x) f ∧ mg x = some (.ref (He.ga K x)) ∧ KBn K fd ps 1 ks g (fun vs zs => vs ++ zs)
section
variable {X : Cx} {P : Program} {w : World} {K : PySem.W.Frag} {mg : Str → Option Value} {base : Heap} {k n : Nat} {F : Fn} {x m : Str} {p pos apos kp : Pos} {e o : Expr} {ks : List Str} {te : TE} {W : WX}
end
end Fx

set_option Elab.async false
set_option linter.all false
set_option autoImplicit false
set_option maxRecDepth 100000
set_option maxHeartbeats 4000000
namespace Fx
open PySem L2 PySem.W PySem.Calls PyProof.Rows PySem.HandSPX
/-! ## own errors: def __init__(self, f): super().__init__(f); self.f = f -/
def iA (f : Str) (p1 p2 : Pos) : Arguments := { posonlyargs := [], args := [{ arg := "self", annotation := none, pos := p1 }, { arg := f, annotation := none, pos := p2 }], vararg := none, kwonlyargs := [], kw_defaults := [], kwarg := none, defaults := [] }
def iB (f : Str) (a1 a2 a3 a4 a5 a6 q1 q2 q3 q4 : Pos) : List Stmt := [.Expr (.Call (.Attribute (.Call (.Name "super" a1) [] [] a2) "__init__" a3) [.Name f a4] [] a5) a6, .Assign [.Attribute (.Name "self" q1) f q2] (.Name f q3) q4]
def iS (f : Str) : Scope := { kind := .function, names := [("self", .local), (f, .local), ("__class__", .free), ("super", .globalImplicit)], isGenerator := false, isCoroutine := false, more := [] }
/-- a name that is none of the others -/
structure FldOk (f : Str) : Prop where
  lk : (iS f).names.lookup f = some .local
  cl : (iS f).names.lookup ("__class__" : Str) = some NameKind.free
  su : (iS f).names.lookup ("super" : Str) = some NameKind.globalImplicit
  ns : (("self" : Str) == f) = false
  nd : (f == ("__debug__" : Str)) = false
  bd : ∀ (qual : Str) (p1 p2 : Pos) (body : List Stmt) (sc : Scope) (doc pm : Value) (an : Option Addr) (cdv ct : Value) (cc : Addr) (a b : Value), bindArgs (ksFn "__init__" qual (iA f p1 p2) body sc .none .none doc pm an cdv ct cc) ⟨[a, b], []⟩ = pure [(("self" : Str), a), (f, b)]
/-- super().__init__(f), written in one line -/
theorem ev_super {f : Str} {env : Env} {a1 a2 a3 a4 a5 : Pos} (h : (a3.endLine == a5.line) = true) : eval (.Call (.Attribute (.Call (.Name "super" a1) [] [] a2) "__init__" a3) [.Name f a4] [] a5) env = (do
      let ov ← attributeBase (.Call (.Name "super" a1) [] [] a2) "__init__" env (eval (.Call (.Name "super" a1) [] [] a2) env)
      standAt a3.atName
      let (f1, first) ← holding [ov] (getMethod ov "__init__" (do return (← importBound (.Call (.Name "super" a1) [] [] a2) env).getD true))
      callWith a5 f1 first (backTo a5 (starEach [.Name f a4] env)) []) := by
  rw [arm_eval_Call]
  unfold methodCall methodCallPos
  rw [h]
  rfl
structure SupTxt (P : Program) (K : Frag) (mg : Str → Option Value) (x fld : Str) (C fI : Addr) : Prop where
  ok : FldOk fld
  gC : mg x = some (.ref C)
  cls : ∃ nm q N bs bm sn sub ab col dd k0 k1 k2 k3 k5, K.lookup C = some (excClassObj nm q C N bs bm true sn sub ab col dd k0 k1 k2 k3 k5 "ValueError.__new__") ∧ refsVE bm = true
  sa : findIn K (.ref C) "__setattr__" = some (some (.builtin "object.__setattr__"))
  ga : findIn K (.ref C) "__getattribute__" = some (some (.builtin "BaseException.__getattribute__"))
  gg : findIn K (.ref C) "__getattr__" = some none
  noN : findIn K (.ref C) fld = some none
  iC : findIn K (.ref C) "__init__" = some (some (.ref fI))
  tC : typeIn K (.ref fI) = some (.type "function")
  kC : keepIn K (.ref C) = true
  exC : subIn K (.ref C) (.type "BaseException") = some true
  tyC : typeIn K (.ref C) = some (.type "type")
  hdC : hasDictIn K C = true
  te : exmOne K (.ref C) (.ref C) = some true
  sup : ks_superIn K C C "__init__" = some (some (.builtin "ValueError.__init__"))
  subV : subIn K (.ref C) (.type "ValueError") = some true
  own : mroIn K C (.ref C) = some true
  opq : nsIn K cStatics "thirdparty.any" = some none
  nosup : mg "super" = none
  top : (P.main.scope.names.lookup ("super" : Str)).isSome = false
  fn : ∃ (qual : Str) (oc : Value) (od : Option Addr) (doc pm : Value) (an : Option Addr) (cda : Addr) (ct : Value) (osl : Array (Option Value)) (cc : Addr) (p1 p2 a1 a2 a3 a4 a5 a6 q1 q2 q3 q4 : Pos) (ccl : Value) (cdd : Option Addr) (vs : Array Value) (ccs : Array (Option Value)) (file : Str) (tf : Tok) (cl : Value) (cld : Option Addr) (csl : Array (Option Value)),
    (a3.endLine == a5.line) = true ∧ K.lookup fI = some ⟨oc, od, .func (ksFn "__init__" qual (iA fld p1 p2) (iB fld a1 a2 a3 a4 a5 a6 q1 q2 q3 q4) (iS fld) .none .none doc pm an (.ref cda) ct cc), osl⟩ ∧ codeIn K (.ref cda) qual = true ∧
    K.lookup cda = some ⟨ccl, cdd, .fields vs, ccs⟩ ∧ vs[2]? = some (.str file tf) ∧ ((P.main.file : Str) == file) = true ∧ K.lookup cc = some ⟨cl, cld, .cell (some (.ref C)), csl⟩
/-- what __init__ leaves of a fresh exception at x -/
structure InitEnd (h h' : Heap) (x C dx t1 : Addr) (fld : Str) (v : Value) : Prop where
  keep : ∀ b o, b ≠ x → h.get? b = some o → h'.get? b = some o
  obj : h'.get? x = some { cls := .ref C, dict := some dx, data := .fields #[.ref t1, .none, .none, .none, .bool false, .none] }
  dbig : h.objs.size ≤ dx
  dne : dx ≠ x
  ns : h'.Ns1 dx (fun y => if y = fld then some v else none)
section
variable {prog : Program} {w : World} {A : Around} {R : Result → Shared → Prop} {s : Shared} {K : Frag} {mg mb : Str → Option Value} {xn fld : Str} {C fI : Addr}
theorem sup_init (T : SupTxt prog K mg xn fld C fI) {x t0 : Addr} {v : Value} (X : K.In s.heap) (hg : s.heap.Ns mainGlobals mg) (hb : s.heap.Ns builtinsNs mb) (hmb : mb "super" = some (.type "super")) (hlim : s.heap.NoLimit) (hx : s.heap.get? x = some (excO C t0)) (hnx : K.lookup x = none) (hroom : A.depth < recursionLimit)
    (hq : ∀ h' tk dx t1, InitEnd s.heap h' x C dx t1 fld v → R (.ok (.ret .none)) { s with heap := h', toks := tk }) :
    codeAny (model prog w) A (.call (.ref fI) ⟨[.ref x, v], []⟩) R s := by
  obtain ⟨qual, oc, od, doc, pm, an, cda, ct, osl, cc, p1, p2, a1, a2, a3, a4, a5, a6, q1, q2, q3, q4, ccl, cdd, vs, ccs, file, tf, cl, cld, csl, hln, ho, hcd, hcode, hvs, hfile, hcell⟩ := T.fn
  obtain ⟨nm, q, N, bs, bm, sn, sub, ab, col, dd, k0, k1, k2, k3, k5, hC, hbm⟩ := T.cls
  have hcl : clsIn K C = some { name := nm, bases := bs, mro := .ref C :: bm, ns := N, qualname := q, hasDict := true, slotNames := sn, subclasses := sub, abstract := ab, collection := col, hasDel := false } := by unfold clsIn; rw [hC] <;> rfl
  have hxC : x ≠ C := fun z => by rw [z, hC] at hnx; cases hnx
  refine ks_codeAny_call_defAt (fd := ksFn "__init__" qual (iA fld p1 p2) (iB fld a1 a2 a3 a4 a5 a6 q1 q2 q3 q4) (iS fld) .none .none doc pm an (.ref cda) ct cc) (body := iB fld a1 a2 a3 a4 a5 a6 q1 q2 q3 q4) (binds := [("self", .ref x), (fld, v)])
    hroom (X _ _ ho) rfl hlim (codeRec_of X hcd) rfl (BindsTo.of_eq ?_) ?_ ?_ (fun h₁ hns hk₁ => ?_) rfl rfl rfl
  · exact T.ok.bd _ _ _ _ _ _ _ _ _ _ _ _ _
  · intro y hy
    simp only [iS, List.mem_cons, List.not_mem_nil, or_false] at hy
    rcases hy with rfl | rfl | rfl | rfl <;> exact fun z => by cases z
  · intro y hy
    simp only [List.mem_cons, List.not_mem_nil, or_false] at hy
    rcases hy with rfl | rfl
    · rfl
    · exact T.ok.lk
  have X₁ : K.In h₁ := X.keeps hk₁
  have hx₁ := hk₁ _ _ hx
  have mself : (fun y => ([("self", Value.ref x), (fld, v)] : List (Str × Value)).reverse.lookup y) "self" = some (.ref x) := by
    show List.lookup ("self" : Str) [(fld, v), ("self", Value.ref x)] = _
    simp [List.lookup, T.ok.ns]
  have mfld : (fun y => ([("self", Value.ref x), (fld, v)] : List (Str × Value)).reverse.lookup y) fld = some v := by
    show List.lookup fld [(fld, v), ("self", Value.ref x)] = _
    simp [List.lookup]
  show PySem.wpAt _ _ _ (execs _ _) _ _ _
  have hev := ev_super (f := fld) (env := ksEnv qual (iS fld) s.heap.objs.size fI (.ref cda) cc) (a1 := a1) (a2 := a2) (a4 := a4) hln
  refine ks_wpAt_execs_cons (ks_wpAt_Expr_any (ks_wpAt_MethodCall ?_ hev))
  refine ks_wpAt_super_base (env := ksEnv qual (iS fld) s.heap.objs.size fI (.ref cda) cc) T.ok.su T.ok.cl (by decide) rfl (X₁ _ _ ho) rfl rfl rfl (X₁ _ _ hcode) rfl hvs hfile T.top ?_
  refine ks_loadName_global rfl T.ok.su (loadGlobal_builtin (env := ksEnv qual (iS fld) s.heap.objs.size fI (.ref cda) cc) (hg.keeps hk₁) T.nosup (hb.keeps hk₁) hmb ⟨rfl, ?_⟩)
  refine wpAny_loadName_free rfl T.ok.cl rfl ⟨_, X₁ _ _ hcell, rfl⟩ ?_
  refine wpAny_loadName_local rfl rfl hns mself ?_
  have hC₁ := X₁ _ _ hC
  have hxd : ∀ c, (excO C t0).data ≠ .cls c := fun c z => by cases z
  refine ks_wpAny_isType_cls hC₁ rfl ⟨rfl, ?_⟩
  refine ks_wpAny_call_super hC₁ rfl hx₁ rfl hxd (looks_mroIn X₁ T.own) (fun h₂ hso hk₂ => ?_)
  have X₂ : K.In h₂ := X₁.keeps hk₂
  have hx₂ := hk₂ _ _ hx₁
  have I₂ : InstAt h₂ x (excO C t0) C none := ⟨hx₂, rfl, rfl, trivial⟩
  have hI : Looks (model prog w) h₂ (isInstance (.ref x) (.type "ValueError")) true := I₂.type.andThen (looks_subIn X₂ T.subV)
  have hsup := T.sup
  unfold ks_superIn at hsup
  rw [hcl, Option.bind_some] at hsup
  refine kxs_getMethod kxs_ValueError hso (looks_opaque X₂ T.opq) (fun A Q E s k q => wpAny_bind ((looks_clsIn X₂ hcl) A _ E s k (wpAny_pure q))) rfl X₂ hsup hI hxC (by decide) ?_
  have hk₃ : ∀ b o, h₂.get? b = some o → (h₂.push (kxs_mw "ValueError.__init__" x)).get? b = some o := fun b o e => Heap.get?_push_of_some _ e
  have hu : (h₂.push (kxs_mw "ValueError.__init__" x)).get? h₂.objs.size = some (kxs_mw "ValueError.__init__" x) := Heap.get?_push_at rfl rfl
  have hns₃ : (h₂.push (kxs_mw "ValueError.__init__" x)).Ns s.heap.objs.size (fun y => ([("self", Value.ref x), (fld, v)] : List (Str × Value)).reverse.lookup y) := (hns.keeps hk₂).keeps hk₃
  refine kxs_callWith (i := "ValueError.__init__") (x := x) rfl ?_
  refine evalArgs_plain ?_
  show wpAny _ _ (spliced ((false, eval (.Name fld a4) (ksEnv qual (iS fld) s.heap.objs.size fI (.ref cda) cc)) :: backTo a5 (starEach [] (ksEnv qual (iS fld) s.heap.objs.size fI (.ref cda) cc)))) _ _ _
  refine Calls.spliced_cons (wpAny_Name (wpAny_loadName_local rfl T.ok.lk hns₃ mfld ?_) T.ok.nd)
  show wpAny _ _ (spliced []) _ _ _
  rw [spliced]
  refine wpAny_pure ⟨hu, ?_⟩
  have X₃ := X₂.keeps hk₃
  have hC₃ := X₃ _ _ hC
  have hx₃ := hk₃ _ _ hx₂
  have FB := F.excBase_ValueError
  refine wpAny_call (codeAny_of_tree ?_)
  show wpAny _ _ (callAny (.ref h₂.objs.size) ⟨[v], []⟩) _ _ _
  simp only [callAny]
  refine wpAny_bind (wpAny_load hu ?_)
  simp only [kxs_mw, show (Value.type "method-wrapper" == Value.type "method" || Value.type "method-wrapper" == Value.type "builtin_function_or_method" || Value.type "method-wrapper" == Value.type "method-wrapper") = true by decide, if_true]
  refine KFB.if_so (by decide) ?_
  refine wpAny_bind (check_bound_init FB.toExcCallFacts hC₃ hx₃ rfl ?_)
  refine wpAny_bind (wpAny_pure (wpAny_pure ?_))
  refine ⟨plainId_quiet FB.init.plain _, codeAny_builtin FB.initEntry ?_⟩
  refine exc_init_tree (cls := .ref C) (t0 := t0) (dv := none) (c2 := .none) (c3 := .none) (b4 := .bool false) hx₃ (by rw [sizeLine_eq]; exact (by decide : 1 ≤ 16777216)) (fun h₄ hk₄ hx₄ _ => ?_)
  have hxL : s.heap.objs.size ≠ x := Nat.ne_of_gt (Heap.lt_size hx)
  have X₄ : K.In h₄ := fun a o e => hk₄ a o (fun z => by rw [z] at e; rw [hnx] at e; cases e) (X₃ a o e)
  have hns₄ : h₄.Ns s.heap.objs.size (fun y => ([("self", Value.ref x), (fld, v)] : List (Str × Value)).reverse.lookup y) := by
    obtain ⟨oL, es, ep, hL, r⟩ := hns₃
    exact ⟨oL, es, ep, hk₄ _ _ hxL hL, r⟩
  show PySem.wpAt _ _ _ (execs _ _) _ _ _
  refine ks_wpAt_execs_cons (ks_wpAt_Assign_Attr (wpAt_of_wpAny ?_))
  refine wpAny_Name (wpAny_loadName_local rfl T.ok.lk hns₄ mfld ?_) T.ok.nd
  refine wpAny_Name (wpAny_loadName_local rfl rfl hns₄ mself ?_) (by decide)
  refine set_plain X₄ (ox := excO C (h₂.push (kxs_mw "ValueError.__init__" x)).objs.size) (od := none) ⟨hx₄, rfl, rfl, trivial⟩ T.sa ?_
  refine exc_osa X₄ hx₄ hcl (show refsVE (.ref C :: bm) = true from hbm) rfl T.noN (fun h₅ tk₅ dx k₅ dn dne hx₅ hn₅ => ?_)
  show PySem.wpAt _ _ _ (execs _ _) _ _ _
  refine wpAt_of_wpAny (wpAny_execs_nil ?_)
  refine hq h₅ tk₅ dx _ ⟨fun b o hb e => k₅ b o hb (hk₄ b o hb (hk₃ b o (hk₂ b o (hk₁ b o e)))), hx₅, Nat.le_of_lt (Nat.lt_of_lt_of_le hns₄.lt dn), dne, hn₅⟩
/-- a made error -/
structure OwnMade (h h' : Heap) (e C d : Addr) (fld : Str) (v : Value) : Prop where
  keep : ∀ b o, h.get? b = some o → h'.get? b = some o
  new : h.objs.size ≤ e
  obj : ∃ oe vs, h'.get? e = some oe ∧ oe.cls = .ref C ∧ oe.dict = some d ∧ oe.data = .fields vs ∧ vs[1]? = some .none
  dbig : h.objs.size ≤ d
  dne : d ≠ e
  ns : h'.Ns1 d (fun y => if y = fld then some v else none)
  six : ∃ t1, h'.get? e = some { cls := .ref C, dict := some d, data := .fields #[.ref t1, .none, .none, .none, .bool false, .none] }
theorem sup_made (T : SupTxt prog K mg xn fld C fI) {v : Value} (X : K.In s.heap) (hg : s.heap.Ns mainGlobals mg) (hb : s.heap.Ns builtinsNs mb) (hmb : mb "super" = some (.type "super")) (hlim : s.heap.NoLimit) (hroom : A.depth + 1 < recursionLimit)
    (hq : ∀ h' tk e d, OwnMade s.heap h' e C d fld v → R (.ok (.ret (.ref e))) { s with heap := h', toks := tk }) :
    codeAny (model prog w) A (.call (.ref C) ⟨[v], []⟩) R s := by
  obtain ⟨nm, q, N, bs, bm, sn, sub, ab, col, dd, k0, k1, k2, k3, k5, hC, hbm⟩ := T.cls
  obtain ⟨hp, g, dr, tk, os⟩ := s
  have k : ∀ b o, hp.get? b = some o → ((hp.push (kdv_tup [v])).push (excO C hp.objs.size)).get? b = some o := fun b o e => Heap.get?_push_of_some _ (Heap.get?_push_of_some _ e)
  have hget : ((hp.push (kdv_tup [v])).push (excO C hp.objs.size)).get? (hp.objs.size + 1) = some (excO C hp.objs.size) := by heap_get
  have hnx : K.lookup (hp.objs.size + 1) = none := by
    cases e : K.lookup (hp.objs.size + 1) with
    | none => rfl
    | some o =>
      have z : hp.get? (hp.objs.size + 1) = some o := X _ _ e
      exact absurd (Nat.lt_of_succ_lt (Heap.lt_size z)) (Nat.lt_irrefl _)
  have h1 : [v].length ≤ sizeLine := by rw [sizeLine_eq]; exact (by decide : 1 ≤ 16777216)
  refine call_own F.excBase_ValueError (fun X => refsVE_contains X bm hbm) (X _ _ hC) (looks_findIn X T.iC) (fun self => bind_fn X self T.tC) h1 ?_
  refine sup_init (s := ⟨(hp.push (kdv_tup [v])).push (excO C hp.objs.size), g, dr, tk, os⟩) T (X.keeps k) (hg.keeps k) (hb.keeps k) hmb (hlim.keeps k) hget hnx ?_ fun h' tk' dx t1 ⟨k', hx, dn, dne, hns⟩ => ?_
  · show A.depth + 1 < recursionLimit
    exact hroom
  · have old : ∀ b o, hp.get? b = some o → h'.get? b = some o := fun b o e => k' b o (Nat.ne_of_lt (Nat.lt_succ_of_lt (Heap.lt_size e))) (k b o e)
    have z : hp.objs.size + 1 + 1 ≤ dx := by
      first
        | (simpa only [Heap.size_push] using dn)
        | exact dn
        | (have q := dn; rw [Heap.size_push, Heap.size_push] at q; exact q)
    exact ⟨rfl, hq h' tk' (hp.objs.size + 1) dx ⟨old, Nat.le_succ _, ⟨_, _, hx, rfl, rfl, rfl, rfl⟩, Nat.le_trans (Nat.le_trans (Nat.le_succ _) (Nat.le_succ _)) z, dne, hns, ⟨_, hx⟩⟩⟩
end
end Fx

set_option Elab.async false
set_option linter.all false
set_option autoImplicit false
set_option maxRecDepth 100000
set_option maxHeartbeats 4000000
namespace Fx
open PySem PySem.Spec PyProof.Rows L2
theorem relO_fld {fld : Str} {v : V} {v' : Value} (r : RelV v v') (f : Str) : RelO (List.lookup f [(fld, v)]) (if f = fld then some v' else none) := by
  by_cases hw : f = fld
  · subst hw
    rw [if_pos rfl]
    have q : List.lookup f [(f, v)] = some v := by simp [List.lookup]
    rw [q]
    exact r
  · rw [if_neg hw]
    have qw : (f == fld) = false := by simpa using hw
    have q2 : List.lookup f [(fld, v)] = none := by simp [List.lookup, qw]
    rw [q2]
    trivial
section
variable {X : Cx} {C fI : Addr} {x fld : Str}
/-- x(e), an own error -/
def tMkSup (C : Addr) (fld : Str) (ta : TA) : L2.St → Hp → XK → Prop := fun σ H Q => ta σ H fun vs H1 => ∃ v, vs = [v] ∧ ∀ d, H1 d = none → Q (.ref C) (some d) (upd H1 d (.xd [(fld, v)]))
theorem pmk_sup {a : Expr} {ta : TA} {p pos : Pos} {k : Nat} (T : SupTxt X.prog X.K X.mg x fld C fI) (hr : RoomG k X.A) (ha : PA X [a] ta) (hg : Gl X x) (hdb : (x == ("__debug__" : Str)) = false := by decide)
    (he : starEach (a :: []) X.env = (false, eval a X.env) :: starEach [] X.env := by rfl) (hpl : (backTo pos (starEach [] X.env)).any (·.1) = false := by rfl) :
    PMk X (.Call (.Name x p) [a] [] pos) (tMkSup C fld ta) := by
  intro pins s σ H Q I h
  refine wpAny_Call_Name_kw (ld_glob I hg T.gC ?_ hdb)
  refine PySem.W.callWith_K (h₀ := X.base) I.ok.mod.kin T.kC (thn (ha.run pos pins s σ H _ I h) fun us s1 hh => ?_) he hpl
  obtain ⟨vs, H1, I1, r1, v, ev, q1⟩ := hh
  subst ev
  refine ⟨I1.kIn, ?_⟩
  cases r1 with
  | cons rv rn =>
    rename_i v' us'
    cases rn
    show wpAny _ _ (call (.ref C) [v']) _ _ _
    have hlim := I1.nolimit
    have kb : ∀ b o, X.base.get? b = some o → s1.heap.get? b = some o := fun b o e => (I1.env0.bs b o e).1
    obtain ⟨mb, hmb1, hmb2⟩ := I1.ok.mod.blt
    have hgl : s1.heap.Ns mainGlobals X.mg := I1.ok.mod.glob.keeps kb
    have hbl : s1.heap.Ns builtinsNs mb := hmb1.keeps kb
    have hms : mb "super" = some (.type "super") := (hmb2 _ (by decide +kernel)).trans (by decide +kernel)
    obtain ⟨hp, g, dr, tk, os⟩ := s1
    refine wpAny_call (sup_made T I1.kIn hgl hbl hms hlim (by have := hr.r.dp; omega) fun h' tk' e d M => ?_)
    show MkP X pins σ Q (.ref e) ⟨h', g, dr, tk', os⟩
    obtain ⟨oe, fv, hoe, hc, hd, hdat, h1⟩ := M.obj
    have hns := M.ns
    obtain ⟨G', g1, g2⟩ := restrict h' fun b => decide (b ≠ e)
    have gk : ∀ b, b ≠ e → G'.get? b = h'.get? b := fun b hb => g1 b (decide_eq_true hb)
    have ge : G'.get? e = none := g2 e (by simp)
    have old : ∀ b o, hp.get? b = some o → G'.get? b = some o := fun b o q => (gk b (Nat.ne_of_lt (Nat.lt_of_lt_of_le (Heap.lt_size q) M.new))).trans (M.keep b o q)
    have ob : ObjOk X.prog X.w (upd H1 d (.xd [(fld, v)])) G' d (.xd [(fld, v)]) :=
      ⟨_, hns.at (fun o q => (gk d M.dne).trans q), fun f => relO_fld rv f⟩
    have J : Inv X pins σ (upd H1 d (.xd [(fld, v)])) ⟨G', g, dr, tk', os⟩ := I1.laid (t' := tk') old M.dbig ob
    refine ⟨e, oe, fv, ⟨G', g, dr, tk', os⟩, _, .ref C, some d, rfl, J, fun b o q => ?_, ge, hoe, ⟨hc, hd⟩, hdat, h1, ?_, rfl, I1.bare, raises_own T.exC T.tyC, q1 d (I1.hok.fresh M.dbig)⟩
    · by_cases hb : b = e
      · have q' : G'.get? b = some o := q
        rw [hb, ge] at q'; cases q'
      · exact (gk b hb).symm.trans q
    · rw [upd_ne (Ne.symm M.dne)]
      exact I1.hok.fresh M.new
/-- raise x(e) -/
def tRaiseSup (C : Addr) (fld : Str) (W : WX) (ta : TA) : TS := fun _ σ H => tMkSup C fld ta σ H fun cls d H' => W cls d σ H'
theorem ps_raiseSup {a : Expr} {ta : TA} {W : WX} {p pos pos2 : Pos} {k : Nat} (hc : X.calm = true) (T : SupTxt X.prog X.K X.mg x fld C fI) (hr : RoomG k X.A) (tk : Takes X W) (ha : PA X [a] ta) (hg : Gl X x) (hdb : (x == ("__debug__" : Str)) = false := by decide)
    (he : starEach (a :: []) X.env = (false, eval a X.env) :: starEach [] X.env := by rfl) (hpl : (backTo pos (starEach [] X.env)).any (·.1) = false := by rfl) :
    PS X (.Raise (some (.Call (.Name x p) [a] [] pos)) none pos2) (tRaiseSup C fld W ta) := ps_raise hc tk (pmk_sup T hr ha hg hdb he hpl)
/-- e.f, e the exception that the suite holds (at a; its class cls, its dict d) -/
def tBySup (C : Addr) (fld : Str) (a : Addr) (cls : Value) (d : Option Addr) (te : TE) : TE := fun σ H Q => te σ H fun y H1 => y = .ref a ∧ cls = .ref C ∧ ∃ (dd : Addr) (v : V), d = some dd ∧ H1 dd = some (.xd [(fld, v)]) ∧ Q v H1
theorem pe_bySup {a : Addr} {oe : Obj} {cls : Value} {d : Option Addr} {pn : List (Addr × Obj)} {e : Expr} {te : TE} {pos : Pos} (T : SupTxt X.prog X.K X.mg x fld C fI) (hz : Zc cls d oe) (hf : ∃ vs, oe.data = .fields vs) (he : PE (X.suite a ((a, oe) :: pn)) e te)
    (hb : attributeBase e fld X.env (eval e X.env) = eval e X.env := by rfl) :
    PE (X.suite a ((a, oe) :: pn)) (.Attribute e fld pos) (tBySup C fld a cls d te) := by
  refine ⟨fun pins s σ H Q I h => ?_⟩
  refine attr_of hb (thn (he.run pins s σ H _ I h) fun u s1 hh => ?_)
  obtain ⟨y, H1, I1, rx, ex, ec, dd, v, ed, ea, q⟩ := hh
  subst ex
  obtain rfl : u = Value.ref a := rx
  subst ec
  subst ed
  obtain ⟨ha, _⟩ := I1.pin (a, oe) (List.mem_append_left _ List.mem_cons_self)
  obtain ⟨vs, hd⟩ := hf
  have hx : ObjOk X.prog X.w H1 s1.heap dd (.xd [(fld, v)]) := I1.hok dd _ ea
  obtain ⟨mA, hns, hr⟩ := hx
  obtain ⟨od, ho, hl⟩ := lookIn_ns hns
  have l : List.lookup fld [(fld, v)] = some v := by simp [List.lookup]
  obtain ⟨u, hu, ru⟩ := RelO.some_of (v := v) (o := mA fld) (by rw [← l]; exact hr fld)
  have J : PySem.W.InstAt s1.heap a oe C (some od) := ⟨ha, hz.1, by unfold PySem.W.notCls; rw [hd] <;> rfl, by rw [hz.2]; exact ho⟩
  exact HandSPX.exc_get I1.kIn J T.ga T.gg T.exC (PySem.W.findObj_own T.hdC T.noN rfl (by rw [hl, hu])) (handed_of ru) ⟨v, H1, I1.tok _, ru, q⟩
end
end Fx

set_option Elab.async false
set_option linter.all false
set_option autoImplicit false
set_option maxRecDepth 100000
set_option maxHeartbeats 4000000
namespace Fx
open PySem PySem.Spec PySem.W PySem.Calls PyProof.Rows L2
section
variable {prog : Program} {w : World} {A : Around} {E : Value → Shared → Prop} {s : Shared} {K : Frag} {x D : Addr} {ox : Obj} {od : Option Obj}
theorem findObj_dataO {C : Addr} {name : Str} {a g : Value} (hc : (clsIn K C).isSome = true) (ha : findIn K (.ref C) name = some (some a)) (hg : specialIn K a "__get__" = some (some g)) (ht : takesIn K a = some true) : findObj K C od name = some (.bind g a) := by
  obtain ⟨cd, hc⟩ := Option.isSome_iff_exists.mp hc
  unfold findObj
  rw [hc, Option.bind_some, ha, Option.bind_some]
  simp [hg, ht]
theorem kin_classD {Q : Option Value → Shared → Prop} (C : ExcC K D) (X : K.In s.heap) (I : InstAt s.heap x ox D od) (h : Q (some (.ref D)) { s with toks := s.toks + 1 }) : wpAny (model prog w) A (getAttr? (.ref x) "__class__") Q E s := by
  have hf : findObj K D od "__class__" = some (.bind (.builtin "getset_descriptor.__get__") (.builtin "object.__class__")) := findObj_dataO (by obtain ⟨cd, hc, _⟩ := any_some C.hd; rw [hc]; rfl) C.ha C.hn C.ht
  obtain ⟨hp, g, d, t, os⟩ := s
  have L0 := I.type (M := model prog w)
  have L1 := looks_findIn (M := model prog w) X C.hg
  have L2 := looks_findIn (M := model prog w) X C.hk
  have L3 := looks_find (M := model prog w) X I hf
  have sub : Looks (model prog w) hp (isInstance (.ref x) (.type "BaseException")) true := L0.andThen (looks_subIn X C.hs)
  have hx0 : (false && onTheHeap (Value.builtin "BaseException.__getattribute__")) = false := rfl
  have hx2 : (Value.builtin "BaseException.__getattribute__" == Value.builtin "object.__getattribute__") = false := by decide +kernel
  have hx1 : (onTheHeap (Value.ref D) && Value.builtin "BaseException.__getattribute__" == Value.builtin "object.__getattribute__") = false := by rw [hx2]; rfl
  unfold getAttr? getAttrBy? getAttrBy
  refine wpAny_bind (wpAny_mkText (wpAny_bind (wpAny_attempt (wpAny_holding (wpAny_bind (L0.at (wpAny_bind (L1.at ?_))))))))
  show wpAny _ _ (if (onTheHeap (Value.ref D) && Value.builtin "BaseException.__getattribute__" == Value.builtin "object.__getattribute__") = true then _ else _) _ _ _
  rw [hx1, if_neg Bool.false_ne_true]
  unfold getAttrByItsOwn hookBefore
  refine wpAny_bind ?_
  rw [if_pos (show onTheHeap (Value.ref D) = true from rfl)]
  refine L2.at ?_
  refine wpAny_bind (wpAny_attempt (wpAny_holding ?_))
  unfold callGetattribute
  rw [hx0, if_neg Bool.false_ne_true]
  unfold boundAndCalled
  rw [PySem.F.excAttr_ValueError.ga.bind (.ref x)]
  refine wpAny_bind (wpAny_pure ?_)
  show wpAny _ _ (call (.builtin "BaseException.__getattribute__") [.ref x, .str "__class__" t]) _ _ _
  refine wpAny_call (codeAny_call_builtin PySem.F.excAttr_ValueError.ga.plain PySem.F.entry_bexc_ga ?_)
  refine @check_slot (model prog w) _ _ ⟨hp, g, d, t + 1, os⟩ "BaseException.__getattribute__" "BaseException" "__getattribute__" (.ref x) [.str "__class__" t] [] _ (by decide +kernel) (by decide +kernel) sub (PySem.F.args_bexc_ga (.ref x) (.str "__class__" t)) ?_
  unfold Builtin.«object.__getattribute__»
  refine wpAny_bind (wpAny_of_eq (a := ((Value.ref x : Value), [Value.str "__class__" t])) (by first | rfl | (simp only [slotArgs]; rfl)) ?_)
  refine wpAny_bind (wpAny_pure (wpAny_bind (L0.at (wpAny_bind (L3.at ?_)))))
  show wpAny _ _ (holding [Value.builtin "object.__class__"] (call (.builtin "getset_descriptor.__get__") [.builtin "object.__class__", .ref x, .ref D]) >>= ret) _ _ _
  refine wpAny_bind (wpAny_holding (wpAny_call (class_get (s := ⟨hp, g, d, t + 1, os⟩) (ox := ox) (od := od) X I C.hm ?_)))
  refine wpAny_pure ?_
  show wpAny _ _ (handedOut (.ref D)) _ _ _
  rw [handedOut_of (v := .ref D) rfl]
  first
    | exact wpAny_pure (wpAny_pure h)
    | exact wpAny_pure h
    | exact wpAny_pure (wpAny_bind (wpAny_pure (wpAny_pure h)))
theorem kitx_dict (C : ExcC K D) : KitX K (.ref x) (.ref D) (fun h => InstAt h x ox D od) where
  ty := fun _ _ _ I => I.type
  it := fun _ _ X _ => by
    obtain ⟨cdD, hcD, _⟩ := any_some C.hd
    unfold clsIn at hcD
    split at hcD
    · rename_i c' d' cd' sl' ho
      intro A' Q' E' s' k q
      unfold isType loadHead
      exact wpAny_bind (wpAny_loadPart (k _ _ (X _ _ ho)) (wpAny_pure q))
    · cases hcD
  ne := fun h tp dd its n sl X htp => by
    obtain ⟨cdD, hcD, _⟩ := any_some C.hd
    refine Bool.eq_false_iff.mpr fun q => ?_
    have e : D = tp := Value.ref.inj (beq_iff_eq.mp q)
    subst e
    unfold clsIn at hcD
    split at hcD
    · rename_i c' d' cd' sl' ho
      have z := (X _ _ ho).symm.trans htp
      cases z
    · cases hcD
  ca := fun X I k => kin_classD C X I k
end
/-- isinstance(e, c), e the exception that the suite holds, with a dict of its own -/
def rIsX (K : Frag) (D a : Addr) (fs : Option Addr) : List V → Hp → VK → Prop := fun xs H Q => ∃ (c : V) (cv : Value) (b : Bool) (dd : Addr) (vs : List (Str × V)), fs = some dd ∧ H dd = some (.xd vs) ∧ xs = [.ref a, c] ∧ (∀ u, RelV c u → u = cv) ∧ kitOne K (.ref D) cv = some b ∧ Q (.bl b) H
theorem call_isX {X : Cx} {a D : Addr} {oe : Obj} {d : Option Addr} {pn : List (Addr × Obj)} (C : ExcC X.K D) (hz : Zc (.ref D) d oe) (hf : ∃ vs, oe.data = .fields vs) : CallR (X.suite a ((a, oe) :: pn)) (.builtin "isinstance") (rIsX X.K D a d) := by
  intro pins s σ H xs us Q I r h
  obtain ⟨c, cv, b, dd, ws, rfl, hdd, rfl, hcv, e, q⟩ := h
  cases r with
  | cons rx rr =>
    cases rr with
    | cons rt rr =>
      cases rr
      cases rx
      have ec := hcv _ rt
      subst ec
      obtain ⟨hget, _⟩ := I.pin (a, oe) (List.mem_append.mpr (.inl List.mem_cons_self))
      obtain ⟨vs, hv⟩ := hf
      have hx : ObjOk X.prog X.w H s.heap dd (.xd ws) := I.hok dd _ hdd
      obtain ⟨mA, hns, hr⟩ := hx
      obtain ⟨od, ho, hl⟩ := lookIn_ns hns
      have J : InstAt s.heap a oe D (some od) := ⟨hget, hz.1, by unfold PySem.W.notCls; rw [hv] <;> rfl, by rw [hz.2]; exact ho⟩
      exact kia_one (kitx_dict C) I.kIn J e (fun z => nomatch z) fun tk => ⟨.bl b, H, I.kept (t' := tk) fun _ _ z => z, rfl, q⟩
end Fx

set_option Elab.async false
set_option linter.all false
set_option autoImplicit false
set_option maxRecDepth 100000
set_option maxHeartbeats 2000000
namespace Fx
open PySem L2
/-! ## outcomes, step by step -/
section
variable {δ : Sta} {Ψ : SV → Sta → Prop} {Ξ : Xn → Sta → Prop} {Ψb : Bool → Sta → Prop} {Ψl : List SV → Sta → Prop} {Φ : Post} {a b e : AE} {t u : AT} {r : AA} {p q : AS}
theorem s_c {d : D} (h : Ψ (.im d) δ) : (aC d δ).sat Ψ Ξ := h
theorem s_var {i : Nat} {s : SV} (hs : δ.sl[i]? = some s) (hn : s ≠ .no) (h : Ψ (nrm δ.ce s) δ) : (aVar i δ).sat Ψ Ξ := by
  unfold aVar
  rw [hs]
  cases s with
  | no => exact absurd rfl hn
  | im d => exact h
  | cl c => exact h
theorem s_varI {i : Nat} {d : D} (hs : δ.sl[i]? = some (.im d)) (h : Ψ (.im d) δ) : (aVar i δ).sat Ψ Ξ := s_var hs (fun z => by cases z) h
theorem s_varC {i c : Nat} {s : SV} (hs : δ.sl[i]? = some (.cl c)) (hn : nrm δ.ce (.cl c) = s) (h : Ψ s δ) : (aVar i δ).sat Ψ Ξ := s_var hs (fun z => by cases z) (by rw [hn]; exact h)
theorem sat_of_bind {S α β : Type} {o : Out S α} {f : α → S → Out S β} {Ψ : β → S → Prop} {Ξ : Xn → S → Prop} (h : o.sat (fun a s => (f a s).sat Ψ Ξ) Ξ) : (o.bind f).sat Ψ Ξ := by
  cases o <;> exact h
theorem s_op {o : AOp} (h : (a δ).sat (fun s δ1 => (b δ1).sat (fun t δ2 => (o s t δ2).sat Ψ Ξ) Ξ) Ξ) : (aOp o a b δ).sat Ψ Ξ :=
  sat_of_bind (Out.sat_mono h (fun _ _ h1 => sat_of_bind h1) fun _ _ z => z)
theorem s_dop {f : D → D → Option D} {s t : SV} {x y d : D} (h1 : dv δ.ce s = some x) (h2 : dv δ.ce t = some y) (h3 : f x y = some d) (k : Ψ (.im d) δ) : (dOp f s t δ).sat Ψ Ξ := by
  unfold dOp
  rw [h1, h2]
  dsimp only
  rw [h3]
  exact k
theorem s_nil (h : Ψl [] δ) : (aNil δ).sat Ψl Ξ := h
theorem s_cons (h : (a δ).sat (fun s δ1 => (r δ1).sat (fun ss δ2 => Ψl (s :: ss) δ2) Ξ) Ξ) : (aCons a r δ).sat Ψl Ξ :=
  sat_of_bind (Out.sat_mono h (fun _ _ h1 => sat_of_bind (Out.sat_mono h1 (fun _ _ z => z) fun _ _ z => z)) fun _ _ z => z)
theorem s_test (h : (a δ).sat (fun s δ1 => ∃ b, dv δ1.ce s = some (.bl b) ∧ Ψb b δ1) Ξ) : (aTest a δ).sat Ψb Ξ :=
  sat_of_bind (Out.sat_mono h (fun s δ1 ⟨b, h1, h2⟩ => by rw [h1]; exact h2) fun _ _ z => z)
theorem s_and (h : (t δ).sat (fun b δ1 => (b = true → (u δ1).sat Ψb Ξ) ∧ (b = false → Ψb false δ1)) Ξ) : (aAnd t u δ).sat Ψb Ξ :=
  sat_of_bind (Out.sat_mono h (fun b δ1 h1 => by cases b with
    | false => exact h1.2 rfl
    | true => exact h1.1 rfl) fun _ _ z => z)
theorem s_or (h : (t δ).sat (fun b δ1 => (b = true → Ψb true δ1) ∧ (b = false → (u δ1).sat Ψb Ξ)) Ξ) : (aOr t u δ).sat Ψb Ξ :=
  sat_of_bind (Out.sat_mono h (fun b δ1 h1 => by cases b with
    | false => exact h1.2 rfl
    | true => exact h1.1 rfl) fun _ _ z => z)
theorem s_not (h : (t δ).sat (fun b δ1 => Ψb (!b) δ1) Ξ) : (aNot t δ).sat Ψb Ξ := sat_of_bind h
theorem s_yes (h : Ψb true δ) : (aYes δ).sat Ψb Ξ := h
theorem s_andV (h : (a δ).sat (fun s δ1 => ∃ c, dv δ1.ce s = some (.bl c) ∧ (c = true → (b δ1).sat Ψ Ξ) ∧ (c = false → Ψ (.im (.bl false)) δ1)) Ξ) : (aAndV a b δ).sat Ψ Ξ :=
  sat_of_bind (Out.sat_mono h (fun s δ1 ⟨c, h1, h2, h3⟩ => by rw [h1]; cases c with
    | false => exact h3 rfl
    | true => exact h2 rfl) fun _ _ z => z)
theorem s_orV (h : (a δ).sat (fun s δ1 => ∃ c, dv δ1.ce s = some (.bl c) ∧ (c = true → Ψ (.im (.bl true)) δ1) ∧ (c = false → (b δ1).sat Ψ Ξ)) Ξ) : (aOrV a b δ).sat Ψ Ξ :=
  sat_of_bind (Out.sat_mono h (fun s δ1 ⟨c, h1, h2, h3⟩ => by rw [h1]; cases c with
    | false => exact h3 rfl
    | true => exact h2 rfl) fun _ _ z => z)
theorem s_notV (h : (a δ).sat (fun s δ1 => ∃ c, dv δ1.ce s = some (.bl c) ∧ Ψ (.im (.bl (!c))) δ1) Ξ) : (aNotV a δ).sat Ψ Ξ :=
  sat_of_bind (Out.sat_mono h (fun s δ1 ⟨c, h1, h2⟩ => by rw [h1]; exact h2) fun _ _ z => z)
theorem s_neg (h : (a δ).sat (fun s δ1 => ∃ i, dv δ1.ce s = some (.int i) ∧ Ψ (.im (.int (-i))) δ1) Ξ) : (aNeg a δ).sat Ψ Ξ :=
  sat_of_bind (Out.sat_mono h (fun s δ1 ⟨c, h1, h2⟩ => by rw [h1]; exact h2) fun _ _ z => z)
theorem s_if (h : (t δ).sat (fun c δ1 => (c = true → (a δ1).sat Ψ Ξ) ∧ (c = false → (b δ1).sat Ψ Ξ)) Ξ) : (aIf t a b δ).sat Ψ Ξ :=
  sat_of_bind (Out.sat_mono h (fun c δ1 h1 => by cases c with
    | false => exact h1.2 rfl
    | true => exact h1.1 rfl) fun _ _ z => z)
theorem s_lst (h : (r δ).sat (fun ss δ1 => ss.length ≤ 1000 ∧ ∃ ds, imL δ1.ce ss = some ds ∧ Ψ (.im (.lst ds)) δ1) Ξ) : (aLst r δ).sat Ψ Ξ :=
  sat_of_bind (Out.sat_mono h (fun ss δ1 ⟨h0, ds, h1, h2⟩ => by rw [if_pos h0, h1]; exact h2) fun _ _ z => z)
theorem s_lstC (h : (r δ).sat (fun ss δ1 => ss.length ≤ 1000 ∧ Ψ (.cl δ1.ce.length) ⟨δ1.sl, δ1.ce ++ [.lst ss]⟩) Ξ) : (aLstC r δ).sat Ψ Ξ :=
  sat_of_bind (Out.sat_mono h (fun ss δ1 ⟨h0, h1⟩ => by rw [if_pos h0]; exact h1) fun _ _ z => z)
theorem s_tup (h : (r δ).sat (fun ss δ1 => ss.length ≤ 1000 ∧ ∃ ds, imL δ1.ce ss = some ds ∧ Ψ (.im (.tup ds)) δ1) Ξ) : (aTup r δ).sat Ψ Ξ :=
  sat_of_bind (Out.sat_mono h (fun ss δ1 ⟨h0, ds, h1, h2⟩ => by rw [if_pos h0, h1]; exact h2) fun _ _ z => z)
theorem s_cb {f : ACB} (h : (r δ).sat (fun ss δ1 => (f ss δ1).sat Ψ Ξ) Ξ) : (aCB f r δ).sat Ψ Ξ := sat_of_bind h
theorem s_cb1 {f : D → Option D} {s : SV} {x d : D} (h1 : dv δ.ce s = some x) (h2 : f x = some d) (k : Ψ (.im d) δ) : (dCB1 f [s] δ).sat Ψ Ξ := by
  unfold dCB1
  dsimp only
  rw [h1]
  dsimp only
  rw [h2]
  exact k
theorem s_cb2 {f : D → D → Option D} {s t : SV} (h : (dOp f s t δ).sat Ψ Ξ) : (dCB2 f [s, t] δ).sat Ψ Ξ := h
theorem s_fld {ct : CT} {f : Str} (h : (a δ).sat (fun s δ1 => ∃ C fs d, s = .im (.ins C fs) ∧ fs.lookup f = some d ∧ ct.has C f = true ∧ Ψ (.im d) δ1) Ξ) : (aFld ct a f δ).sat Ψ Ξ :=
  sat_of_bind (Out.sat_mono h (fun s δ1 ⟨C, fs, d, h0, h1, h2, h3⟩ => by subst h0; dsimp only; rw [h1]; dsimp only; rw [if_pos h2]; exact h3) fun _ _ z => z)
theorem s_call {n : Nat} {F : Fn} {dds : List D} (h : (r δ).sat (fun ss δ1 => (ss ++ dds.map SV.im).length = n ∧ (F (ss ++ dds.map SV.im) δ1.ce).sat (fun s ce => Ψ s ⟨δ1.sl, ce⟩) (fun x ce => Ξ x ⟨δ1.sl, ce⟩)) Ξ) : (aCall n F dds r δ).sat Ψ Ξ :=
  sat_of_bind (Out.sat_mono h (fun ss δ1 ⟨h0, h1⟩ => by
    rw [if_pos h0]
    cases q : F (ss ++ dds.map SV.im) δ1.ce <;> rw [q] at h1 <;> exact h1) fun _ _ z => z)
theorem s_meth {tab : MTab} {m : Str} (h : (a δ).sat (fun s δ1 => ∃ C n F, clsS δ1 m s = some C ∧ tab.lookup C = some (n, F) ∧ (r δ1).sat (fun ss δ2 => (s :: ss).length = n ∧ (F (s :: ss) δ2.ce).sat (fun s ce => Ψ s ⟨δ2.sl, ce⟩) (fun x ce => Ξ x ⟨δ2.sl, ce⟩)) Ξ) Ξ) : (aMeth tab m a r δ).sat Ψ Ξ :=
  sat_of_bind (Out.sat_mono h (fun s δ1 ⟨C, n, F, h0, h1, h2⟩ => by
    rw [h0]; dsimp only; rw [h1]; dsimp only
    refine sat_of_bind (Out.sat_mono h2 (fun ss δ2 ⟨h3, h4⟩ => ?_) fun _ _ z => z)
    rw [if_pos h3]
    cases q : F (s :: ss) δ2.ce <;> rw [q] at h4 <;> exact h4) fun _ _ z => z)
theorem s_bm {T : String} {f : ABM} (h : (a δ).sat (fun s δ1 => tyS T δ1 s = true ∧ (r δ1).sat (fun ss δ2 => (f s ss δ2).sat Ψ Ξ) Ξ) Ξ) : (aBM T f a r δ).sat Ψ Ξ :=
  sat_of_bind (Out.sat_mono h (fun s δ1 ⟨h0, h1⟩ => by rw [if_pos h0]; exact sat_of_bind h1) fun _ _ z => z)
theorem s_bm0 {T : String} {f : ABM} (h : (a δ).sat (fun s δ1 => tyS T δ1 s = true ∧ (f s [] δ1).sat Ψ Ξ) Ξ) : (aBM0 T f a δ).sat Ψ Ξ :=
  sat_of_bind (Out.sat_mono h (fun s δ1 ⟨h0, h1⟩ => by rw [if_pos h0]; exact h1) fun _ _ z => z)
theorem s_bm1 {f : D → D → Option D} {s t : SV} (h : (dOp f s t δ).sat Ψ Ξ) : (dBM1 f s [t] δ).sat Ψ Ξ := h
theorem s_bmz {f : D → Option D} {s : SV} {x d : D} (h1 : dv δ.ce s = some x) (h2 : f x = some d) (k : Ψ (.im d) δ) : (dBM0 f s [] δ).sat Ψ Ξ := by
  unfold dBM0
  dsimp only
  rw [h1]
  dsimp only
  rw [h2]
  exact k
theorem s_isi {isi : Isi} {s t : SV} {k c : XC} {d : D} {b : Bool} (h1 : kindS δ s = some k) (h2 : dv δ.ce t = some d) (h3 : clsD d = some c) (h4 : isi.lookup (k, c) = some b) (h : Ψ (.im (.bl b)) δ) : (isiA isi [s, t] δ).sat Ψ Ξ := by
  unfold isiA
  dsimp only
  rw [h1, h2]
  dsimp only
  rw [h3]
  dsimp only
  rw [h4]
  exact h
theorem s_sl {lo hi : AO} (h : (a δ).sat (fun s δ1 => (lo δ1).sat (fun l δ2 => (hi δ2).sat (fun k δ3 => ∃ x d, dv δ3.ce s = some x ∧ slD x l k = some d ∧ (∀ ds, x ≠ .tup ds) ∧ Ψ (.im d) δ3) Ξ) Ξ) Ξ) : (aSl a lo hi δ).sat Ψ Ξ :=
  sat_of_bind (Out.sat_mono h (fun s δ1 h1 => sat_of_bind (Out.sat_mono h1 (fun l δ2 h2 => sat_of_bind (Out.sat_mono h2 (fun k δ3 ⟨x, d, e1, e2, e3, h3⟩ => by
    have key : ∀ {s : SV}, dv δ3.ce s = some x → Out.sat (match dv δ3.ce s with
      | some (.tup _) => (.bad : O SV)
      | some x => (match slD x l k with
        | some d => .ok (.im d) δ3
        | none => .bad)
      | none => .bad) Ψ Ξ := fun {s} e1 => by
      rw [e1]
      cases x with
      | tup ds => exact absurd rfl (e3 ds)
      | _ => dsimp only; rw [e2]; exact h3
    split
    · cases e1; exact absurd rfl (e3 _)
    · exact key e1) fun _ _ z => z)) fun _ _ z => z)) fun _ _ z => z)
theorem s_nopart {Ψo : Option Int → Sta → Prop} (h : Ψo none δ) : (aNoPart δ).sat Ψo Ξ := h
theorem s_part {Ψo : Option Int → Sta → Prop} (h : (a δ).sat (fun s δ1 => ∃ i, dv δ1.ce s = some (.int i) ∧ Ψo (some i) δ1) Ξ) : (aPart a δ).sat Ψo Ξ :=
  sat_of_bind (Out.sat_mono h (fun s δ1 ⟨c, h1, h2⟩ => by rw [h1]; exact h2) fun _ _ z => z)
/-! statements -/
theorem s_next (h : Φ.nx δ) : (aNext δ).sat Φ := h
theorem s_seq (h : (p δ).sat { Φ with nx := fun δ1 => (q δ1).sat Φ }) : (aSeq p q δ).sat Φ := by
  unfold aSeq
  cases hq : p δ <;> rw [hq] at h <;> exact h
theorem s_asg {g : AG} (h : (e δ).sat (fun s δ1 => ∃ δ2, g s δ1 = some δ2 ∧ Φ.nx δ2) Φ.ex) : (aAsg e g δ).sat Φ := by
  unfold aAsg
  cases hq : e δ with
  | ok s δ1 => rw [hq] at h; obtain ⟨δ2, h1, h2⟩ := h; dsimp only; rw [h1]; exact h2
  | ex x δ1 => rw [hq] at h; exact h
  | bad => rw [hq] at h; exact h
theorem s_set {i : Nat} (h : (e δ).sat (fun s δ1 => Φ.nx ⟨δ1.sl.set i s, δ1.ce⟩) Φ.ex) : (aAsg e (gNm i) δ).sat Φ := s_asg (Out.sat_mono h (fun s δ1 h => ⟨_, rfl, h⟩) fun _ _ z => z)
theorem s_ret (h : (e δ).sat Φ.rt Φ.ex) : (aRet e δ).sat Φ := by
  unfold aRet
  cases hq : e δ <;> rw [hq] at h <;> exact h
theorem s_retN (h : Φ.rt (.im .non) δ) : (aRetN δ).sat Φ := h
theorem s_expr (h : (e δ).sat (fun _ δ1 => Φ.nx δ1) Φ.ex) : (aExpr e δ).sat Φ := by
  unfold aExpr
  cases hq : e δ <;> rw [hq] at h <;> exact h
theorem s_ifS (h : (t δ).sat (fun c δ1 => (c = true → (p δ1).sat Φ) ∧ (c = false → (q δ1).sat Φ)) Φ.ex) : (aIfS t p q δ).sat Φ := by
  unfold aIfS
  cases hq : t δ with
  | ok c δ1 => rw [hq] at h; cases c with
    | false => exact h.2 rfl
    | true => exact h.1 rfl
  | ex x δ1 => rw [hq] at h; exact h
  | bad => rw [hq] at h; exact h
theorem s_par {i j : Nat} (h : (r δ).sat (fun ss δ1 => ∃ s t, ss = [s, t] ∧ Φ.nx ⟨(δ1.sl.set i s).set j t, δ1.ce⟩) Φ.ex) : (aPar i j r δ).sat Φ := by
  unfold aPar
  cases hq : r δ with
  | ok ss δ1 => rw [hq] at h; obtain ⟨s, t, rfl, h⟩ := h; exact h
  | ex x δ1 => rw [hq] at h; exact h
  | bad => rw [hq] at h; exact h
theorem s_dput {d k v : AE} (h : (v δ).sat (fun s δ1 => (d δ1).sat (fun z δ2 => ∃ c, z = .cl c ∧ (k δ2).sat (fun y δ3 => ∃ kvs kd kk, δ3.ce[c]? = some (.dic kvs) ∧ dv δ3.ce y = some kd ∧ keyOf kd = some kk ∧ kvs.length < 1000 ∧ Φ.nx ⟨δ3.sl, δ3.ce.set c (.dic (putS kvs kk s))⟩) Φ.ex) Φ.ex) Φ.ex) : (aDput d k v δ).sat Φ := by
  unfold aDput
  cases h1 : v δ with
  | bad => rw [h1] at h; exact h
  | ex x δ1 => rw [h1] at h; exact h
  | ok s δ1 =>
    rw [h1] at h; dsimp only
    have h : (d δ1).sat _ _ := h
    cases h2 : d δ1 with
    | bad => rw [h2] at h; exact h
    | ex x δ1 => rw [h2] at h; exact h
    | ok z δ2 =>
      rw [h2] at h
      obtain ⟨c, rfl, h⟩ := h
      dsimp only
      cases h3 : k δ2 with
      | bad => rw [h3] at h; exact h
      | ex x δ1 => rw [h3] at h; exact h
      | ok y δ3 =>
        rw [h3] at h
        obtain ⟨kvs, kd, kk, e1, e2, e3, e4, h⟩ := h
        dsimp only
        rw [e1, e2]
        dsimp only
        rw [e3]
        dsimp only
        rw [if_pos e4]
        exact h
theorem s_pairs0 {Ψp : List (Key × SV) → Sta → Prop} (h : Ψp [] δ) : (pairsA [] δ).sat Ψp Ξ := h
theorem s_pairs {Ψp : List (Key × SV) → Sta → Prop} {k v : AE} {l : List (AE × AE)} (h : (k δ).sat (fun s δ1 => (v δ1).sat (fun t δ2 => (pairsA l δ2).sat (fun ps δ3 => ∃ kd kk, imS δ3.ce s = some kd ∧ keyOf kd = some kk ∧ Ψp ((kk, t) :: ps) δ3) Ξ) Ξ) Ξ) : (pairsA ((k, v) :: l) δ).sat Ψp Ξ :=
  sat_of_bind (Out.sat_mono h (fun s δ1 h1 => sat_of_bind (Out.sat_mono h1 (fun t δ2 h2 => sat_of_bind (Out.sat_mono h2 (fun ps δ3 ⟨kd, kk, e1, e2, h3⟩ => by rw [e1]; dsimp only; rw [e2]; exact h3) fun _ _ z => z)) fun _ _ z => z)) fun _ _ z => z)
theorem s_disp {l : List (AE × AE)} (h : (pairsA l ⟨δ.sl, δ.ce ++ [.dic []]⟩).sat (fun kvs δ1 => δ1.ce[δ.ce.length]? = some (.dic []) ∧ kvs.length ≤ 15 ∧ Ψ (.cl δ.ce.length) ⟨δ1.sl, δ1.ce.set δ.ce.length (.dic (mergeS [] kvs))⟩) Ξ) : (aDisp l δ).sat Ψ Ξ :=
  sat_of_bind (Out.sat_mono h (fun kvs δ1 ⟨e1, e2, h1⟩ => by rw [e1]; dsimp only; rw [if_pos e2]; exact h1) fun _ _ z => z)
theorem s_rg1 {Ψi : List D → Sta → Prop} (h : (r δ).sat (fun ss δ1 => ∃ s n, ss = [s] ∧ dv δ1.ce s = some (.int n) ∧ (-1000000000 ≤ n ∧ n ≤ 1000000000) ∧ Ψi (rgD 0 n.toNat) δ1) Ξ) : (aRg1 r δ).sat Ψi Ξ :=
  sat_of_bind (Out.sat_mono h (fun ss δ1 ⟨s, n, e0, e1, e2, h1⟩ => by subst e0; dsimp only; rw [e1]; dsimp only; rw [if_pos e2]; exact h1) fun _ _ z => z)
theorem s_rg2 {Ψi : List D → Sta → Prop} (h : (r δ).sat (fun ss δ1 => ∃ s t n m, ss = [s, t] ∧ dv δ1.ce s = some (.int n) ∧ dv δ1.ce t = some (.int m) ∧ ((-1000000000 ≤ n ∧ n ≤ 1000000000) ∧ (-1000000000 ≤ m ∧ m ≤ 1000000000)) ∧ Ψi (rgD n (m - n).toNat) δ1) Ξ) : (aRg2 r δ).sat Ψi Ξ :=
  sat_of_bind (Out.sat_mono h (fun ss δ1 ⟨s, t, n, m, e0, e1, e2, e3, h1⟩ => by subst e0; dsimp only; rw [e1, e2]; dsimp only; rw [if_pos e3]; exact h1) fun _ _ z => z)
theorem s_it {Ψi : List D → Sta → Prop} (h : (a δ).sat (fun s δ1 => ∃ d ds, s = .im d ∧ itD d = some ds ∧ Ψi ds δ1) Ξ) : (aIt a δ).sat Ψi Ξ :=
  sat_of_bind (Out.sat_mono h (fun s δ1 ⟨d, ds, e0, e1, h1⟩ => by subst e0; dsimp only; rw [e1]; exact h1) fun _ _ z => z)
/-! loops -/
theorem s_forL {g : AG} {p : AS} {Φ : Post} (J : Sta → Prop) : ∀ (ds : List D) (δ : Sta), J δ → (∀ d ∈ ds, ∀ δ, J δ → ∃ δ', g (.im d) δ = some δ' ∧ (p δ').sat { Φ with nx := J, ct := J, bk := Φ.nx }) → (∀ δ, J δ → Φ.nx δ) → (forL g p ds δ).sat Φ
  | [], δ, h0, _, h2 => h2 δ h0
  | d :: ds, δ, h0, h1, h2 => by
    obtain ⟨δ', e, h⟩ := h1 d List.mem_cons_self δ h0
    unfold forL
    rw [e]
    dsimp only
    have go : ∀ δ2, J δ2 → (forL g p ds δ2).sat Φ := fun δ2 h => s_forL J ds δ2 h (fun d hd => h1 d (List.mem_cons_of_mem _ hd)) h2
    cases q : p δ' with
    | nx δ2 => rw [q] at h; exact go δ2 h
    | ct δ2 => rw [q] at h; exact go δ2 h
    | bk δ2 => rw [q] at h; exact h
    | rt s δ2 => rw [q] at h; exact h
    | ex x δ2 => rw [q] at h; exact h
    | bad => rw [q] at h; exact h
theorem s_for {it : AI} {g : AG} (J : Sta → Prop) (h : (it δ).sat (fun ds δ1 => J δ1 ∧ ∀ d ∈ ds, ∀ δ, J δ → ∃ δ', g (.im d) δ = some δ' ∧ (p δ').sat { Φ with nx := J, ct := J, bk := Φ.nx }) Φ.ex) (h2 : ∀ δ, J δ → Φ.nx δ) : (aFor it g p δ).sat Φ := by
  unfold aFor
  cases q : it δ with
  | ok ds δ1 => rw [q] at h; exact s_forL J ds δ1 h.1 h.2 h2
  | ex x δ1 => rw [q] at h; exact h
  | bad => rw [q] at h; exact h
theorem s_forLC {g : AG} {p : AS} {Φ : Post} {ce0 : List CO} (J : Sta → Prop) : ∀ (ds : List D) (δ : Sta), J δ → (∀ d ∈ ds, ∀ δ, J δ → ∃ δ', g (.im d) δ = some δ' ∧ (p δ').sat { Φ with nx := fun δ2 => J (cutTurn ce0 δ2), ct := fun δ2 => J (cutTurn ce0 δ2), bk := Φ.nx }) → (∀ δ, J δ → Φ.nx δ) → (forLC ce0 g p ds δ).sat Φ
  | [], δ, h0, _, h2 => h2 δ h0
  | d :: ds, δ, h0, h1, h2 => by
    obtain ⟨δ', e, h⟩ := h1 d List.mem_cons_self δ h0
    unfold forLC
    rw [e]
    dsimp only
    have go : ∀ δ2, J δ2 → (forLC ce0 g p ds δ2).sat Φ := fun δ2 h => s_forLC J ds δ2 h (fun d hd => h1 d (List.mem_cons_of_mem _ hd)) h2
    cases q : p δ' with
    | nx δ2 => rw [q] at h; exact go _ h
    | ct δ2 => rw [q] at h; exact go _ h
    | bk δ2 => rw [q] at h; exact h
    | rt s δ2 => rw [q] at h; exact h
    | ex x δ2 => rw [q] at h; exact h
    | bad => rw [q] at h; exact h
theorem s_forC {it : AI} {g : AG} (J : Sta → Prop) (h : (it δ).sat (fun ds δ1 => J δ1 ∧ ∀ d ∈ ds, ∀ δ, J δ → ∃ δ', g (.im d) δ = some δ' ∧ (p δ').sat { Φ with nx := fun δ2 => J (cutTurn δ1.ce δ2), ct := fun δ2 => J (cutTurn δ1.ce δ2), bk := Φ.nx }) Φ.ex) (h2 : ∀ δ, J δ → Φ.nx δ) : (aForC it g p δ).sat Φ := by
  unfold aForC
  cases q : it δ with
  | ok ds δ1 => rw [q] at h; exact s_forLC J ds δ1 h.1 h.2 h2
  | ex x δ1 => rw [q] at h; exact h
  | bad => rw [q] at h; exact h
theorem s_lcL {g : AG} {t : AT} {e : AE} {sl : List SV} (J : List D → List CO → Prop) : ∀ (ds : List D) (acc : List D) (ce : List CO), J acc ce → (∀ d ∈ ds, ∀ acc ce, J acc ce → ∃ δ1, g (.im d) ⟨sl, ce⟩ = some δ1 ∧ (t δ1).sat (fun b δ2 => (b = true → (e δ2).sat (fun s δ3 => ∃ y ce3, toIm δ3.ce s = some (y, ce3) ∧ J (acc ++ [y]) (cutOr ce ce3)) fun _ _ => False) ∧ (b = false → J acc (cutOr ce δ2.ce))) fun _ _ => False) → ∃ acc' ce', lcL g t e sl ds acc ce = some (acc', ce') ∧ J acc' ce'
  | [], acc, ce, h0, _ => ⟨acc, ce, rfl, h0⟩
  | d :: ds, acc, ce, h0, h1 => by
    obtain ⟨δ1, e1, h⟩ := h1 d List.mem_cons_self acc ce h0
    have go : ∀ acc ce, J acc ce → ∃ acc' ce', lcL g t e sl ds acc ce = some (acc', ce') ∧ J acc' ce' := fun acc ce h => s_lcL J ds acc ce h fun d hd => h1 d (List.mem_cons_of_mem _ hd)
    unfold lcL
    rw [e1]
    dsimp only
    cases q : t δ1 with
    | ok b δ2 =>
      rw [q] at h
      obtain ⟨ht, hf⟩ := h
      cases b with
      | false => exact go _ _ (hf rfl)
      | true =>
        dsimp only
        rw [if_pos rfl]
        have h := ht rfl
        cases q2 : e δ2 with
        | ok s δ3 =>
          rw [q2] at h
          obtain ⟨y, ce3, e3, h⟩ := h
          dsimp only
          rw [e3]
          exact go _ _ h
        | ex x δ3 => rw [q2] at h; exact h.elim
        | bad => rw [q2] at h; exact h.elim
    | ex x δ2 => rw [q] at h; exact h.elim
    | bad => rw [q] at h; exact h.elim
theorem lcL_len {g : AG} {t : AT} {e : AE} {sl : List SV} : ∀ (ds acc : List D) (ce : List CO) (acc' : List D) (ce' : List CO), lcL g t e sl ds acc ce = some (acc', ce') → acc'.length ≤ acc.length + ds.length
  | [], acc, ce, acc', ce', h => by cases h; exact Nat.le_refl _
  | d :: ds, acc, ce, acc', ce', h => by
    unfold lcL at h
    split at h
    · cases h
    · split at h
      · split at h
        · split at h
          · split at h
            · have := lcL_len ds _ _ _ _ h
              simp at this ⊢
              omega
            · cases h
          · cases h
        · have := lcL_len ds _ _ _ _ h
          simp at this ⊢
          omega
      · cases h
theorem s_lc {it : AI} {g : AG} {vs : List Nat} (J : List D → List CO → Prop) (h : (it δ).sat (fun ds δ1 => ds.length ≤ 100000 ∧ J [] δ1.ce ∧ (∀ d ∈ ds, ∀ acc ce, J acc ce → ∃ δ2, g (.im d) ⟨wipeS δ1.sl vs, ce⟩ = some δ2 ∧ (t δ2).sat (fun b δ2 => (b = true → (e δ2).sat (fun s δ3 => ∃ y ce3, toIm δ3.ce s = some (y, ce3) ∧ J (acc ++ [y]) (cutOr ce ce3)) fun _ _ => False) ∧ (b = false → J acc (cutOr ce δ2.ce))) fun _ _ => False) ∧ ∀ acc ce, J acc ce → acc.length ≤ ds.length → Ψ (.im (.lst acc)) ⟨δ1.sl, ce⟩) Ξ) : (aLc it g t e vs δ).sat Ψ Ξ :=
  sat_of_bind (Out.sat_mono h (fun ds δ1 ⟨h0, h1, h2, h3⟩ => by
    rw [if_pos h0]
    obtain ⟨acc, ce, e1, hJ⟩ := s_lcL J ds [] δ1.ce h1 h2
    have hl := lcL_len _ _ _ _ _ e1
    rw [e1]
    exact h3 acc ce hJ (by simpa using hl)) fun _ _ z => z)
/-! defs -/
variable {ss : List SV} {ce : List CO} {Ψf : SV → List CO → Prop} {Ξf : Xn → List CO → Prop} {n : Nat}
@[reducible] def defP (ce : List CO) (Ψf : SV → List CO → Prop) (Ξf : Xn → List CO → Prop) : Post := ⟨fun δ => (retF ce (.im .non) δ.ce).sat Ψf Ξf, fun s δ => (retF ce s δ.ce).sat Ψf Ξf, fun _ => False, fun _ => False, fun x δ => (exF ce x δ.ce).sat Ψf Ξf⟩
@[reducible] def defPC (ce : List CO) (Ψf : SV → List CO → Prop) (Ξf : Xn → List CO → Prop) : Post := ⟨fun δ => (retF ce (.im .non) δ.ce).sat Ψf Ξf, fun s δ => (retC ce s δ.ce).sat Ψf Ξf, fun _ => False, fun _ => False, fun x δ => (exF ce x δ.ce).sat Ψf Ξf⟩
theorem s_def (h : (p ⟨ss ++ List.replicate (n - ss.length) .no, ce⟩).sat (defP ce Ψf Ξf)) : (aDef n p ss ce).sat Ψf Ξf := by
  unfold aDef
  cases q : p ⟨ss ++ List.replicate (n - ss.length) .no, ce⟩ <;> rw [q] at h <;> exact h
theorem s_defC (h : (p ⟨ss ++ List.replicate (n - ss.length) .no, ce⟩).sat (defPC ce Ψf Ξf)) : (aDefC n p ss ce).sat Ψf Ξf := by
  unfold aDefC
  cases q : p ⟨ss ++ List.replicate (n - ss.length) .no, ce⟩ <;> rw [q] at h <;> exact h
theorem s_retF {d : D} {ce' ce2 : List CO} (hc : cutTo ce ce' = some ce2) (h : Ψf (.im d) ce2) : (retF ce (.im d) ce').sat Ψf Ξf := by
  unfold retF
  dsimp only
  rw [hc]
  exact h
theorem cutTo_same {ce ce' : List CO} (h : ce'.length ≤ ce.length) : cutTo ce ce' = some ce' := if_pos h
/-- data: one cell changed, some new ones -/
theorem cutTo_box {b b' : CO} {rest m : List CO} (hb : ∀ k, b'.bnd k = true) : cutTo (b :: rest) (b' :: (rest ++ m)) = some (b' :: rest) := by
  unfold cutTo
  split
  · rename_i h
    have : m = [] := by
      cases m with
      | nil => rfl
      | cons _ _ => simp at h; omega
    subst this
    simp
  · rw [if_pos ?_]
    · simp
    · show okAll _ _ _ = true
      simp only [okAll, hb, Bool.or_true, Bool.true_and]
      exact okAll_app _ _ _ _ (okAll_self _ _)
theorem s_make {x : Str} {F : Fn} {dds : List D} (h : (r δ).sat (fun ss δ1 => (SV.cl δ1.ce.length :: (ss ++ dds.map SV.im)).length = n ∧ ∃ ce, F (.cl δ1.ce.length :: (ss ++ dds.map SV.im)) (δ1.ce ++ [.ins x []]) = .ok (.im .non) ce ∧ ∃ d ce1 ce2, frz ce δ1.ce.length = some (d, ce1) ∧ cutTo δ1.ce ce1 = some ce2 ∧ Ψ (.im d) ⟨δ1.sl, ce2⟩) Ξ) : (aMake x n F dds r δ).sat Ψ Ξ :=
  sat_of_bind (Out.sat_mono h (fun ss δ1 ⟨h0, ce, e1, d, ce1, ce2, e2, e3, h1⟩ => by rw [if_pos h0, e1]; dsimp only; rw [e2]; dsimp only; rw [e3]; exact h1) fun _ _ z => z)
theorem eq_of_sat {S α : Type} {o : Out S α} {v : α} {P : S → Prop} (h : o.sat (fun s c => s = v ∧ P c) fun _ _ => False) : ∃ c, o = .ok v c ∧ P c := by
  cases o with
  | ok s c => obtain ⟨rfl, hp⟩ := h; exact ⟨c, rfl, hp⟩
  | ex x c => exact h.elim
  | bad => exact h.elim
theorem sat_of_eq {S α : Type} {o : Out S α} {v : α} {c : S} {Ψ : α → S → Prop} {Ξ : Xn → S → Prop} (e : o = .ok v c) (h : Ψ v c) : o.sat Ψ Ξ := by rw [e]; exact h
end
end Fx

set_option Elab.async false
set_option linter.all false
set_option autoImplicit false
set_option maxRecDepth 100000
set_option maxHeartbeats 2000000
namespace Fx
open PySem L2
section
variable {δ : Sta} {Ψ : SV → Sta → Prop} {Ξ : Xn → Sta → Prop}
def notFz (ce : List CO) (c : Nat) : Bool := match ce[c]? with
  | some (.fz _) => false
  | _ => true
theorem s_varB {i c : Nat} (hs : δ.sl[i]? = some (.cl c)) (hn : notFz δ.ce c = true) (h : Ψ (.cl c) δ) : (aVar i δ).sat Ψ Ξ := by
  refine s_varC hs ?_ h
  unfold notFz at hn
  unfold nrm
  split at hn
  · cases hn
  · rename_i h2
    dsimp only
    split
    · rename_i d e; exact absurd e (h2 d)
    · rfl
theorem s_varF {i c : Nat} {d : D} (hs : δ.sl[i]? = some (.cl c)) (hn : δ.ce[c]? = some (.fz d)) (h : Ψ (.im d) δ) : (aVar i δ).sat Ψ Ξ := by
  refine s_varC hs ?_ h
  unfold nrm
  dsimp only
  rw [hn]
/-! ints -/
theorem s_addI {i j : Int} (h : Ψ (.im (.int (i + j))) δ) : (addA (.im (.int i)) (.im (.int j)) δ).sat Ψ Ξ := h
theorem s_addS {i j : Str} (hl : i.length + j.length ≤ 1000000) (h : Ψ (.im (.str (i ++ j))) δ) : (addA (.im (.str i)) (.im (.str j)) δ).sat Ψ Ξ := by
  have e : addA (.im (.str i)) (.im (.str j)) δ = dOp addD (.im (.str i)) (.im (.str j)) δ := by unfold addA; simp only [imS]
  rw [e]
  exact s_dop (x := .str i) (y := .str j) rfl rfl (if_pos hl) h
theorem s_addL {i j : List D} (hl : i.length + j.length ≤ 1000000) (h : Ψ (.im (.lst (i ++ j))) δ) : (addA (.im (.lst i)) (.im (.lst j)) δ).sat Ψ Ξ := by
  have e : addA (.im (.lst i)) (.im (.lst j)) δ = dOp addD (.im (.lst i)) (.im (.lst j)) δ := by unfold addA; simp only [imS]
  rw [e]
  exact s_dop (x := .lst i) (y := .lst j) rfl rfl (if_pos hl) h
theorem s_addT {i j : List D} (hl : i.length + j.length ≤ 1000000) (h : Ψ (.im (.tup (i ++ j))) δ) : (addA (.im (.tup i)) (.im (.tup j)) δ).sat Ψ Ξ := by
  unfold addA
  simp only [imS, hl, if_true]
  exact h
theorem s_subI {i j : Int} (h : Ψ (.im (.int (i - j))) δ) : (dOp subD (.im (.int i)) (.im (.int j)) δ).sat Ψ Ξ := h
theorem s_mulI {i j : Int} (hc : (-18446744073709551616 < i ∧ i < 18446744073709551616) ∨ (-18446744073709551616 < j ∧ j < 18446744073709551616)) (h : Ψ (.im (.int (i * j))) δ) : (dOp mulD (.im (.int i)) (.im (.int j)) δ).sat Ψ Ξ :=
  s_dop (x := .int i) (y := .int j) rfl rfl (if_pos hc) h
theorem s_mulS {a : Str} {n : Int} (hc : a.length ≤ 1000 ∧ -1000 ≤ n ∧ n ≤ 1000) (h : Ψ (.im (.str (Txt.mul a n))) δ) : (dOp mulD (.im (.str a)) (.im (.int n)) δ).sat Ψ Ξ :=
  s_dop (x := .str a) (y := .int n) rfl rfl (if_pos hc) h
theorem s_fdivI {i j : Int} (hc : 0 < j ∧ j < 1073741824) (h : Ψ (.im (.int (i / j))) δ) : (dOp fdivD (.im (.int i)) (.im (.int j)) δ).sat Ψ Ξ :=
  s_dop (x := .int i) (y := .int j) rfl rfl (if_pos hc) h
theorem s_modI {i j : Int} (hc : 0 < j) (h : Ψ (.im (.int (i % j))) δ) : (dOp modD (.im (.int i)) (.im (.int j)) δ).sat Ψ Ξ :=
  s_dop (x := .int i) (y := .int j) rfl rfl (if_pos hc) h
theorem s_powI {i j : Int} (hc : 0 ≤ j ∧ j ≤ 1000000 ∧ i.natAbs < 18446744073709551616) (h : Ψ (.im (.int (i ^ j.toNat))) δ) : (dOp powD (.im (.int i)) (.im (.int j)) δ).sat Ψ Ξ :=
  s_dop (x := .int i) (y := .int j) rfl rfl (if_pos hc) h
theorem s_ltI {i j : Int} (h : Ψ (.im (.bl (decide (i < j)))) δ) : (dOp ltD (.im (.int i)) (.im (.int j)) δ).sat Ψ Ξ := h
theorem s_leI {i j : Int} (h : Ψ (.im (.bl (decide (i ≤ j)))) δ) : (dOp leD (.im (.int i)) (.im (.int j)) δ).sat Ψ Ξ := h
theorem s_gtI {i j : Int} (h : Ψ (.im (.bl (decide (j < i)))) δ) : (dOp gtD (.im (.int i)) (.im (.int j)) δ).sat Ψ Ξ := h
theorem s_geI {i j : Int} (h : Ψ (.im (.bl (decide (j ≤ i)))) δ) : (dOp geD (.im (.int i)) (.im (.int j)) δ).sat Ψ Ξ := h
theorem s_ltS {i j : Str} (h : Ψ (.im (.bl (decide (i.cps.toList < j.cps.toList)))) δ) : (dOp ltD (.im (.str i)) (.im (.str j)) δ).sat Ψ Ξ := h
theorem s_eqI {i j : Int} (h : Ψ (.im (.bl (decide (i = j)))) δ) : (dOp eqD (.im (.int i)) (.im (.int j)) δ).sat Ψ Ξ := s_dop (x := .int i) (y := .int j) rfl rfl rfl h
theorem s_eqS {i j : Str} (h : Ψ (.im (.bl (decide (i = j)))) δ) : (dOp eqD (.im (.str i)) (.im (.str j)) δ).sat Ψ Ξ := s_dop (x := .str i) (y := .str j) rfl rfl rfl h
theorem s_neI {i j : Int} (h : Ψ (.im (.bl (!decide (i = j)))) δ) : (dOp neD (.im (.int i)) (.im (.int j)) δ).sat Ψ Ξ := s_dop (x := .int i) (y := .int j) rfl rfl rfl h
theorem s_neS {i j : Str} (h : Ψ (.im (.bl (!decide (i = j)))) δ) : (dOp neD (.im (.str i)) (.im (.str j)) δ).sat Ψ Ξ := s_dop (x := .str i) (y := .str j) rfl rfl rfl h
theorem s_eqB' {i j : Bool} (h : Ψ (.im (.bl (i == j))) δ) : (dOp eqD (.im (.bl i)) (.im (.bl j)) δ).sat Ψ Ξ := s_dop (x := .bl i) (y := .bl j) rfl rfl rfl h
theorem s_neB {i j : Bool} (h : Ψ (.im (.bl (!(i == j)))) δ) : (dOp neD (.im (.bl i)) (.im (.bl j)) δ).sat Ψ Ξ := s_dop (x := .bl i) (y := .bl j) rfl rfl rfl h
theorem s_isN {d : D} (h : Ψ (.im (.bl (isNon d))) δ) : (dOp isD (.im d) (.im .non) δ).sat Ψ Ξ := s_dop (x := d) (y := .non) rfl rfl (by cases d <;> rfl) h
theorem s_isnotN {d : D} (h : Ψ (.im (.bl (!isNon d))) δ) : (dOp isnotD (.im d) (.im .non) δ).sat Ψ Ξ := s_dop (x := d) (y := .non) rfl rfl (by cases d <;> rfl) h
theorem s_isB {a b : Bool} (h : Ψ (.im (.bl (decide (a = b)))) δ) : (dOp isD (.im (.bl a)) (.im (.bl b)) δ).sat Ψ Ξ := s_dop (x := .bl a) (y := .bl b) rfl rfl rfl h
theorem s_isnotB {a b : Bool} (h : Ψ (.im (.bl (!decide (a = b)))) δ) : (dOp isnotD (.im (.bl a)) (.im (.bl b)) δ).sat Ψ Ξ := s_dop (x := .bl a) (y := .bl b) rfl rfl rfl h
theorem s_absI {i : Int} (h : Ψ (.im (.int (if i < 0 then -i else i))) δ) : (dCB1 absD [.im (.int i)] δ).sat Ψ Ξ := h
theorem s_intI {i : Int} (h : Ψ (.im (.int i)) δ) : (dCB1 intD [.im (.int i)] δ).sat Ψ Ξ := h
theorem s_intB {b : Bool} (h : Ψ (.im (.int (if b then 1 else 0))) δ) : (dCB1 intD [.im (.bl b)] δ).sat Ψ Ξ := h
theorem s_lenL {l : List D} (h : Ψ (.im (.int l.length)) δ) : (dCB1 lenD [.im (.lst l)] δ).sat Ψ Ξ := h
theorem s_lenT {l : List D} (h : Ψ (.im (.int l.length)) δ) : (dCB1 lenD [.im (.tup l)] δ).sat Ψ Ξ := h
theorem s_lenR {l : List Int} (h : Ψ (.im (.int l.length)) δ) : (dCB1 lenD [.im (.scr l)] δ).sat Ψ Ξ := h
theorem s_lenS {z : Str} (hz : z.length ≤ 1000000) (h : Ψ (.im (.int z.length)) δ) : (dCB1 lenD [.im (.str z)] δ).sat Ψ Ξ := s_cb1 (x := .str z) rfl (if_pos hz) h
/-! at a place -/
theorem s_ixC {tabs : Tabs} {c : Nat} {us : List SV} {i : Int} {d : D} (hc : δ.ce[c]? = some (.lst us)) (hi : atI us i = some (.im d)) (h : Ψ (.im d) δ) : (ixA tabs (.cl c) (.im (.int i)) δ).sat Ψ Ξ := by
  unfold ixA
  simp only [dv]
  rw [hc]
  dsimp only
  rw [hi]
  exact h
theorem s_ixL {tabs : Tabs} {ds : List D} {i : Int} {d : D} (hi : atI ds i = some d) (h : Ψ (.im d) δ) : (ixA tabs (.im (.lst ds)) (.im (.int i)) δ).sat Ψ Ξ := by
  unfold ixA
  simp only [dv, ixD]
  rw [hi]
  exact h
theorem s_ixT {tabs : Tabs} {ds : List D} {i : Int} {d : D} (hi : atI ds i = some d) (h : Ψ (.im d) δ) : (ixA tabs (.im (.tup ds)) (.im (.int i)) δ).sat Ψ Ξ := by
  unfold ixA
  simp only [dv, ixD]
  rw [hi]
  exact h
theorem s_ixR {tabs : Tabs} {ds : List Int} {i d : Int} (hi : atI ds i = some d) (h : Ψ (.im (.int d)) δ) : (ixA tabs (.im (.scr ds)) (.im (.int i)) δ).sat Ψ Ξ := by
  unfold ixA
  simp only [dv, ixD]
  rw [hi]
  exact h
theorem s_ixS {tabs : Tabs} {z : Str} {i : Int} {c : Nat} (hz : z.length ≤ 1000000) (hi : atI z.cps.toList i = some c) (h : Ψ (.im (.str ⟨#[c]⟩)) δ) : (ixA tabs (.im (.str z)) (.im (.int i)) δ).sat Ψ Ξ := by
  unfold ixA
  simp only [dv, ixD, hz, if_true]
  rw [hi]
  exact h
theorem s_ixD {tabs : Tabs} {kvs : List (Key × D)} {y d : D} {k : Key} (hk : keyOf y = some k) (hi : lookD kvs k = some d) (h : Ψ (.im d) δ) : (ixA tabs (.im (.dic kvs)) (.im y) δ).sat Ψ Ξ := by
  unfold ixA
  simp only [dv, ixD]
  rw [hk]
  dsimp only
  rw [hi]
  exact h
theorem s_ixG {tabs : Tabs} {x z : Str} {d : D} (hi : tabAt tabs x z = some d) (h : Ψ (.im d) δ) : (ixA tabs (.im (.glo x)) (.im (.str z)) δ).sat Ψ Ξ := by
  unfold ixA
  simp only [dv]
  rw [hi]
  exact h
theorem atI_get {α : Type} {l : List α} {i : Int} (h0 : 0 ≤ i) (h1 : i < l.length) : ∃ x, atI l i = some x ∧ x ∈ l := by
  unfold atI ixN
  rw [if_pos h0, if_pos h1]
  have h2 : i.toNat < l.length := by omega
  exact ⟨l[i.toNat], by simp [h2], List.getElem_mem h2⟩
theorem s_asgIx {e : AE} {i : Nat} {k : Int} {Φ : Post} (h : (e δ).sat (fun s δ1 => ∃ c us j, δ1.sl[i]? = some (.cl c) ∧ δ1.ce[c]? = some (.lst us) ∧ ixN us.length k = some j ∧ Φ.nx ⟨δ1.sl, δ1.ce.set c (.lst (us.set j s))⟩) Φ.ex) : (aAsg e (gIx (aVar i) (aC (.int k))) δ).sat Φ :=
  s_asg (Out.sat_mono h (fun s δ1 ⟨c, us, j, e1, e2, e3, h1⟩ => by
    refine ⟨_, ?_, h1⟩
    unfold gIx aVar
    rw [e1]
    dsimp only [aC]
    have e4 : nrm δ1.ce (.cl c) = .cl c := by
      unfold nrm
      dsimp only
      rw [e2]
    rw [e4]
    dsimp only
    rw [e2]
    dsimp only [dv]
    rw [e3]) fun _ _ z => z)
theorem s_intB2 {b : Bool} (h : (b = true → Ψ (.im (.int 1)) δ) ∧ (b = false → Ψ (.im (.int 0)) δ)) : (dCB1 intD [.im (.bl b)] δ).sat Ψ Ξ := by
  cases b with
  | true => exact h.1 rfl
  | false => exact h.2 rfl
theorem s_ixR2 {tabs : Tabs} {ds : List Int} {i : Int} (h0 : 0 ≤ i) (h1 : i < ds.length) (h : ∀ d : Int, Ψ (.im (.int d)) δ) : (ixA tabs (.im (.scr ds)) (.im (.int i)) δ).sat Ψ Ξ := by
  obtain ⟨x, hx, _⟩ := atI_get h0 h1
  exact s_ixR hx (h x)
/-- out of a list by a known place -/
theorem s_ixL2 {tabs : Tabs} {ds : List D} {i : Int} (h0 : 0 ≤ i) (h1 : i < ds.length) (h : ∀ d ∈ ds, Ψ (.im d) δ) : (ixA tabs (.im (.lst ds)) (.im (.int i)) δ).sat Ψ Ξ := by
  obtain ⟨x, hx, hm⟩ := atI_get h0 h1
  exact s_ixL hx (h x hm)
theorem s_retFz {ce ce' ce1 ce2 : List CO} {c : Nat} {d : D} {Ψf : SV → List CO → Prop} {Ξf : Xn → List CO → Prop} (hc : ¬ c < ce.length) (hf : frz ce' c = some (d, ce1)) (h2 : cutTo ce ce1 = some ce2) (h : Ψf (.im d) ce2) : (retF ce (.cl c) ce').sat Ψf Ξf := by
  unfold retF
  dsimp only
  rw [if_neg hc, hf]
  dsimp only
  rw [h2]
  exact h
theorem s_retC {ce ce' : List CO} {c : Nat} {o : CO} {Ψf : SV → List CO → Prop} {Ξf : Xn → List CO → Prop} (hc : ce.length ≤ c) (hf : ce'[c]? = some o) (hb : o.bnd ce.length = true) (hk : okAll ce.length ce ce' = true) (h : Ψf (.cl ce.length) (ce'.take ce.length ++ [o])) : (retC ce (.cl c) ce').sat Ψf Ξf := by
  unfold retC
  dsimp only
  rw [if_pos hc, hf]
  dsimp only
  rw [if_pos ⟨hb, hk⟩]
  exact h
theorem s_make2 {x : Str} {n : Nat} {r : AA} {F : Fn} {dds : List D} (h : (r δ).sat (fun ss δ1 => (SV.cl δ1.ce.length :: (ss ++ dds.map SV.im)).length = n ∧ (F (.cl δ1.ce.length :: (ss ++ dds.map SV.im)) (δ1.ce ++ [.ins x []])).sat (fun s ce => s = .im .non ∧ ∃ d ce1 ce2, frz ce δ1.ce.length = some (d, ce1) ∧ cutTo δ1.ce ce1 = some ce2 ∧ Ψ (.im d) ⟨δ1.sl, ce2⟩) fun _ _ => False) Ξ) : (aMake x n F dds r δ).sat Ψ Ξ :=
  s_make (Out.sat_mono h (fun ss δ1 ⟨h0, h1⟩ => by
    obtain ⟨c, e, d, ce1, ce2, e1, e2, h2⟩ := eq_of_sat h1
    exact ⟨h0, c, e, d, ce1, ce2, e1, e2, h2⟩) fun _ _ z => z)
theorem s_forU {it : AI} {g : AG} {p : AS} {Φ : Post} (h : (it δ).sat (fun ds δ1 => (forL g p ds δ1).sat Φ) Φ.ex) : (aFor it g p δ).sat Φ := by
  unfold aFor
  cases q : it δ <;> rw [q] at h <;> exact h
theorem s_forL0 {g : AG} {p : AS} {Φ : Post} (h : Φ.nx δ) : (forL g p [] δ).sat Φ := h
theorem s_forL1 {g : AG} {p : AS} {Φ : Post} {d : D} {ds : List D} (h : ∃ δ', g (.im d) δ = some δ' ∧ (p δ').sat { Φ with nx := fun δ2 => (forL g p ds δ2).sat Φ, ct := fun δ2 => (forL g p ds δ2).sat Φ, bk := Φ.nx }) : (forL g p (d :: ds) δ).sat Φ := by
  obtain ⟨δ', e, h⟩ := h
  unfold forL
  rw [e]
  dsimp only
  cases q : p δ' <;> rw [q] at h <;> exact h
theorem s_items {a : AE} {Ψi : List D → Sta → Prop} (h : (a δ).sat (fun s δ1 => ∃ c kvs kds, s = .cl c ∧ δ1.ce[c]? = some (.dic kvs) ∧ imK δ1.ce kvs = some kds ∧ Ψi (pairsD kds) ⟨δ1.sl, δ1.ce.set c (.fz (.dic kds))⟩) Ξ) : (aItems a δ).sat Ψi Ξ :=
  sat_of_bind (Out.sat_mono h (fun s δ1 ⟨c, kvs, kds, e0, e1, e2, h1⟩ => by subst e0; dsimp only; rw [e1]; dsimp only; rw [e2]; exact h1) fun _ _ z => z)
theorem s_inT {x : D} {xs : List D} (hf : flatD x = true ∧ xs.all flatD = true) (h : Ψ (.im (.bl (inF x xs))) δ) : (dOp inD (.im x) (.im (.tup xs)) δ).sat Ψ Ξ :=
  s_dop (x := x) (y := .tup xs) rfl rfl (by unfold inD inB; dsimp only; rw [if_pos hf]; rfl) h
theorem s_inL {x : D} {xs : List D} (hf : flatD x = true ∧ xs.all flatD = true) (h : Ψ (.im (.bl (inF x xs))) δ) : (dOp inD (.im x) (.im (.lst xs)) δ).sat Ψ Ξ :=
  s_dop (x := x) (y := .lst xs) rfl rfl (by unfold inD inB; dsimp only; rw [if_pos hf]; rfl) h
theorem s_dispS {d : AE} {l : List (AE × AE)} (h : (d ⟨δ.sl, δ.ce ++ [.dic []]⟩).sat (fun s δ1 => ∃ kds, dv δ1.ce s = some (.dic kds) ∧ δ1.ce[δ.ce.length]? = some (.dic []) ∧ (kds.length ≤ 1000 ∧ notCl s δ.ce.length = true) ∧
    (pairsA l ⟨δ1.sl, δ1.ce.set δ.ce.length (.dic (mergeS [] (kds.map fun p => (p.1, .im p.2)))) ++ [.dic []]⟩).sat (fun kvs δ2 => ∃ kvs3, δ2.ce[δ.ce.length]? = some (.dic kvs3) ∧ δ2.ce[δ1.ce.length]? = some (.dic []) ∧ (kvs.length ≤ 15 ∧ kvs3 = mergeS [] (kds.map fun p => (p.1, .im p.2))) ∧ Ψ (.cl δ.ce.length) ⟨δ2.sl, (δ2.ce.set δ1.ce.length (.dic (mergeS [] kvs))).set δ.ce.length (.dic (mergeS kvs3 (mergeS [] kvs)))⟩) Ξ) Ξ) : (aDispS d l δ).sat Ψ Ξ :=
  sat_of_bind (Out.sat_mono h (fun s δ1 ⟨kds, e1, e2, e3, h1⟩ => by
    rw [e1, e2]
    dsimp only
    rw [if_pos e3]
    refine sat_of_bind (Out.sat_mono h1 (fun kvs δ2 ⟨kvs3, e4, e5, e6, h2⟩ => ?_) fun _ _ z => z)
    rw [e4, e5]
    dsimp only
    rw [if_pos e6]
    exact h2) fun _ _ z => z)
def fldS (ct : CT) (f : Str) (δ : Sta) : SV → Option SV
  | .im (.ins C fs) => (match fs.lookup f with
    | some d => if ct.has C f = true then some (.im d) else none
    | none => (ct.cn.lookup (C, f)).map .im)
  | .im (.slf C fs) => (match fs.lookup f with
    | some d => if ct.has C f = true then some (.im (selfF (.slf C fs) d)) else none
    | none => (ct.cn.lookup (C, f)).map .im)
  | .cl c => (match δ.ce[c]? with
    | some (.ins C fs) => (match fs.lookup f with
      | some t => if ct.has C f = true then some (nrm δ.ce t) else none
      | none => (ct.cn.lookup (C, f)).map .im)
    | _ => none)
  | _ => none
theorem s_fld2 {ct : CT} {a : AE} {f : Str} (h : (a δ).sat (fun s δ1 => ∃ t, fldS ct f δ1 s = some t ∧ Ψ t δ1) Ξ) : (aFld ct a f δ).sat Ψ Ξ :=
  sat_of_bind (Out.sat_mono h (fun s δ1 ⟨t, h1, h2⟩ => by
    unfold fldS at h1
    split at h1
    · split at h1
      · split at h1
        · cases h1; rename_i e1 e2; first | (rw [if_pos e2]; exact h2) | (dsimp only; rw [e1]; dsimp only; rw [if_pos e2]; exact h2)
        · cases h1
      · rename_i e1
        rw [Option.map_eq_some_iff] at h1; obtain ⟨d, e2, rfl⟩ := h1; first | (rw [e2]; exact h2) | (dsimp only; rw [e1]; dsimp only; rw [e2]; exact h2)
    · split at h1
      · split at h1
        · cases h1; rename_i e1 e2; first | (rw [if_pos e2]; exact h2) | (dsimp only; rw [e1]; dsimp only; rw [if_pos e2]; exact h2)
        · cases h1
      · rename_i e1
        rw [Option.map_eq_some_iff] at h1; obtain ⟨d, e2, rfl⟩ := h1; first | (rw [e2]; exact h2) | (dsimp only; rw [e1]; dsimp only; rw [e2]; exact h2)
    · split at h1
      · rename_i e0
        split at h1
        · split at h1
          · cases h1; rename_i e1 e2; first | (rw [if_pos e2]; exact h2) | (dsimp only; rw [e0]; dsimp only; rw [e1]; dsimp only; rw [if_pos e2]; exact h2)
          · cases h1
        · rename_i e1
          rw [Option.map_eq_some_iff] at h1; obtain ⟨d, e2, rfl⟩ := h1; first | (rw [e2]; exact h2) | (dsimp only; rw [e0]; dsimp only; rw [e1]; dsimp only; rw [e2]; exact h2)
      · cases h1
    · cases h1) fun _ _ z => z)
theorem s_nx {p : AS} {δ δ' : Sta} {Φ : Post} (e : p δ = .nx δ') (h : Φ.nx δ') : (p δ).sat Φ := by rw [e]; exact h
theorem okAll_pre {ce ce' : List CO} (h : ce'.take ce.length = ce) : okAll ce.length ce ce' = true := by
  have : ce' = ce ++ ce'.drop ce.length := by conv => lhs; rw [← List.take_append_drop ce.length ce', h]
  rw [this]
  exact okAll_app _ _ _ _ (okAll_self _ _)
theorem cutTo_pre {ce ce' : List CO} (h : ce'.take ce.length = ce) : cutTo ce ce' = some ce := by
  unfold cutTo
  split
  · rename_i hl
    rw [List.take_of_length_le hl] at h
    rw [h]
  · rw [if_pos (okAll_pre h), h]
/-! yes and no -/
theorem tr_and {c : Bool} {A B : Prop} (h : c = true) (a : A) : (c = true → A) ∧ (c = false → B) := ⟨fun _ => a, fun z => by rw [h] at z; cases z⟩
theorem fl_and {c : Bool} {A B : Prop} (h : c = false) (b : B) : (c = true → A) ∧ (c = false → B) := ⟨fun z => (by rw [h] at z; cases z), fun _ => b⟩
theorem ntr_and {c : Bool} {A B : Prop} (h : c = true) (b : B) : ((!c) = true → A) ∧ ((!c) = false → B) := ⟨fun z => (by rw [h] at z; cases z), fun _ => b⟩
theorem nfl_and {c : Bool} {A B : Prop} (h : c = false) (a : A) : ((!c) = true → A) ∧ ((!c) = false → B) := ⟨fun _ => a, fun z => (by rw [h] at z; cases z)⟩
theorem dec_and {p : Prop} [Decidable p] {A B : Prop} (h1 : p → A) (h2 : ¬ p → B) : (decide p = true → A) ∧ (decide p = false → B) := ⟨fun h => h1 (of_decide_eq_true h), fun h => h2 (of_decide_eq_false h)⟩
theorem dec_andN {p : Prop} [Decidable p] {A B : Prop} (h1 : ¬ p → A) (h2 : p → B) : ((!decide p) = true → A) ∧ ((!decide p) = false → B) := ⟨fun h => h1 (by simpa using h), fun h => h2 (by simpa using h)⟩
end
end Fx

set_option Elab.async false
set_option linter.all false
set_option autoImplicit false
set_option maxRecDepth 100000
set_option maxHeartbeats 2000000
namespace Fx
open PySem L2 PyProof.Rows
/-! ## texts -/
def bareL (l : List Nat) : List Nat := (l.reverse.dropWhile (· == 32)).reverse
def bare (s : Str) : Str := ⟨(bareL s.cps.toList).toArray⟩
/-- letters and blanks -/
def Pc (c : Nat) : Prop := c = 32 ∨ (65 ≤ c ∧ c ≤ 90) ∨ (97 ≤ c ∧ c ≤ 122)
instance (c : Nat) : Decidable (Pc c) := by unfold Pc; infer_instance
theorem Pc.lt {c : Nat} (h : Pc c) : c < 128 := by unfold Pc at h; omega
def Asc (s : Str) : Prop := ∀ c ∈ s.cps.toList, Pc c
theorem bareL_len (l : List Nat) : (bareL l).length ≤ l.length := by
  unfold bareL
  rw [List.length_reverse]
  have := (List.dropWhile_sublist (fun x : Nat => x == 32) (l := l.reverse)).length_le
  simpa using this
theorem bareL_sub {l : List Nat} {c : Nat} (h : c ∈ bareL l) : c ∈ l := by
  unfold bareL at h
  rw [List.mem_reverse] at h
  have := (List.dropWhile_sublist (fun x : Nat => x == 32) (l := l.reverse)).subset h
  simpa using this
theorem bare_len (s : Str) : (bare s).length ≤ s.length := by
  have := bareL_len s.cps.toList
  simpa [bare, Str.length] using this
theorem tw_len (l : List Nat) : (l.takeWhile (· == 32)).length + (l.dropWhile (· == 32)).length = l.length := by
  have := congrArg List.length (List.takeWhile_append_dropWhile (p := fun x : Nat => x == 32) (l := l))
  rw [List.length_append] at this
  exact this
theorem bareL_take (l : List Nat) : bareL l = l.take (l.length - (l.reverse.takeWhile (· == 32)).length) := by
  have h : l = (l.reverse.dropWhile (· == 32)).reverse ++ (l.reverse.takeWhile (· == 32)).reverse := by
    rw [← List.reverse_append, List.takeWhile_append_dropWhile, List.reverse_reverse]
  have e := tw_len l.reverse
  rw [List.length_reverse] at e
  have e2 : l.length - (l.reverse.takeWhile (· == 32)).length = (l.reverse.dropWhile (· == 32)).reverse.length := by rw [List.length_reverse]; omega
  rw [e2]
  conv => rhs; arg 2; rw [h]
  rw [List.take_left]
  rfl
theorem rstrip_bare (s : Str) : Txt.rstripChars s " " = bare s := by
  have hg : (Array.contains (Str.cps " ")) = fun x : Nat => x == 32 := by
    funext x
    show (#[32] : Array Nat).contains x = _
    simp
    rw [Bool.eq_iff_iff]; simp
  unfold Txt.rstripChars Txt.stripBy
  rw [hg]
  have hb := bareL_take s.cps.toList
  have hl : stripLo (fun x : Nat => x == 32) false s = 0 := rfl
  have hh : stripHi (fun x : Nat => x == 32) true s 0 = s.length - (s.cps.toList.reverse.takeWhile (· == 32)).length := by
    unfold stripHi; simp
  split
  · rename_i h
    unfold stripSame at h
    rw [hl, hh] at h
    have h : s.length - (s.cps.toList.reverse.takeWhile (· == 32)).length = s.length := by simpa using h
    unfold bare
    rw [hb]
    have e : s.cps.toList.length = s.length := by simp [Str.length]
    rw [e, h, ← e, List.take_length]
  · unfold stripped
    rw [hl, hh]
    unfold bare Builtin.Str.strSub
    rw [hb]
    congr 1
    apply Array.toList_inj.mp
    simp [Str.length]
/-- text[-1:] and text[:-1] -/
theorem cut_last (l : List Nat) (c : Nat) : L2.cutS ⟨(l ++ [c]).toArray⟩ (some (-1)) none = ⟨#[c]⟩ ∧ L2.cutS ⟨(l ++ [c]).toArray⟩ none (some (-1)) = ⟨l.toArray⟩ := by
  constructor
  · unfold L2.cutS
    have e1 : HT.sIx (Str.length ⟨(l ++ [c]).toArray⟩) 0 (some (-1)) = l.length := by
      simp [HT.sIx, Str.length]; omega
    rw [e1]
    simp [HT.sIx, Str.length]
  · unfold L2.cutS
    have e1 : HT.sIx (Str.length ⟨(l ++ [c]).toArray⟩) (Str.length ⟨(l ++ [c]).toArray⟩) (some (-1)) = l.length := by
      simp [HT.sIx, Str.length]; omega
    rw [e1]
    simp [HT.sIx, Str.length]
/-- while text[-1:] == " ": text = text[:-1] -/
def bareT : AT := aTest (aOp (dOp eqD) (aSl (aVar 0) (aPart (aNeg (aC (.int 1)))) aNoPart) (aC (.str " ")))
def bareB : AS := aAsg (aSl (aVar 0) aNoPart (aPart (aNeg (aC (.int 1))))) (gNm 0)
theorem slD_str {z : Str} {lo hi : Option Int} (h : z.length ≤ 1000000) : slD (.str z) lo hi = some (.str (L2.cutS z lo hi)) := if_pos h
theorem bareT_eq {z : Str} {ce : List CO} (h : z.length ≤ 1000000) : bareT ⟨[.im (.str z)], ce⟩ = .ok (decide (L2.cutS z (some (-1)) none = " ")) ⟨[.im (.str z)], ce⟩ := by
  obtain ⟨c, e, rfl⟩ := eq_of_sat (o := bareT ⟨[.im (.str z)], ce⟩) (v := decide (L2.cutS z (some (-1)) none = " ")) (P := fun c => c = ⟨[.im (.str z)], ce⟩) (by
    refine s_test (s_op (s_sl (s_varI rfl (s_part (s_neg (s_c ⟨_, rfl, ⟨_, rfl, s_nopart ⟨_, _, rfl, slD_str h, fun _ z => (by cases z), ?_⟩⟩⟩))))))
    exact s_c (s_eqS ⟨_, rfl, rfl, rfl⟩))
  exact e
theorem bareB_eq {z : Str} {ce : List CO} (h : z.length ≤ 1000000) : bareB ⟨[.im (.str z)], ce⟩ = .nx ⟨[.im (.str (L2.cutS z none (some (-1))))], ce⟩ := by
  have h2 : (bareB ⟨[.im (.str z)], ce⟩).sat ⟨fun δ => δ = ⟨[.im (.str (L2.cutS z none (some (-1))))], ce⟩, fun _ _ => False, fun _ => False, fun _ => False, fun _ _ => False⟩ := by
    refine s_set (s_sl (s_varI rfl (s_nopart (s_part (s_neg (s_c ⟨_, rfl, ⟨_, rfl, ⟨_, _, rfl, slD_str h, fun _ z => (by cases z), ?_⟩⟩⟩))))))
    rfl
  cases q : bareB ⟨[.im (.str z)], ce⟩ with
  | nx δ => rw [q] at h2; rw [show δ = _ from h2]
  | rt s δ => rw [q] at h2; exact h2.elim
  | bk δ => rw [q] at h2; exact h2.elim
  | ct δ => rw [q] at h2; exact h2.elim
  | ex x δ => rw [q] at h2; exact h2.elim
  | bad => rw [q] at h2; exact h2.elim
theorem str_one {c d : Nat} : ((⟨#[c]⟩ : Str) = ⟨#[d]⟩) ↔ c = d := by
  constructor
  · intro h; cases h; rfl
  · rintro rfl; rfl
theorem bare_while {ce : List CO} : ∀ (n : Nat) (l : List Nat), l.length < n → l.length ≤ 1000000 → whileN bareT bareB n ⟨[.im (.str ⟨l.toArray⟩)], ce⟩ = .nx ⟨[.im (.str ⟨(bareL l).toArray⟩)], ce⟩
  | 0, l, h, _ => absurd h (Nat.not_lt_zero _)
  | n + 1, l, h, hz => by
    unfold whileN
    rw [bareT_eq (by simpa [Str.length] using hz)]
    dsimp only
    rcases List.eq_nil_or_concat l with rfl | ⟨m, c, rfl⟩
    · rw [if_neg (by decide)]
      rfl
    · simp only [List.concat_eq_append] at h hz ⊢
      obtain ⟨e1, e2⟩ := cut_last m c
      rw [e1]
      by_cases hc : c = 32
      · subst hc
        rw [if_pos (by decide)]
        rw [bareB_eq (by simpa [Str.length] using hz), e2]
        dsimp only
        rw [bare_while n m (by simp at h; omega) (by simp at hz; omega)]
        unfold bareL
        simp
      · rw [if_neg (by
          intro z
          have := of_decide_eq_true z
          exact hc (str_one.mp this))]
        unfold bareL
        simp [hc]
theorem s_bare {s : Str} {ce : List CO} {Φ : Post} (hl : s.length ≤ 100) (h : Φ.nx ⟨[.im (.str (bare s))], ce⟩) : (aWhile 1000 (aTest (aOp (dOp eqD) (aSl (aVar 0) (aPart (aNeg (aC (.int 1)))) aNoPart) (aC (.str " ")))) (aAsg (aSl (aVar 0) aNoPart (aPart (aNeg (aC (.int 1))))) (gNm 0)) ⟨[.im (.str s)], ce⟩).sat Φ := by
  have e := bare_while (ce := ce) 1000 s.cps.toList (by simp only [Str.length] at hl; simp; omega) (by simp only [Str.length] at hl; simp; omega)
  exact s_nx e h
/-- a map by a comprehension -/
theorem lc_map {g : AG} {e : AE} {sl : List SV} {ce : List CO} (f : D → D) : ∀ (ds acc : List D), (∀ d ∈ ds, ∃ δ1, g (.im d) ⟨sl, ce⟩ = some δ1 ∧ (e δ1).sat (fun s δ2 => s = .im (f d) ∧ δ2.ce = ce) fun _ _ => False) → lcL g aYes e sl ds acc ce = some (acc ++ ds.map f, ce)
  | [], acc, _ => by simp [lcL]
  | d :: ds, acc, h => by
    obtain ⟨δ1, e1, h2⟩ := h d List.mem_cons_self
    obtain ⟨δ2, e2, e3⟩ := eq_of_sat h2
    unfold lcL
    rw [e1]
    dsimp only [aYes]
    rw [if_pos rfl, e2]
    dsimp only [toIm]
    rw [e3]
    have hc : cutOr ce ce = ce := by unfold cutOr; rw [cutTo_self]
    rw [hc, lc_map f ds (acc ++ [f d]) fun d hd => h d (List.mem_cons_of_mem _ hd)]
    simp
theorem s_lcM {δ : Sta} {Ψ : SV → Sta → Prop} {Ξ : Xn → Sta → Prop} {e : AE} {it : AI} {g : AG} {vs : List Nat} (f : D → D) (h : (it δ).sat (fun ds δ1 => ds.length ≤ 100000 ∧ (∀ d ∈ ds, ∃ δ2, g (.im d) ⟨wipeS δ1.sl vs, δ1.ce⟩ = some δ2 ∧ (e δ2).sat (fun s δ3 => s = .im (f d) ∧ δ3.ce = δ1.ce) fun _ _ => False) ∧ Ψ (.im (.lst (ds.map f))) δ1) Ξ) : (aLc it g aYes e vs δ).sat Ψ Ξ :=
  sat_of_bind (Out.sat_mono h (fun ds δ1 ⟨h0, h1, h2⟩ => by
    rw [if_pos h0, lc_map f ds [] h1]
    exact h2) fun _ _ z => z)
theorem strs_map {α : Type} (f : α → Str) : ∀ l : List α, strsOf (l.map fun c => D.str (f c)) = some (l.map f)
  | [] => rfl
  | a :: l => by simp [strsOf, strs_map f l]
theorem join_chars : ∀ l : List Nat, Str.join "" (l.map fun c => ⟨#[c]⟩) = ⟨l.toArray⟩
  | [] => rfl
  | [c] => rfl
  | c :: d :: l => by
    show (⟨#[c]⟩ : Str) ++ "" ++ Str.join "" ((d :: l).map fun c => ⟨#[c]⟩) = _
    rw [join_chars (d :: l)]
    show Str.mk _ = _
    congr 1
    apply Array.toList_inj.mp
    show ((#[c] ++ (Str.cps "")) ++ (d :: l).toArray).toList = _
    have : (Str.cps "") = #[] := rfl
    rw [this]
    simp
theorem joinD_chars {l : List Nat} (h : l.length ≤ 1000) : joinD (.str "") (.lst (l.map fun c => D.str ⟨#[c]⟩)) = some (.str ⟨l.toArray⟩) := by
  show (strsOf _).bind (joinS "") = _
  rw [strs_map (fun c => (⟨#[c]⟩ : Str))]
  show joinS "" _ = _
  unfold joinS
  have hj : Txt.join "" (l.map fun c => (⟨#[c]⟩ : Str)) = ⟨l.toArray⟩ := by
    show Builtin.Str.glued "" _ = _
    rw [StrLaws.glued_eq_join]
    exact join_chars l
  rw [if_pos ?_, hj]
  have : ∀ l : List Nat, ((l.map fun c => (⟨#[c]⟩ : Str)).map (·.length)).sum = l.length := fun l => by
    induction l with
    | nil => rfl
    | cons a l ih => simp only [List.map_cons, List.sum_cons, ih]; simp [Str.length]; omega
  rw [this]
  have e : Str.length "" = 0 := rfl
  rw [e]
  omega
theorem cut_len {z : Str} {lo hi : Option Int} : (L2.cutS z lo hi).length ≤ z.length := by
  simp only [L2.cutS, Str.length, List.size_toArray, List.length_take, List.length_drop, Array.length_toList]
  omega
theorem asc_app {a b : Str} (ha : Asc a) (hb : Asc b) : Asc (a ++ b) := fun c hc => by
  rw [PySem.Str.cps_append, Array.toList_append, List.mem_append] at hc
  rcases hc with hc | hc
  · exact ha c hc
  · exact hb c hc
theorem app_len {a b : Str} : (a ++ b).length = a.length + b.length := by
  simp [Str.length, PySem.Str.cps_append]
theorem asc_of {z : Str} (h : (z.cps.toList.all fun c => decide (Pc c)) = true) : Asc z := fun c hc => of_decide_eq_true (List.all_eq_true.mp h c hc)
theorem asc_blanks {n : Int} (h0 : 0 ≤ n) (h2 : n ≤ 2) : Asc (Txt.mul " " n) ∧ (Txt.mul " " n).length ≤ 2 := by
  have : n = 0 ∨ n = 1 ∨ n = 2 := by omega
  rcases this with rfl | rfl | rfl
  · exact ⟨asc_of (by decide +kernel), by decide +kernel⟩
  · exact ⟨asc_of (by decide +kernel), by decide +kernel⟩
  · exact ⟨asc_of (by decide +kernel), by decide +kernel⟩
theorem cutOr_same {ce ce' : List CO} (h : ce'.length ≤ ce.length) : cutOr ce ce' = ce' := by
  unfold cutOr
  rw [cutTo_same h]
theorem rgD_mem {lo : Int} {n : Nat} {d : D} (h : d ∈ rgD lo n) : ∃ i : Nat, i < n ∧ d = .int (lo + (i : Nat)) := by
  simp only [rgD, List.mem_map, List.mem_range] at h
  obtain ⟨i, hi, rfl⟩ := h
  exact ⟨i, hi, rfl⟩
end Fx

set_option Elab.async false
set_option linter.all false
set_option autoImplicit false
set_option maxRecDepth 100000
set_option maxHeartbeats 2000000
namespace Fx
open PySem L2 PyProof.Rows
/-! ## rounding, cells seen -/
end Fx

set_option Elab.async false
set_option linter.all false
set_option autoImplicit false
set_option maxRecDepth 100000
set_option maxHeartbeats 2000000
namespace Fx
open PySem L2
/-! ## calls by keywords, as outcomes -/
/-- o.m(k = v, ..), def m(self, **d) -/
def aMethKW (tab : MTab) (m : Str) (ks : List Str) (a : AE) (r : AA) : AE := fun δ => (a δ).bind fun s δ1 => match clsS δ1 m s with
  | some C => (match tab.lookup C with
    | some (n, F) => (r δ1).bind fun ss δ2 => if n = 2 ∧ ss.length = ks.length then (match F [s, .cl δ2.ce.length] (δ2.ce ++ [.dic (mergeS [] (inrs (ks.zip ss)))]) with
      | .ok (.im d) ce => (match cutTo δ2.ce ce with
        | some ce2 => .ok (.im d) ⟨δ2.sl, ce2⟩
        | none => .ok (.im d) ⟨δ2.sl, ce⟩)
      | .ok _ _ => .bad
      | .ex y ce => .ex y ⟨δ2.sl, ce⟩
      | .bad => .bad) else .bad
    | none => .bad)
  | none => .bad
/-- C(**d) -/
def aMakeKW (x : Str) (n : Nat) (F : Fn) (ks : List Str) (d : AE) : AE := fun δ => (d ⟨δ.sl, δ.ce ++ [.dic []]⟩).bind fun s δ1 => match dv δ1.ce s, δ1.ce[δ.ce.length]? with
  | some (.dic kds), some (.dic []) => if kds.length ≤ 1000 ∧ notCl s δ.ce.length = true ∧ kds.map (·.1) = ks.map .inr ∧ kds.length + 1 = n then
      (match F (.cl δ1.ce.length :: (kds.map (·.2)).map SV.im) (δ1.ce.set δ.ce.length (.dic (kds.map fun p => (p.1, .im p.2))) ++ [.ins x []]) with
      | .ok (.im .non) ce => (match frz ce δ1.ce.length with
        | some (d, ce2) => .ok (.im d) ⟨δ1.sl, ce2⟩
        | none => .bad)
      | .ok _ _ => .bad
      | .ex y ce => .ex y ⟨δ1.sl, ce⟩
      | .bad => .bad) else .bad
  | _, _ => .bad
section
variable {K : PySem.W.Frag} {xs : Xs} {W : WX} {ta td : TE} {a d : AE} {tr : TA} {r : AA} {n : Nat} {F : Fn}
end
section
variable {P : Program} {w : World} {K : PySem.W.Frag} {mg : Str → Option Value} {base : Heap} {x qual : Str} {params : Arguments} {body : List Stmt} {scope : Scope} {kws : List (Str × V)} {f : Addr} {fd : FuncData}
end
section
variable {δ : Sta} {Ψ : SV → Sta → Prop} {Ξ : Xn → Sta → Prop} {a e : AE} {r : AA}
theorem s_methKW {tab : MTab} {m : Str} {ks : List Str} (h : (a δ).sat (fun s δ1 => ∃ C F, clsS δ1 m s = some C ∧ tab.lookup C = some (2, F) ∧ (r δ1).sat (fun ss δ2 => ss.length = ks.length ∧
    (F [s, .cl δ2.ce.length] (δ2.ce ++ [.dic (mergeS [] (inrs (ks.zip ss)))])).sat (fun s2 ce => ∃ d ce2, s2 = .im d ∧ cutTo δ2.ce ce = some ce2 ∧ Ψ (.im d) ⟨δ2.sl, ce2⟩) (fun x ce => Ξ x ⟨δ2.sl, ce⟩)) Ξ) Ξ) : (aMethKW tab m ks a r δ).sat Ψ Ξ :=
  sat_of_bind (Out.sat_mono h (fun s δ1 ⟨C, F, h0, h1, h2⟩ => by
    rw [h0]; dsimp only; rw [h1]; dsimp only
    refine sat_of_bind (Out.sat_mono h2 (fun ss δ2 ⟨h3, h4⟩ => ?_) fun _ _ z => z)
    rw [if_pos ⟨rfl, h3⟩]
    cases q : F [s, .cl δ2.ce.length] (δ2.ce ++ [.dic (mergeS [] (inrs (ks.zip ss)))]) with
    | ok s2 ce =>
      rw [q] at h4
      obtain ⟨d, ce2, rfl, e1, e2⟩ := h4
      dsimp only
      rw [e1]
      exact e2
    | ex x ce => rw [q] at h4; exact h4
    | bad => rw [q] at h4; exact h4) fun _ _ z => z)
theorem s_makeKW {x : Str} {n : Nat} {F : Fn} {ks : List Str} (h : (e ⟨δ.sl, δ.ce ++ [.dic []]⟩).sat (fun s δ1 => ∃ kds, dv δ1.ce s = some (.dic kds) ∧ δ1.ce[δ.ce.length]? = some (.dic []) ∧ (kds.length ≤ 1000 ∧ notCl s δ.ce.length = true ∧ kds.map (·.1) = ks.map .inr ∧ kds.length + 1 = n) ∧
    (F (.cl δ1.ce.length :: (kds.map (·.2)).map SV.im) (δ1.ce.set δ.ce.length (.dic (kds.map fun p => (p.1, .im p.2))) ++ [.ins x []])).sat (fun s2 ce => s2 = .im .non ∧ ∃ d ce2, frz ce δ1.ce.length = some (d, ce2) ∧ Ψ (.im d) ⟨δ1.sl, ce2⟩) (fun y ce => Ξ y ⟨δ1.sl, ce⟩)) Ξ) : (aMakeKW x n F ks e δ).sat Ψ Ξ :=
  sat_of_bind (Out.sat_mono h (fun s δ1 ⟨kds, h0, h1, h2, h3⟩ => by
    rw [h0, h1]; dsimp only; rw [if_pos h2]
    cases q : F (.cl δ1.ce.length :: (kds.map (·.2)).map SV.im) (δ1.ce.set δ.ce.length (.dic (kds.map fun p => (p.1, .im p.2))) ++ [.ins x []]) with
    | ok s2 ce =>
      rw [q] at h3
      obtain ⟨rfl, d, ce2, e1, e2⟩ := h3
      dsimp only
      rw [e1]
      exact e2
    | ex x ce => rw [q] at h3; exact h3
    | bad => rw [q] at h3; exact h3) fun _ _ z => z)
theorem s_bmd {f : ABM} (h : (a δ).sat (fun s δ1 => tyC δ1 s = true ∧ (r δ1).sat (fun ss δ2 => (f s ss δ2).sat Ψ Ξ) Ξ) Ξ) : (aBMd f a r δ).sat Ψ Ξ :=
  sat_of_bind (Out.sat_mono h (fun s δ1 ⟨h0, h1⟩ => by rw [if_pos h0]; exact sat_of_bind h1) fun _ _ z => z)
theorem s_update {c : Nat} {t : SV} {kvs : List (Key × SV)} {kds : List (Key × D)} (h1 : δ.ce[c]? = some (.dic kvs)) (h2 : dv δ.ce t = some (.dic kds)) (h3 : kvs.length + kds.length ≤ 1000 ∧ notCl t c = true)
    (h : Ψ (.im .non) ⟨δ.sl, δ.ce.set c (.dic (mergeS kvs (kds.map fun p => (p.1, .im p.2))))⟩) : (updateA (.cl c) [t] δ).sat Ψ Ξ := by
  unfold updateA
  dsimp only
  rw [h1, h2]
  dsimp only
  rw [if_pos h3]
  exact h
theorem cutTo_last {pre : List CO} {x x' : CO} {m : List CO} (hb : ∀ k, x'.bnd k = true) : cutTo (pre ++ [x]) (pre ++ x' :: m) = some (pre ++ [x']) := by
  unfold cutTo
  split
  · rename_i hl
    cases m with
    | nil => rfl
    | cons _ _ => simp at hl
  · have key : ∀ (k : Nat) (p : List CO), okAll k (p ++ [x]) (p ++ x' :: m) = true := fun k p => by
      induction p with
      | nil => simp [okAll, hb]
      | cons y ys ih => simp only [List.cons_append, okAll, ih, decide_true, Bool.true_or, Bool.and_self]
    rw [if_pos (key _ _)]
    congr 1
    simp [List.take_append, List.take_of_length_le]
end
end Fx

set_option Elab.async false
set_option linter.all false
set_option autoImplicit false
set_option maxRecDepth 100000
set_option maxHeartbeats 2000000
namespace Fx
open PySem L2
/-! ## errors raised and caught -/
def CO.isX : CO → Bool
  | .exc _ _ => true
  | _ => false
def noX (ce : List CO) : Bool := ce.all fun o => !o.isX
theorem noX_at {ce : List CO} (h : noX ce = true) {c : Nat} {o : CO} (e : ce[c]? = some o) : o.isX = false := by
  have := List.all_eq_true.mp h o (List.mem_of_getElem? e)
  simpa using this
/-- raise x(e) -/
def aRaise (x fld : Str) (e : AE) : AS := fun δ => match e δ with
  | .ok s δ1 => .ex ⟨.own x, [(fld, s)]⟩ δ1
  | .ex y δ1 => .ex y δ1
  | .bad => .bad
/-- what stands behind a body that is tried -/
def tryX (tab : List (XC × Bool)) (i : Nat) (suite : AS) (x : Xn) (δ1 : Sta) : OutS := match tab.lookup x.cls with
  | some true => if noX δ1.ce = true then (match suite ⟨δ1.sl.set i (.cl δ1.ce.length), δ1.ce ++ [.exc x.cls x.fs]⟩ with
    | .nx δ2 => if noX (δ2.ce.set δ1.ce.length .dead) = true then .nx ⟨δ2.sl.set i .no, δ2.ce.set δ1.ce.length .dead⟩ else .bad
    | .rt s δ2 => if noX (δ2.ce.set δ1.ce.length .dead) = true then .rt s ⟨δ2.sl.set i .no, δ2.ce.set δ1.ce.length .dead⟩ else .bad
    | _ => .bad) else .bad
  | some false => .ex x δ1
  | none => .bad
/-- try: body except C as n: suite -/
def aTry (tab : List (XC × Bool)) (i : Nat) (body suite : AS) : AS := fun δ => match body δ with
  | .ex x δ1 => tryX tab i suite x δ1
  | o => o
section
variable {K : PySem.W.Frag} {xs : Xs} {W : WX}
theorem ss_raise {x fld : Str} {te : TE} {e : AE} (he : SE K xs W te e) : SS K xs W (tRaiseSup (He.ga K x) fld W (tCons te tNil)) (aRaise x fld e) := by
  intro fr δ Φ h σ I as H D r c
  refine he fr δ (fun s δ1 => Φ.ex ⟨.own x, [(fld, s)]⟩ δ1) Φ.ex ?_ σ I as H _ r ⟨fun s δ1 v I1 as1 H1 r1 l1 rv k => ?_, fun y δ1 d I1 as1 H1 r1 l1 xr k => c.x y δ1 σ d I1 as1 H1 r1 l1 xr k⟩
  · unfold aRaise at h
    cases q : e δ <;> rw [q] at h <;> exact h
  · refine ⟨v, rfl, fun d hd => ?_⟩
    obtain ⟨r2, l2⟩ := r1.newF (o := .xd [(fld, v)]) hd
    exact c.x ⟨.own x, [(fld, s)]⟩ δ1 σ (some d) _ as1 _ r2 (l1.trans l2) ⟨[(fld, v)], upd_same, v, [], rfl, rv.mono l2, rfl⟩ k
theorem cellX {ec ec' : EC} {I : Hp} {as : List Addr} {H : Hp} {a : Addr} {o : CO} (h : o.isX = false) (z : CellOk K ec I as H a o) : CellOk K ec' I as H a o := by
  cases o with
  | exc k fs => cases h
  | _ => exact z
/-- a caught error: a new cell, which is not the heap's -/
theorem R.newX {fr : Hp} {δ : Sta} {σ : L2.St} {I : Hp} {as : List Addr} {H : Hp} (r : R K ⟨xs, fr⟩ δ σ I as H) (hn : noX δ.ce = true) {a : Addr} {cls : Value} {d : Option Addr} {k : XC} {fs : List (Str × SV)} (hk : k.v K = cls) (xr : XRel K I as fs d) :
    R K ⟨[(a, cls, d)], fr⟩ { δ with ce := δ.ce ++ [.exc k fs] } σ I (as ++ [a]) H ∧ Le I as I (as ++ [a]) := by
  have le : Le I as I (as ++ [a]) := ⟨Same.refl I, fun _ _ h => getElem?_snoc_lt h⟩
  have hlen : as.length = δ.ce.length := r.clen
  have cut : ∀ (c : Nat) (o' : CO) (a' : Addr), (δ.ce ++ [.exc k fs])[c]? = some o' → (as ++ [a])[c]? = some a' → (δ.ce[c]? = some o' ∧ as[c]? = some a') ∨ (c = δ.ce.length ∧ o' = .exc k fs ∧ a' = a) := fun c o' a' h1 h2 => by
    by_cases hcc : c < δ.ce.length
    · rw [List.getElem?_append_left hcc] at h1
      rw [List.getElem?_append_left (by omega)] at h2
      exact .inl ⟨h1, h2⟩
    · have hlt : c < (δ.ce ++ [CO.exc k fs]).length := lt_of_get h1
      simp at hlt
      have : c = δ.ce.length := by omega
      subst this
      simp at h1
      rw [← hlen] at h2
      simp at h2
      exact .inr ⟨rfl, h1.symm, h2.symm⟩
  refine ⟨⟨r.fh, fun c' o' a' h1 h2 l' => ?_, r.fi, r.ih, r.len, fun i s h => ?_, by simp [hlen], fun c' o' a' h1 h2 => ?_, fun c1 c2 o1 o2 a1 h1 h2 l1 l2 h3 h4 => ?_⟩, le⟩
  · rcases cut c' o' a' h1 h2 with ⟨g1, g2⟩ | ⟨_, z, _⟩
    · exact r.cf c' o' a' g1 g2 l'
    · rw [z] at l'; cases l'
  · rcases r.slots i s h with h | ⟨v, h1, h2⟩
    · exact .inl h
    · exact .inr ⟨v, h1, h2.mono le⟩
  · rcases cut c' o' a' h1 h2 with ⟨h1, h2⟩ | ⟨_, rfl, rfl⟩
    · have z := cellX (ec' := ⟨[(a, cls, d)], fr⟩) (noX_at hn h1) (r.cells c' o' a' h1 h2)
      exact z.mono le (fun l => (z.free l).1) fun l u hu => hu
    · exact ⟨d, by rw [hk]; exact List.mem_singleton.mpr rfl, xr.mono le⟩
  · rcases cut c1 o1 a1 h1 h3 with ⟨g1, g3⟩ | ⟨_, z, _⟩
    · rcases cut c2 o2 a1 h2 h4 with ⟨g2, g4⟩ | ⟨_, z, _⟩
      · exact r.inj c1 c2 o1 o2 a1 g1 g2 l1 l2 g3 g4
      · rw [z] at l2; cases l2
    · rw [z] at l1; cases l1
/-- behind the suite -/
theorem R.endX {xs' : Xs} {fr : Hp} {δ : Sta} {σ : L2.St} {I : Hp} {as : List Addr} {H : Hp} (r : R K ⟨xs, fr⟩ δ σ I as H) {c i : Nat} (hn : noX (δ.ce.set c .dead) = true) :
    R K ⟨xs', fr⟩ ⟨δ.sl.set i .no, δ.ce.set c .dead⟩ (σ.set i none) I as H := by
  have g : ∀ (c1 : Nat) (o1 : CO), (δ.ce.set c .dead)[c1]? = some o1 → o1 = .dead ∨ δ.ce[c1]? = some o1 := fun c1 o1 h1 => by
    by_cases hcc : c1 = c
    · subst hcc
      rw [List.getElem?_set_self' ] at h1
      cases q : δ.ce[c1]? with
      | none => rw [q] at h1; cases h1
      | some y => rw [q] at h1; cases h1; exact .inl rfl
    · rw [List.getElem?_set_ne (Ne.symm hcc)] at h1; exact .inr h1
  refine ⟨r.fh, fun c' o' a' h1 h2 l' => ?_, r.fi, r.ih, by simp [r.len], fun j s h => ?_, by simp [r.clen], fun c' o' a' h1 h2 => ?_, fun c1 c2 o1 o2 a1 h1 h2 l1 l2 h3 h4 => ?_⟩
  · rcases g c' o' h1 with rfl | h1
    · cases l'
    · exact r.cf c' o' a' h1 h2 l'
  · by_cases hj : j = i
    · subst hj
      have h : (δ.sl.set j .no)[j]? = some s := h
      rw [List.getElem?_set_self'] at h
      cases q : δ.sl[j]? with
      | none => rw [q] at h; cases h
      | some y => rw [q] at h; cases h; exact .inl rfl
    · have h : (δ.sl.set i .no)[j]? = some s := h
      rw [List.getElem?_set_ne (Ne.symm hj)] at h
      rcases r.slots j s h with h | ⟨v, h1, h2⟩
      · exact .inl h
      · exact .inr ⟨v, by rw [List.getElem?_set_ne (Ne.symm hj)]; exact h1, h2⟩
  · have hx := noX_at hn h1
    rcases g c' o' h1 with rfl | h1
    · exact trivial
    · exact cellX hx (r.cells c' o' a' h1 h2)
  · rcases g c1 o1 h1 with rfl | h1
    · cases l1
    · rcases g c2 o2 h2 with rfl | h2
      · cases l2
      · exact r.inj c1 c2 o1 o2 a1 h1 h2 l1 l2 h3 h4
theorem ss_try {c : Value} {i : Nat} {tb : WX → TS} {ts : Addr → Value → Option Addr → TS} {tab : List (XC × Bool)} {body suite : AS} (hm : ∀ k b, tab.lookup k = some b → PySem.W.exmOne K (k.v K) c = some b)
    (hb : ∀ W' : WX, SS K xs W' (tb W') body) (hsu : ∀ a cls d, SS K [(a, cls, d)] W0 (ts a cls d) suite) : SS K xs W (fun D σ H => tb (wAs K c i ts W D) D σ H) (aTry tab i body suite) := by
  intro fr δ Φ h σ I as H D r cs
  refine hb _ fr δ { Φ with ex := fun x δ1 => (tryX tab i suite x δ1).sat Φ } ?_ σ I as H D r ⟨cs.nx, cs.rt, cs.bk, cs.ct, fun x δ1 σ1 d I1 as1 H1 r1 l1 xr k => ?_⟩
  · unfold aTry at h
    cases q : body δ <;> rw [q] at h <;> exact h
  · have k : (tryX tab i suite x δ1).sat Φ := k
    unfold tryX at k
    split at k
    · rename_i e
      refine ⟨true, hm _ _ e, fun _ a ha => ?_, fun z => Bool.noConfusion z⟩
      split at k
      · rename_i hn
        obtain ⟨r2, l2⟩ := r1.newX hn (a := a) (k := x.cls) rfl xr
        have hca : (as1 ++ [a])[δ1.ce.length]? = some a := by rw [← r1.clen]; simp
        have r3 := r2.store (i := i) (s := .cl δ1.ce.length) (v := .ref a) ⟨a, hca, rfl⟩
        refine hsu a _ d fr ⟨δ1.sl.set i (.cl δ1.ce.length), δ1.ce ++ [.exc x.cls x.fs]⟩
          ⟨fun δ2 => noX (δ2.ce.set δ1.ce.length .dead) = true ∧ Φ.nx ⟨δ2.sl.set i .no, δ2.ce.set δ1.ce.length .dead⟩, fun s δ2 => noX (δ2.ce.set δ1.ce.length .dead) = true ∧ Φ.rt s ⟨δ2.sl.set i .no, δ2.ce.set δ1.ce.length .dead⟩, fun _ => False, fun _ => False, fun _ _ => False⟩ ?_ _ I1 _ H1 _ r3
          ⟨fun δ2 σ2 I2 as2 H2 r4 l4 k4 => ?_, fun s δ2 σ2 v I2 as2 H2 r4 l4 rv k4 => ?_, fun _ _ _ _ _ _ _ k4 => k4.elim, fun _ _ _ _ _ _ _ k4 => k4.elim, fun _ _ _ _ _ _ _ _ _ _ k4 => k4.elim⟩
        · cases q : suite ⟨δ1.sl.set i (.cl δ1.ce.length), δ1.ce ++ [.exc x.cls x.fs]⟩ with
          | nx δ2 => rw [q] at k; dsimp only at k; split at k; exact ⟨by assumption, k⟩; exact k.elim
          | rt s δ2 => rw [q] at k; dsimp only at k; split at k; exact ⟨by assumption, k⟩; exact k.elim
          | bk δ2 => rw [q] at k; exact k
          | ct δ2 => rw [q] at k; exact k
          | ex y δ2 => rw [q] at k; exact k
          | bad => rw [q] at k; exact k
        · exact cs.nx _ _ I2 as2 H2 (r4.endX k4.1) ((l1.trans l2).trans l4) k4.2
        · exact cs.rt s _ _ v I2 as2 H2 (r4.endX (i := i) k4.1) ((l1.trans l2).trans l4) rv k4.2
      · exact k.elim
    · rename_i e
      exact ⟨false, hm _ _ e, fun z => Bool.noConfusion z, fun _ => cs.x x δ1 σ1 d I1 as1 H1 r1 l1 xr k⟩
    · exact k.elim
/-- e.f of a caught error -/
def aXF (x fld : Str) (a : AE) : AE := fun δ => (a δ).bind fun s δ1 => match s with
  | .cl c => (match δ1.ce[c]? with
    | some (.exc (.own y) [(f, t)]) => if y = x ∧ f = fld then .ok t δ1 else .bad
    | _ => .bad)
  | _ => .bad
theorem se_xf {x fld : Str} {a : Addr} {cls : Value} {d : Option Addr} {te : TE} {ae : AE} (he : SE K [(a, cls, d)] W te ae) : SE K [(a, cls, d)] W (tBySup (He.ga K x) fld a cls d te) (aXF x fld ae) := by
  intro fr δ Ψ Ξ h σ I as H Q r c
  refine he fr δ _ _ (Out.sat_bind h) σ I as H _ r ⟨fun s δ1 v I1 as1 H1 r1 l1 rv k => ?_, c.x⟩
  split at k
  · rename_i cc
    split at k
    · rename_i y f t q
      split at k
      · rename_i hh
        obtain ⟨rfl, rfl⟩ := hh
        obtain ⟨b, hb, rfl⟩ := rv
        obtain ⟨d', hd, xr⟩ := r1.cells cc _ b q hb
        have hd := List.mem_singleton.mp hd
        injection hd with e1 e2
        injection e2 with e2 e3
        subst e1 e2 e3
        cases d' with
        | none => exact absurd xr (by intro z; cases z)
        | some dd =>
          obtain ⟨vs, h1, v, rr, h2, h3, h4⟩ := xr
          subst h2
          have h4 : rr = [] := h4
          subst h4
          exact ⟨rfl, rfl, dd, v, rfl, r1.ih _ _ h1, c.v t δ1 v I1 as1 H1 r1 l1 h3 k⟩
      · exact k.elim
    · exact k.elim
  · exact k.elim
/-- isinstance(e, c) of a caught error -/
def isxA (tab : Isi) : ACB := fun ss δ => match ss with
  | [.cl c, t] => (match δ.ce[c]?, dv δ.ce t with
    | some (.exc k (_ :: _)), some d => (match clsD d with
      | some cc => (match tab.lookup (k, cc) with
        | some b => .ok (.im (.bl b)) δ
        | none => .bad)
      | none => .bad)
    | _, _ => .bad)
  | _ => .bad
structure IsxOk (K : PySem.W.Frag) (tab : Isi) : Prop where
  go : ∀ k c b, tab.lookup (k, c) = some b → ∃ x, k = .own x ∧ ExcC K (He.ga K x) ∧ PySem.W.kitOne K (.ref (He.ga K x)) (c.v K) = some b
def rIsY (K : PySem.W.Frag) (a : Addr) (cls : Value) (d : Option Addr) : List V → Hp → VK → Prop := fun xs H Q => ∃ D, cls = .ref D ∧ ExcC K D ∧ rIsX K D a d xs H Q
theorem call_isY {X : Cx} {a : Addr} {oe : Obj} {cls : Value} {d : Option Addr} {pn : List (Addr × Obj)} (hz : Zc cls d oe) (hf : ∃ vs, oe.data = .fields vs) : CallR (X.suite a ((a, oe) :: pn)) (.builtin "isinstance") (rIsY X.K a cls d) := by
  intro pins s σ H xs us Q I r h
  obtain ⟨D, rfl, C, h⟩ := h
  exact call_isX C hz hf pins s σ H xs us Q I r h
theorem ok_isx {tab : Isi} {a : Addr} {cls : Value} {d : Option Addr} (hT : IsxOk K tab) : CbOk K [(a, cls, d)] (rIsY K a cls d) (isxA tab) := by
  intro fr ss δ Ψ Ξ h σ I as H Q vs r h1 c
  unfold isxA at h
  split at h
  · rename_i cc t
    obtain ⟨w, _, rfl, hw, w', _, rfl, hw', rfl⟩ := h1
    split at h
    · rename_i k p ps dd e1 ed
      split at h
      · rename_i cl ec
        split at h
        · rename_i b q
          obtain ⟨x, rfl, C, hkit⟩ := hT.go _ _ _ q
          obtain ⟨b', hb, rfl⟩ := hw
          obtain ⟨d', hd, xr⟩ := r.cells cc _ b' e1 hb
          have hd := List.mem_singleton.mp hd
          injection hd with z1 z2
          injection z2 with z2 z3
          subst z1 z2 z3
          have rep := r.dv ed hw'
          have hcv : ∀ u, RelV w' u → u = cl.v K := fun u ru => by
            cases dd with
            | ty n => cases ec; cases (show w' = _ from rep); exact ru
            | glo x => cases ec; cases (show w' = _ from rep); exact ru
            | _ => cases ec
          cases d' with
          | none => exact absurd xr (by intro z; cases z)
          | some d0 =>
            obtain ⟨vs, h1, _⟩ := xr
            exact ⟨_, rfl, C, w', _, b, d0, vs, rfl, r.ih _ _ h1, rfl, hcv, hkit, c (.im (.bl b)) δ _ I as H r (Le.refl I as) rfl h⟩
        · exact h.elim
      · exact h.elim
    · exact h.elim
  · exact h.elim
end
end Fx

set_option Elab.async false
set_option linter.all false
set_option autoImplicit false
set_option maxRecDepth 100000
set_option maxHeartbeats 4000000
namespace Fx
open PySem PySem.W PySem.HandSPX L2
/-! ## what is written of own errors, found by looking -/
def isIA (f : Str) : Arguments → Bool
  | ⟨[], [⟨a, none, _⟩, ⟨b, none, _⟩], none, [], [], none, []⟩ => a == ("self" : Str) && b == f
  | _ => false
theorem isIA_ok {f : Str} {x : Arguments} (h : isIA f x = true) : ∃ p1 p2, x = iA f p1 p2 := by
  unfold isIA at h
  split at h
  · simp only [Bool.and_eq_true, beq_iff_eq] at h
    obtain ⟨rfl, rfl⟩ := h
    exact ⟨_, _, rfl⟩
  · cases h
def isIB (f : Str) : FuncBody → Bool
  | .stmts [.Expr (.Call (.Attribute (.Call (.Name s _) [] [] _) i a3) [.Name f1 _] [] a5) _, .Assign [.Attribute (.Name sf _) f2 _] (.Name f3 _) _] => s == ("super" : Str) && (i == ("__init__" : Str) && (f1 == f && (sf == ("self" : Str) && (f2 == f && (f3 == f && a3.endLine == a5.line)))))
  | _ => false
theorem isIB_ok {f : Str} {x : FuncBody} (h : isIB f x = true) : ∃ a1 a2 a3 a4 a5 a6 q1 q2 q3 q4, (a3.endLine == a5.line) = true ∧ x = .stmts (iB f a1 a2 a3 a4 a5 a6 q1 q2 q3 q4) := by
  unfold isIB at h
  split at h
  · simp only [Bool.and_eq_true, beq_iff_eq] at h
    obtain ⟨rfl, rfl, rfl, rfl, rfl, rfl, hl⟩ := h
    exact ⟨_, _, _, _, _, _, _, _, _, _, beq_iff_eq.mpr hl, rfl⟩
  · cases h
def isIS (f : Str) : Scope → Bool
  | ⟨.function, [(n1, .local), (n2, .local), (n3, .free), (n4, .globalImplicit)], false, false, []⟩ => n1 == ("self" : Str) && (n2 == f && (n3 == ("__class__" : Str) && n4 == ("super" : Str)))
  | _ => false
theorem isIS_ok {f : Str} {x : Scope} (h : isIS f x = true) : x = iS f := by
  unfold isIS at h
  split at h
  · simp only [Bool.and_eq_true, beq_iff_eq] at h
    obtain ⟨rfl, rfl, rfl, rfl⟩ := h
    rfl
  · cases h
def xclsB (K : Frag) (C : Addr) : Bool := match K.lookup C with
  | some ⟨.type "type", _, .cls cd, sl⟩ => (match cd.mro, sl.toList with
    | .ref C' :: bm, [_, _, _, _, some (.builtin n), _] => C' == C && n == "ValueError.__new__" && !cd.hasDel && refsVE bm && cd.hasDict
    | _, _ => false)
  | _ => false
theorem xclsB_ok {K : Frag} {C : Addr} (q : xclsB K C = true) : ∃ nm qn N bs bm sn sub ab col dd k0 k1 k2 k3 k5, K.lookup C = some (excClassObj nm qn C N bs bm true sn sub ab col dd k0 k1 k2 k3 k5 "ValueError.__new__") ∧ refsVE bm = true := by
  unfold xclsB at q
  split at q
  · rename_i dd cd sl ho
    split at q
    · rename_i C' bm k0 k1 k2 k3 n k5 hm hs
      simp only [Bool.and_eq_true, beq_iff_eq, Bool.not_eq_true'] at q
      obtain ⟨⟨⟨⟨rfl, rfl⟩, hdel⟩, ht⟩, hd⟩ := q
      obtain ⟨nm, bs, mro, ns, qn, hdc, sn, sub, ab, col, del⟩ := cd
      dsimp only at hm hdel hd
      subst hm hdel hd
      have hsl : sl = #[k0, k1, k2, k3, some (.builtin "ValueError.__new__"), k5] := by
        obtain ⟨l⟩ := sl
        simp only at hs
        rw [hs]
      subst hsl
      exact ⟨nm, qn, ns, bs, bm, sn, sub, ab, col, dd, k0, k1, k2, k3, k5, ho, ht⟩
    · cases q
  · cases q
def codeB (file : Str) (K : Frag) (cda : Addr) : Bool := match K.lookup cda with
  | some ⟨_, _, .fields vs, _⟩ => (match (vs[2]? : Option Value) with
    | some (.str f _) => file == f
    | _ => false)
  | _ => false
theorem codeB_ok {file : Str} {K : Frag} {cda : Addr} (h : codeB file K cda = true) : ∃ ccl cdd vs ccs f tf, K.lookup cda = some ⟨ccl, cdd, .fields vs, ccs⟩ ∧ vs[2]? = some (.str f tf) ∧ (file == f) = true := by
  unfold codeB at h
  split at h
  · rename_i a b vs c e
    split at h
    · rename_i f tf e2
      exact ⟨a, b, vs, c, f, tf, e, e2, h⟩
    · cases h
  · cases h
def cellB (K : Frag) (cc C : Addr) : Bool := match K.lookup cc with
  | some ⟨_, _, .cell (some (.ref D)), _⟩ => D == C
  | _ => false
theorem cellB_ok {K : Frag} {cc C : Addr} (h : cellB K cc C = true) : ∃ cl cld csl, K.lookup cc = some ⟨cl, cld, .cell (some (.ref C)), csl⟩ := by
  unfold cellB at h
  split at h
  · rename_i a b D c e
    cases beq_iff_eq.mp h
    exact ⟨a, b, c, e⟩
  · cases h
def initB (file : Str) (K : Frag) (C fI : Addr) (f : Str) : Bool := match K.lookup fI with
  | some ⟨_, _, .func fd, _⟩ => isIA f fd.params && (isIB f fd.body && (isIS f fd.scope && (fd.name == ("__init__" : Str) && (fd.globals == mainGlobals && (fd.builtins == builtinsNs && (match fd.closure, fd.defaults, fd.kwdefaults, fd.code with
    | [(n, cc)], .none, .none, .ref cda => n == ("__class__" : Str) && (codeIn K (.ref cda) fd.qualname && (codeB file K cda && cellB K cc C))
    | _, _, _, _ => false))))))
  | _ => false
theorem initB_ok {file : Str} {K : Frag} {C fI : Addr} {f : Str} (h : initB file K C fI f = true) : ∃ (qual : Str) (oc : Value) (od : Option Addr) (doc pm : Value) (an : Option Addr) (cda : Addr) (ct : Value) (osl : Array (Option Value)) (cc : Addr) (p1 p2 a1 a2 a3 a4 a5 a6 q1 q2 q3 q4 : Pos) (ccl : Value) (cdd : Option Addr) (vs : Array Value) (ccs : Array (Option Value)) (fl : Str) (tf : Tok) (cl : Value) (cld : Option Addr) (csl : Array (Option Value)),
    (a3.endLine == a5.line) = true ∧ K.lookup fI = some ⟨oc, od, .func (ksFn "__init__" qual (iA f p1 p2) (iB f a1 a2 a3 a4 a5 a6 q1 q2 q3 q4) (iS f) .none .none doc pm an (.ref cda) ct cc), osl⟩ ∧ codeIn K (.ref cda) qual = true ∧
    K.lookup cda = some ⟨ccl, cdd, .fields vs, ccs⟩ ∧ vs[2]? = some (.str fl tf) ∧ (file == fl) = true ∧ K.lookup cc = some ⟨cl, cld, .cell (some (.ref C)), csl⟩ := by
  unfold initB at h
  split at h
  · rename_i oc od fd osl e
    obtain ⟨nm, qn, ps, bd, sc, gl, clo, dV, kV, doc, pm, an, code, ct, bl⟩ := fd
    simp only [Bool.and_eq_true, beq_iff_eq] at h
    obtain ⟨h1, h2, h3, rfl, rfl, rfl, h⟩ := h
    obtain ⟨p1, p2, rfl⟩ := isIA_ok h1
    obtain ⟨a1, a2, a3, a4, a5, a6, q1, q2, q3, q4, hln, rfl⟩ := isIB_ok h2
    cases isIS_ok h3
    split at h
    · simp only [Bool.and_eq_true, beq_iff_eq] at h
      obtain ⟨rfl, h4, h5, h6⟩ := h
      obtain ⟨ccl, cdd, vs, ccs, fl, tf, g1, g2, g3⟩ := codeB_ok h5
      obtain ⟨cl, cld, csl, g4⟩ := cellB_ok h6
      exact ⟨qn, oc, od, doc, pm, an, _, ct, osl, _, p1, p2, a1, a2, a3, a4, a5, a6, q1, q2, q3, q4, ccl, cdd, vs, ccs, fl, tf, cl, cld, csl, hln, e, h4, g1, g2, g3, g4⟩
    · cases h
  · cases h
def fIof (K : Frag) (C : Addr) : Addr := match findIn K (.ref C) "__init__" with
  | some (some (.ref a)) => a
  | _ => 0
def supB (file : Str) (K : Frag) (x f : Str) : Bool :=
  let C := He.ga K x
  let fI := fIof K C
  xclsB K C && (He.eqO (findIn K (.ref C) "__setattr__") (some (some (.builtin "object.__setattr__"))) && (He.eqO (findIn K (.ref C) "__getattribute__") (some (some (.builtin "BaseException.__getattribute__"))) && (He.eqO (findIn K (.ref C) "__getattr__") (some none) &&
  (He.eqO (findIn K (.ref C) f) (some none) && (He.eqO (findIn K (.ref C) "__init__") (some (some (.ref fI))) && (decide (typeIn K (.ref fI) = some (.type "function")) && (keepIn K (.ref C) && (decide (subIn K (.ref C) (.type "BaseException") = some true) && (decide (typeIn K (.ref C) = some (.type "type")) &&
  (hasDictIn K C && (decide (exmOne K (.ref C) (.ref C) = some true) && (He.eqO (ks_superIn K C C "__init__") (some (some (.builtin "ValueError.__init__"))) && (decide (subIn K (.ref C) (.type "ValueError") = some true) && (decide (mroIn K C (.ref C) = some true) && (He.eqO (nsIn K cStatics "thirdparty.any") (some none) && initB file K C fI f)))))))))))))))
theorem supB_ok {P : Program} {K : Frag} {mg : Str → Option Value} {x f : Str} (hf : FldOk f) (gC : mg x = some (.ref (He.ga K x))) (ns : mg "super" = none) (top : (P.main.scope.names.lookup ("super" : Str)).isSome = false) (c : supB P.main.file K x f = true) : SupTxt P K mg x f (He.ga K x) (fIof K (He.ga K x)) := by
  unfold supB at c
  simp only [Bool.and_eq_true, decide_eq_true_eq] at c
  obtain ⟨c1, c2, c3, c4, c5, c6, c7, c8, c9, c10, c11, c12, c13, c14, c15, c16, c17⟩ := c
  exact ⟨hf, gC, xclsB_ok c1, He.eqO_ok c2, He.eqO_ok c3, He.eqO_ok c4, He.eqO_ok c5, He.eqO_ok c6, c7, c8, c9, c10, c11, c12, He.eqO_ok c13, c14, c15, He.eqO_ok c16, ns, top, initB_ok c17⟩
/-- for isinstance of a caught error -/
def excCB (K : Frag) (x : Str) : Bool :=
  let D := He.ga K x
  He.eqO (findIn K (.ref D) "__getattribute__") (some (some (.builtin "BaseException.__getattribute__"))) && (He.eqO (findIn K (.ref D) "__getattr__") (some none) && (decide (subIn K (.ref D) (.type "BaseException") = some true) && (hasDictIn K D && (He.eqO (findIn K (.ref D) "__class__") (some (some (.builtin "object.__class__"))) &&
  (He.eqO (specialIn K (.builtin "object.__class__") "__get__") (some (some (.builtin "getset_descriptor.__get__"))) && (decide (takesIn K (.builtin "object.__class__") = some true) && decide (mroIn K D (.type "object") = some true)))))))
theorem excCB_ok {K : Frag} {x : Str} (c : excCB K x = true) : ExcC K (He.ga K x) := by
  unfold excCB at c
  simp only [Bool.and_eq_true, decide_eq_true_eq] at c
  obtain ⟨c1, c2, c3, c4, c5, c6, c7, c8⟩ := c
  exact ⟨He.eqO_ok c1, He.eqO_ok c2, c3, c4, He.eqO_ok c5, He.eqO_ok c6, c7, c8⟩
def isxB (K : Frag) (tab : Isi) : Bool := tab.all fun p => match p.1.1 with
  | .own x => excCB K x && decide (kitOne K (.ref (He.ga K x)) (p.1.2.v K) = some p.2)
  | _ => false
theorem isxB_ok {K : Frag} {tab : Isi} (c : isxB K tab = true) : IsxOk K tab := ⟨fun k cc b e => by
  have h := List.all_eq_true.mp c ((k, cc), b) (look_mem e)
  cases k with
  | own x =>
    simp only [Bool.and_eq_true, decide_eq_true_eq] at h
    exact ⟨x, rfl, excCB_ok h.1, h.2⟩
  | blt n => cases h⟩
def exmB (K : Frag) (h : Str) (tab : List (XC × Bool)) : Bool := tab.all fun p => decide (exmOne K (p.1.v K) (.ref (He.ga K h)) = some p.2)
theorem exmB_ok {K : Frag} {h : Str} {tab : List (XC × Bool)} (c : exmB K h tab = true) : ∀ k b, tab.lookup k = some b → exmOne K (k.v K) (.ref (He.ga K h)) = some b := fun k b e =>
  of_decide_eq_true (List.all_eq_true.mp c (k, b) (look_mem e))
/-! ## a head's facts, looked up with the table of the interpreter's statics at hand -/
section
open He
def asY (g : Addr → Option Obj) (n : Nat) : List Addr := He.asD g n ++ [cStatics]
def obsY (n : Nat) (fa : List He.Fa) (fn : List DefD) (ts : List He.Tab) (tf : List He.Defn) (ex : Frag → Bool) (g : Addr → Option Obj) : He.AlX := (He.obsT fa fn ts (He.frT g (asY g n)), ex (He.frT g (asY g n)) && He.tabsB g tf (He.frT g (asY g n)))
theorem says_fr {as : List Addr} {fa : List He.Fa} {fn : List DefD} {ts : List He.Tab} {tf : List He.Defn} {ex : Frag → Bool} {w : World} {h : Heap} {K : Frag} (hK : He.frT h.get? as = K) (e1 : He.obsT fa fn ts K = He.valT fn ts w) (e2 : (ex K && He.tabsB h.get? tf K) = true) : He.SaysX fa fn ts tf ex w h K := by
  rw [Bool.and_eq_true] at e2
  have key : ∀ p ∈ tf, codeHdIn K (He.cT K p).1 (He.cT K p).2 = true ∧ ∃ o, h.get? (He.cT K p).2 = some o ∧ He.emptyTab o = true := fun p hp => by
    have z := List.all_eq_true.mp e2.2 p hp
    rw [Bool.and_eq_true] at z
    refine ⟨z.1, ?_⟩
    have y := z.2
    split at y
    · exact ⟨_, by assumption, y⟩
    · cases y
  refine ⟨e1, e2.1, fun p hp => (key p hp).1, fun p hp => ?_, fun p hp => ?_⟩
  · obtain ⟨_, o, q, z⟩ := key p hp
    rw [← hK] at q ⊢
    exact He.frT_none q z
  · obtain ⟨_, o, q, z⟩ := key p hp
    rw [q, He.emptyTab_eq z]
def hookY (n : Nat) (fa : List He.Fa) (fn : List DefD) (ts : List He.Tab) (tf : List He.Defn) (ex : Frag → Bool) : Hook where
  α := He.AlX
  obs := fun s => obsY n fa fn ts tf ex s.heap.get?
  val := fun w => He.valX fn ts w
  says := fun w h => ∃ K : Frag, K.In h ∧ He.SaysX fa fn ts tf ex w h K
  of := fun _ _ e => ⟨_, He.frT_in, says_fr rfl (congrArg (fun z : He.AlX => z.1) e) (congrArg (fun z : He.AlX => z.2) e)⟩
  keeps := fun _ _ _ ⟨K, hK, c⟩ k => ⟨K, Frag.In.keeps hK k, ⟨c.t, c.more, c.hd, c.out, fun p hp => k _ _ (c.empty p hp)⟩⟩
theorem obsY_eq {n : Nat} {fa : List He.Fa} {fn : List DefD} {ts : List He.Tab} {tf : List He.Defn} {ex : Frag → Bool} {g : Addr → Option Obj} {s : Shared} (h : ∀ a, g a = s.heap.get? a) : obsY n fa fn ts tf ex g = (hookY n fa fn ts tf ex).obs s := by
  cases (funext h : g = s.heap.get?)
  rfl
end
end Fx

set_option Elab.async false
set_option linter.all false
set_option autoImplicit false
set_option maxRecDepth 100000
set_option maxHeartbeats 2000000
namespace Fx
open PySem PySem.Spec PyProof.Rows L2
/-! ## repr of nested lists and tuples -/
section
variable {K : PySem.W.Frag} {xs : Xs} {W : WX}
/-! ## zip of two lists -/
def zipD : List D → List D → List D
  | d :: ds, e :: es => .tup [d, e] :: zipD ds es
  | _, _ => []
theorem zipD_at : ∀ (ds es : List D) (i : Nat) (x : D), (zipD ds es)[i]? = some x → ∃ d e, ds[i]? = some d ∧ es[i]? = some e ∧ x = .tup [d, e]
  | d :: ds, e :: es, 0, x, h => ⟨d, e, rfl, rfl, by simpa [zipD] using h.symm⟩
  | d :: ds, e :: es, i + 1, x, h => by
    obtain ⟨d', e', h1, h2, h3⟩ := zipD_at ds es i x (by simpa [zipD] using h)
    exact ⟨d', e', by simpa using h1, by simpa using h2, h3⟩
  | [], _, i, x, h => by simp [zipD] at h
  | _ :: _, [], i, x, h => by simp [zipD] at h
theorem zipD_len : ∀ (ds es : List D), (zipD ds es).length = min ds.length es.length
  | [], _ => by simp [zipD]
  | _ :: _, [] => by simp [zipD]
  | d :: ds, e :: es => by simp [zipD, zipD_len ds es, Nat.succ_min_succ]
theorem repL_get {I : Hp} : ∀ {ds : List D} {vs : List V} {i : Nat} {d : D}, RepL K I ds vs → ds[i]? = some d → ∃ v, vs[i]? = some v ∧ Rep K I d v
  | [], _, _, _, _, h => by simp at h
  | d :: ds, _, 0, x, ⟨v, r, e, h1, h2⟩, h => by subst e; cases (by simpa using h : d = x); exact ⟨v, rfl, h1⟩
  | d :: ds, _, i + 1, x, ⟨v, r, e, h1, h2⟩, h => by
    subst e
    obtain ⟨u, h3, h4⟩ := repL_get h2 (by simpa using h)
    exact ⟨u, by simpa using h3, h4⟩
/-- for .. in zip(x, y), two lists -/
def aZip (r : AA) : AI := fun δ => (r δ).bind fun ss δ1 => match ss with
  | [s, t] => (match toIm δ1.ce s with
    | some (.lst ds, ce1) => (match toIm ce1 t with
      | some (.lst es, ce2) => .ok (zipD ds es) ⟨δ1.sl, ce2⟩
      | _ => .bad)
    | _ => .bad)
  | _ => .bad
end
section
variable {δ : Sta} {Ψ : SV → Sta → Prop} {Ξ : Xn → Sta → Prop} {r : AA}
theorem s_zip {Ψi : List D → Sta → Prop} (h : (r δ).sat (fun ss δ1 => ∃ s t ds ce1 es ce2, ss = [s, t] ∧ toIm δ1.ce s = some (.lst ds, ce1) ∧ toIm ce1 t = some (.lst es, ce2) ∧ Ψi (zipD ds es) ⟨δ1.sl, ce2⟩) Ξ) : (aZip r δ).sat Ψi Ξ :=
  sat_of_bind (Out.sat_mono h (fun ss δ1 ⟨s, t, ds, ce1, es, ce2, h0, h1, h2, h3⟩ => by subst h0; dsimp only; rw [h1]; dsimp only; rw [h2]; exact h3) fun _ _ z => z)
end
/-! ## d[k] = v as one of some targets -/
section
variable {K : PySem.W.Frag} {xs : Xs} {ta tb : TE} {a b : AE}
end
/-! ## plain steps for errors -/
section
variable {δ : Sta} {Ψ : SV → Sta → Prop} {Ξ : Xn → Sta → Prop} {Φ : Post} {a e : AE} {p q : AS}
theorem s_raise {x fld : Str} (h : (e δ).sat (fun s δ1 => Φ.ex ⟨.own x, [(fld, s)]⟩ δ1) Φ.ex) : (aRaise x fld e δ).sat Φ := by
  unfold aRaise
  cases hq : e δ <;> rw [hq] at h <;> exact h
theorem s_try {tab : List (XC × Bool)} {i : Nat} (h : (p δ).sat { Φ with ex := fun x δ1 => (tryX tab i q x δ1).sat Φ }) : (aTry tab i p q δ).sat Φ := by
  unfold aTry
  cases hq : p δ <;> rw [hq] at h <;> exact h
theorem s_tryX {tab : List (XC × Bool)} {i : Nat} {x : Xn} (e : tab.lookup x.cls = some true) (hn : noX δ.ce = true)
    (h : (q ⟨δ.sl.set i (.cl δ.ce.length), δ.ce ++ [.exc x.cls x.fs]⟩).sat ⟨fun δ2 => noX (δ2.ce.set δ.ce.length .dead) = true ∧ Φ.nx ⟨δ2.sl.set i .no, δ2.ce.set δ.ce.length .dead⟩, fun s δ2 => noX (δ2.ce.set δ.ce.length .dead) = true ∧ Φ.rt s ⟨δ2.sl.set i .no, δ2.ce.set δ.ce.length .dead⟩, fun _ => False, fun _ => False, fun _ _ => False⟩) : (tryX tab i q x δ).sat Φ := by
  unfold tryX
  rw [e]
  dsimp only
  rw [if_pos hn]
  cases hq : q ⟨δ.sl.set i (.cl δ.ce.length), δ.ce ++ [.exc x.cls x.fs]⟩ with
  | nx δ2 => rw [hq] at h; obtain ⟨h1, h2⟩ := h; dsimp only; rw [if_pos h1]; exact h2
  | rt s δ2 => rw [hq] at h; obtain ⟨h1, h2⟩ := h; dsimp only; rw [if_pos h1]; exact h2
  | bk δ2 => rw [hq] at h; exact h.elim
  | ct δ2 => rw [hq] at h; exact h.elim
  | ex x δ2 => rw [hq] at h; exact h.elim
  | bad => rw [hq] at h; exact h.elim
theorem s_xf {x fld : Str} (h : (a δ).sat (fun s δ1 => ∃ c t, s = .cl c ∧ δ1.ce[c]? = some (.exc (.own x) [(fld, t)]) ∧ Ψ t δ1) Ξ) : (aXF x fld a δ).sat Ψ Ξ :=
  sat_of_bind (Out.sat_mono h (fun s δ1 ⟨c, t, h0, h1, h2⟩ => by subst h0; dsimp only; rw [h1]; dsimp only; rw [if_pos ⟨rfl, rfl⟩]; exact h2) fun _ _ z => z)
theorem s_isx {tab : Isi} {c : Nat} {t : SV} {k cc : XC} {p : Str × SV} {fs : List (Str × SV)} {d : D} {b : Bool} (h1 : δ.ce[c]? = some (.exc k (p :: fs))) (h2 : dv δ.ce t = some d) (h3 : clsD d = some cc) (h4 : tab.lookup (k, cc) = some b) (h : Ψ (.im (.bl b)) δ) : (isxA tab [.cl c, t] δ).sat Ψ Ξ := by
  unfold isxA
  dsimp only
  rw [h1, h2]
  dsimp only
  rw [h3]
  dsimp only
  rw [h4]
  exact h
end
end Fx

set_option Elab.async false
set_option linter.all false
set_option autoImplicit false
set_option maxRecDepth 100000
set_option maxHeartbeats 2000000
namespace Fx
open PySem L2
/-! ## a list by a comprehension, to be changed -/
def aLcC (it : AI) (g : AG) (t : AT) (e : AE) (vs : List Nat) : AE := fun δ => (it δ).bind fun ds δ1 => if ds.length ≤ 100000 then (match lcL g t e (wipeS δ1.sl vs) ds [] δ1.ce with
  | some (acc, ce) => .ok (.cl ce.length) ⟨δ1.sl, ce ++ [.lst (acc.map SV.im)]⟩
  | none => .bad) else .bad
section
variable {K : PySem.W.Frag} {xs : Xs} {W : WX}
end
section
variable {δ : Sta} {Ψ : SV → Sta → Prop} {Ξ : Xn → Sta → Prop} {e : AE} {t : AT}
theorem s_lcC {it : AI} {g : AG} {vs : List Nat} (J : List D → List CO → Prop) (h : (it δ).sat (fun ds δ1 => ds.length ≤ 100000 ∧ J [] δ1.ce ∧ (∀ d ∈ ds, ∀ acc ce, J acc ce → ∃ δ2, g (.im d) ⟨wipeS δ1.sl vs, ce⟩ = some δ2 ∧ (t δ2).sat (fun b δ2 => (b = true → (e δ2).sat (fun s δ3 => ∃ y ce3, toIm δ3.ce s = some (y, ce3) ∧ J (acc ++ [y]) (cutOr ce ce3)) fun _ _ => False) ∧ (b = false → J acc (cutOr ce δ2.ce))) fun _ _ => False) ∧ ∀ acc ce, J acc ce → acc.length ≤ ds.length → Ψ (.cl ce.length) ⟨δ1.sl, ce ++ [.lst (acc.map SV.im)]⟩) Ξ) : (aLcC it g t e vs δ).sat Ψ Ξ :=
  sat_of_bind (Out.sat_mono h (fun ds δ1 ⟨h0, h1, h2, h3⟩ => by
    rw [if_pos h0]
    obtain ⟨acc, ce, e1, hJ⟩ := s_lcL J ds [] δ1.ce h1 h2
    have hl := lcL_len _ _ _ _ _ e1
    rw [e1]
    exact h3 acc ce hJ (by simpa using hl)) fun _ _ z => z)
end
section
variable {δ : Sta} {Ψ : SV → Sta → Prop} {Ξ : Xn → Sta → Prop} {Φ : Post} {a b e : AE} {r : AA} {ce : List CO} {Ψf : SV → List CO → Prop} {Ξf : Xn → List CO → Prop} {n : Nat}
theorem s_asgIxG (h : (e δ).sat (fun s δ1 => (a δ1).sat (fun z δ2 => (b δ2).sat (fun t δ3 => ∃ c us k j, z = .cl c ∧ δ3.ce[c]? = some (.lst us) ∧ dv δ3.ce t = some (.int k) ∧ ixN us.length k = some j ∧ Φ.nx ⟨δ3.sl, δ3.ce.set c (.lst (us.set j s))⟩) fun _ _ => False) fun _ _ => False) Φ.ex) : (aAsg e (gIx a b) δ).sat Φ :=
  s_asg (Out.sat_mono h (fun s δ1 h1 => by
    cases qa : a δ1 with
    | ok z δ2 =>
      rw [qa] at h1
      have h1 : (b δ2).sat (fun t δ3 => ∃ c us k j, z = .cl c ∧ δ3.ce[c]? = some (.lst us) ∧ dv δ3.ce t = some (.int k) ∧ ixN us.length k = some j ∧ Φ.nx ⟨δ3.sl, δ3.ce.set c (.lst (us.set j s))⟩) (fun _ _ => False) := h1
      cases qb : b δ2 with
      | ok t δ3 =>
        rw [qb] at h1
        obtain ⟨c, us, k, j, rfl, e2, e3, e4, h2⟩ := h1
        refine ⟨_, ?_, h2⟩
        unfold gIx
        rw [qa]; dsimp only; rw [qb]; dsimp only; rw [e2, e3]; dsimp only; rw [e4]
      | ex y δ3 => rw [qb] at h1; exact h1.elim
      | bad => rw [qb] at h1; exact h1.elim
    | ex y δ3 => rw [qa] at h1; exact h1.elim
    | bad => rw [qa] at h1; exact h1.elim) fun _ _ z => z)
theorem s_makeX {x : Str} {F : Fn} {dds : List D} (h : (r δ).sat (fun ss δ1 => (SV.cl δ1.ce.length :: (ss ++ dds.map SV.im)).length = n ∧ (F (.cl δ1.ce.length :: (ss ++ dds.map SV.im)) (δ1.ce ++ [.ins x []])).sat (fun s ce => s = .im .non ∧ ∃ d ce1 ce2, frz ce δ1.ce.length = some (d, ce1) ∧ cutTo δ1.ce ce1 = some ce2 ∧ Ψ (.im d) ⟨δ1.sl, ce2⟩) fun y ce => ∃ ce2, cutTo δ1.ce ce = some ce2 ∧ (y.fs.all fun p => p.2.bnd ce2.length) = true ∧ Ξ y ⟨δ1.sl, ce2⟩) Ξ) : (aMake x n F dds r δ).sat Ψ Ξ :=
  sat_of_bind (Out.sat_mono h (fun ss δ1 ⟨h0, h1⟩ => by
    rw [if_pos h0]
    cases q : F (.cl δ1.ce.length :: (ss ++ dds.map SV.im)) (δ1.ce ++ [.ins x []]) with
    | ok s ce =>
      rw [q] at h1
      obtain ⟨rfl, d, ce1, ce2, e1, e2, h2⟩ := h1
      dsimp only; rw [e1]; dsimp only; rw [e2]; exact h2
    | ex y ce =>
      rw [q] at h1
      obtain ⟨ce2, e1, e2, h2⟩ := h1
      dsimp only; rw [e1]; dsimp only; rw [if_pos e2]; exact h2
    | bad => rw [q] at h1; exact h1.elim) fun _ _ z => z)
theorem s_ixK {tabs : Tabs} {c : Nat} {z : Str} {kvs : List (Key × SV)} {d : D} (hc : δ.ce[c]? = some (.dic kvs)) (hi : lookC kvs (.inr z) = some (.im d)) (h : Ψ (.im d) δ) : (ixA tabs (.cl c) (.im (.str z)) δ).sat Ψ Ξ := by
  unfold ixA
  simp only [dv]
  rw [hc]
  dsimp only [keyOf]
  rw [hi]
  exact h
theorem lc_filt {g : AG} {t : AT} {e : AE} {sl : List SV} {ce : List CO} (p : D → Bool) (f : D → D) : ∀ (ds acc : List D), (∀ d ∈ ds, ∃ δ1, g (.im d) ⟨sl, ce⟩ = some δ1 ∧ (t δ1).sat (fun b δ2 => b = p d ∧ δ2.ce = ce ∧ (b = true → (e δ2).sat (fun s δ3 => s = .im (f d) ∧ δ3.ce = ce) fun _ _ => False)) fun _ _ => False) → lcL g t e sl ds acc ce = some (acc ++ (ds.filter p).map f, ce)
  | [], acc, _ => by simp [lcL]
  | d :: ds, acc, h => by
    obtain ⟨δ1, e1, h1⟩ := h d List.mem_cons_self
    have hc : cutOr ce ce = ce := by unfold cutOr; rw [cutTo_self]
    have ih := fun acc => lc_filt p f ds acc fun d hd => h d (List.mem_cons_of_mem _ hd)
    unfold lcL
    rw [e1]
    dsimp only
    cases q : t δ1 with
    | ok b δ2 =>
      rw [q] at h1
      obtain ⟨hb, h2, h3⟩ := h1
      dsimp only
      cases b with
      | true =>
        obtain ⟨δ3, e3, e4⟩ := eq_of_sat (h3 rfl)
        rw [if_pos rfl, e3]
        dsimp only [toIm]
        rw [e4, hc, ih (acc ++ [f d]), List.filter_cons_of_pos hb.symm]
        simp
      | false =>
        rw [if_neg (by decide), h2, hc, ih acc, List.filter_cons_of_neg (by rw [← hb]; decide)]
    | ex x δ2 => rw [q] at h1; exact h1.elim
    | bad => rw [q] at h1; exact h1.elim
theorem s_lcF {it : AI} {g : AG} {t : AT} {vs : List Nat} (p : D → Bool) (f : D → D) (h : (it δ).sat (fun ds δ1 => ds.length ≤ 100000 ∧ (∀ d ∈ ds, ∃ δ2, g (.im d) ⟨wipeS δ1.sl vs, δ1.ce⟩ = some δ2 ∧ (t δ2).sat (fun b δ3 => b = p d ∧ δ3.ce = δ1.ce ∧ (b = true → (e δ3).sat (fun s δ4 => s = .im (f d) ∧ δ4.ce = δ1.ce) fun _ _ => False)) fun _ _ => False) ∧ Ψ (.im (.lst ((ds.filter p).map f))) δ1) Ξ) : (aLc it g t e vs δ).sat Ψ Ξ :=
  sat_of_bind (Out.sat_mono h (fun ds δ1 ⟨h0, h1, h2⟩ => by
    rw [if_pos h0, lc_filt p f ds [] h1]
    exact h2) fun _ _ z => z)
theorem s_lcCM {it : AI} {g : AG} {vs : List Nat} (f : D → D) (h : (it δ).sat (fun ds δ1 => ds.length ≤ 100000 ∧ (∀ d ∈ ds, ∃ δ2, g (.im d) ⟨wipeS δ1.sl vs, δ1.ce⟩ = some δ2 ∧ (e δ2).sat (fun s δ3 => s = .im (f d) ∧ δ3.ce = δ1.ce) fun _ _ => False) ∧ Ψ (.cl δ1.ce.length) ⟨δ1.sl, δ1.ce ++ [.lst ((ds.map f).map SV.im)]⟩) Ξ) : (aLcC it g aYes e vs δ).sat Ψ Ξ :=
  sat_of_bind (Out.sat_mono h (fun ds δ1 ⟨h0, h1, h2⟩ => by
    rw [if_pos h0, lc_map f ds [] h1]
    exact h2) fun _ _ z => z)
theorem exF_sat {x : Xn} {ce' ce2 : List CO} (hc : cutTo ce ce' = some ce2) (hb : (x.fs.all fun p => p.2.bnd ce2.length) = true) (h : Ξf x ce2) : (exF ce x ce').sat Ψf Ξf := by
  unfold exF
  rw [hc]
  dsimp only
  rw [if_pos hb]
  exact h
end
end Fx

set_option Elab.async false
set_option linter.all false
set_option autoImplicit false
set_option maxRecDepth 100000
set_option maxHeartbeats 4000000
namespace Fx
open PySem PySem.Spec PyProof.Rows L2
/-! ## == and != by an own __eq__, str by an own __str__ -/
theorem RoomG.in1 {k : Nat} {A : Around} (r : RoomG (k + 1) A) : RoomG k A.in1 := ⟨r.r.in1, r.gd⟩
section
variable {prog : Program} {w : World} {A : Around} {E : Value → Shared → Prop} {s : Shared} {K : PySem.W.Frag} {x C f : Addr} {ox : Obj} {od : Option Obj} {b tb : Value}
open PySem.W Builtin in
open PySem.W Builtin in
open PySem.W in
end
/-- classes with an own __eq__ -/
structure GE (P : Program) (w : World) (K : PySem.W.Frag) (mg : Str → Option Value) (base : Heap) (k : Nat) (tab : MTab) : Prop where
  ex : ∀ C n F, tab.lookup C = some (n, F) → ∃ (f : Addr) (fd : FuncData) (ps : List Str), Meth K (He.ga K C) "__eq__" f ∧ PySem.W.findIn K (.ref (He.ga K C)) "__ne__" = some (some (.builtin "object.__ne__")) ∧ PySem.W.mroIn K (He.ga K C) (.type "object") = some true ∧ FnG P w K mg base (CX P w) k f fd ps (spFn K n F) ∧ Binds K fd ps []
section
variable {X : Cx} {P : Program} {w : World} {K : PySem.W.Frag} {mg : Str → Option Value} {base : Heap} {k : Nat} {tab : MTab}
/-- classes with an own __str__ -/
structure GS (P : Program) (w : World) (K : PySem.W.Frag) (mg : Str → Option Value) (base : Heap) (k : Nat) (tab : MTab) : Prop where
  ex : ∀ C n F, tab.lookup C = some (n, F) → ∃ (f : Addr) (fd : FuncData) (ps : List Str), Meth K (He.ga K C) "__str__" f ∧ FnG P w K mg base (CX P w) k f fd ps (spFn K n F) ∧ Binds K fd ps []
end
end Fx

set_option Elab.async false
set_option linter.all false
set_option autoImplicit false
set_option maxRecDepth 100000
set_option maxHeartbeats 4000000
namespace Fx
open PySem PySem.Spec PyProof.Rows L2
/-! ## classmethods; cls(..) -/
structure GC (P : Program) (w : World) (K : PySem.W.Frag) (mg : Str → Option Value) (base : Heap) (C m : Str) (n k : Nat) (F : Fn) : Prop where
  ex : ∃ (p f : Addr) (fd : FuncData) (ps : List Str), ClX.CRead K (He.ga K C) (.type "type") ∧ ClX.CMet K (He.ga K C) (.type "type") m p f ∧ FnG P w K mg base (CX P w) k f fd ps (spFn K n F) ∧ Binds K fd ps []
section
variable {X : Cx} {P : Program} {w : World} {K : PySem.W.Frag} {mg : Str → Option Value} {base : Heap} {k n i : Nat} {F : Fn} {dds : List D} {x m y : Str} {C : Str} {p pos apos : Pos} {e o : Expr} {es : List Expr} {t : TA} {ta : TE} {W : WX}
end
end Fx

set_option Elab.async false
set_option linter.all false
set_option autoImplicit false
set_option maxRecDepth 100000
set_option maxHeartbeats 4000000
namespace Fx
open PySem PySem.Spec PyProof.Rows L2
/-! ## errors whose context is None; raise .. from None in a suite -/
section
variable {X : Cx} {C fI : Addr} {x fld : Str}
end
/-- a class whose __init__ raises with no context -/
structure GKN (P : Program) (w : World) (K : PySem.W.Frag) (mg : Str → Option Value) (base : Heap) (x : Str) (n : Nat) (dds : List D) (k : Nat) (F : Fn) : Prop where
  ex : ∃ (f : Addr) (fd : FuncData) (ps : List Str) (ds : List Value) (dvs : List V), FnG P w K mg base (L2N.CX P w) k f fd ps (spFn K n F) ∧ Mk K (He.ga K x) f ∧ mg x = some (.ref (He.ga K x)) ∧ Binds K fd ps ds ∧ Vals dvs ds ∧ ∀ I, RepL K I dds dvs
theorem CXN.cx {P : Program} {w : World} {outer : List Env} {H : Hp} {s : Shared} {E : XK} {u : Value} {s' : Shared} (c : L2N.CX P w outer H s E u s') : L2.CX P w outer H s E u s' := by
  obtain ⟨a, B, H', cls, d, e, fl, r⟩ := c
  exact ⟨a, B, H', cls, d, e, L2H.flyingZ_imp (fun o z => z.zc) fl, r⟩
theorem FnG.ofN {P : Program} {w : World} {K : PySem.W.Frag} {mg : Str → Option Value} {base : Heap} {k : Nat} {f : Addr} {fd : FuncData} {ps : List Str} {sp : Sp} (F : FnG P w K mg base (L2N.CX P w) k f fd ps sp) : FnG P w K mg base (L2.CX P w) k f fd ps sp :=
  ⟨F.len, fun A outer s H args us vs Q E hr e0 hb r h => codeAny_mono (F.run A outer s H args us vs Q E hr e0 hb r h) fun r s' hq => by
    cases r with
    | error e => exact CXN.cx hq
    | ok fl => cases fl <;> exact hq⟩
theorem GKN.gk {P : Program} {w : World} {K : PySem.W.Frag} {mg : Str → Option Value} {base : Heap} {x : Str} {n : Nat} {dds : List D} {k : Nat} {F : Fn} (G : GKN P w K mg base x n dds k F) : GK P w K mg base x n dds k F := by
  obtain ⟨f, fd, ps, ds, dvs, Fo, r⟩ := G.ex
  exact ⟨f, fd, ps, ds, dvs, Fo.ofN, r⟩
section
variable {X : Cx} {P : Program} {w : World} {K : PySem.W.Frag} {mg : Str → Option Value} {base : Heap} {k n i : Nat} {F : Fn} {dds : List D} {x y : Str} {p pos : Pos} {e : Expr} {es : List Expr} {t : TA} {W : WX}
end
section
variable {P : Program} {w : World} {K : PySem.W.Frag} {mg : Str → Option Value} {base : Heap} {x qual : Str} {params : Arguments} {body : List Stmt} {scope : Scope} {dvs : List V} {kws : List (Str × V)} {f : Addr} {fd : FuncData}
end
end Fx

set_option Elab.async false
set_option linter.all false
set_option autoImplicit false
set_option maxRecDepth 100000
set_option maxHeartbeats 2000000
namespace Fx
open PySem PySem.Spec PyProof.Rows L2
/-! ## own ==, own str, classmethods, cls(..), calls that do not raise, a suite that raises, as outcomes -/
def ok0 (sl : List SV) : Out (List CO) SV → O SV
  | .ok s ce => .ok s ⟨sl, ce⟩
  | _ => .bad
def aCall0 (n : Nat) (F : Fn) (dds : List D) (r : AA) : AE := fun δ => (r δ).bind fun ss δ1 => if (ss ++ dds.map SV.im).length = n then ok0 δ1.sl (F (ss ++ dds.map SV.im) δ1.ce) else .bad
def aMeth0 (tab : MTab) (m : Str) (a : AE) (r : AA) : AE := fun δ => (a δ).bind fun s δ1 => match clsS δ1 m s with
  | some C => (match tab.lookup C with
    | some (n, F) => (r δ1).bind fun ss δ2 => if (s :: ss).length = n then ok0 δ2.sl (F (s :: ss) δ2.ce) else .bad
    | none => .bad)
  | none => .bad
def eqX (tab : MTab) (isi : Isi) (nf : List XC) (neg : Bool) (f : D → D → Option D) : AOp := fun s t δ => match clsS δ "__eq__" s with
  | some C => (match tab.lookup C, kindS δ t with
    | some (n, F), some k => if n = 2 ∧ nf.contains k = true ∧ (isi.lookup (k, .blt "int")).isSome = true then (match F [s, t] δ.ce with
      | .ok (.im (.bl b)) ce => .ok (.im (.bl (b != neg))) ⟨δ.sl, ce⟩
      | _ => .bad) else .bad
    | _, _ => .bad)
  | none => dOp f s t δ
def strX (tab : MTab) : ACB := fun ss δ => match ss with
  | [s] => (match clsS δ "__str__" s with
    | some C => (match tab.lookup C with
      | some (n, F) => if n = 1 then (match F [s] δ.ce with
        | .ok (.im (.str z)) ce => .ok (.im (.str z)) ⟨δ.sl, ce⟩
        | _ => .bad) else .bad
      | none => .bad)
    | none => dCB1 strD [s] δ)
  | _ => .bad
def aCM (C : Str) (n : Nat) (F : Fn) (r : AA) : AE := fun δ => (r δ).bind fun ss δ1 => if (SV.im (.glo C) :: ss).length = n then out1 δ1.sl (F (.im (.glo C) :: ss) δ1.ce) else .bad
def aMakeL (i : Nat) (x : Str) (n : Nat) (F : Fn) (dds : List D) (r : AA) : AE := fun δ => match δ.sl[i]? with
  | some (.im (.glo y)) => if y = x then aMake x n F dds r δ else .bad
  | _ => .bad
def aTryF (tab : List (XC × Bool)) (Y fld : Str) (dc : D) (body : AS) : AS := fun δ => match body δ with
  | .ex x δ1 => (match tab.lookup x.cls with
    | some true => .ex ⟨.own Y, [(fld, .im dc)]⟩ δ1
    | some false => .ex x δ1
    | none => .bad)
  | o => o
section
variable {K : PySem.W.Frag} {xs : Xs} {W : WX} {ta : TE} {a : AE} {tr : TA} {r : AA} {n : Nat} {F : Fn} {dds : List D}
structure NfOk (K : PySem.W.Frag) (tab : MTab) (nf : List XC) : Prop where
  go : ∀ C nF k, tab.lookup C = some nF → nf.contains k = true → PySem.W.notFirst K (He.ga K C) (k.v K) = true
end
end Fx

set_option Elab.async false
set_option linter.all false
set_option autoImplicit false
set_option maxRecDepth 100000
set_option maxHeartbeats 2000000
namespace Fx
open PySem PySem.Spec PyProof.Rows L2
/-! ## lists changed by pop and insert, a split that is changed, [*x, ..], in of a table of the top -/
def popA : ABM := fun s ss δ => match s, ss with
  | .cl c, [t] => (match δ.ce[c]?, dv δ.ce t with
    | some (.lst us), some (.int i) => if 0 ≤ i ∧ i < us.length ∧ us.length < 1000000 then (match us[i.toNat]? with
      | some u => .ok (nrm δ.ce u) ⟨δ.sl, δ.ce.set c (.lst (us.eraseIdx i.toNat))⟩
      | none => .bad) else .bad
    | _, _ => .bad)
  | _, _ => .bad
def insertA : ABM := fun s ss δ => match s, ss with
  | .cl c, [t, u] => (match δ.ce[c]?, dv δ.ce t with
    | some (.lst us), some (.int i) => if 0 ≤ i ∧ i < 1000000 ∧ us.length < 100000 then .ok (.im .non) ⟨δ.sl, δ.ce.set c (.lst (us.take i.toNat ++ [u] ++ us.drop i.toNat))⟩ else .bad
    | _, _ => .bad)
  | _, _ => .bad
def splitC : ABM := fun s ss δ => match ss with
  | [t] => (match dv δ.ce s, dv δ.ce t with
    | some (.str a), some (.str b) => if a.length ≤ 1000000 ∧ (b.length == 0) = false then .ok (.cl δ.ce.length) ⟨δ.sl, δ.ce ++ [.lst ((Txt.split a b).map fun z => .im (.str z))]⟩ else .bad
    | _, _ => .bad)
  | _ => .bad
def aStar (a : AE) (r : AA) : AA := fun δ => (a δ).bind fun s δ1 => match s with
  | .im (.lst ds) => (r δ1).bind fun ss δ2 => .ok (ds.map SV.im ++ ss) δ2
  | .im (.tup ds) => (r δ1).bind fun ss δ2 => .ok (ds.map SV.im ++ ss) δ2
  | _ => .bad
def inG (tabs : Tabs) (neg : Bool) (f : D → D → Option D) : AOp := fun s t δ => match t with
  | .im (.glo x) => (match tabs.lookup x, dv δ.ce s with
    | some kvs, some (.str z) => .ok (.im (.bl ((kvs.lookup z).isSome != neg))) δ
    | _, _ => .bad)
  | _ => dOp f s t δ
def rInsert : V → List V → Hp → VK → Prop := fun x vs H Q => ∃ (l : Addr) (xs : List V) (i : Int) (y : V), x = .ref l ∧ vs = [.int i, y] ∧ H l = some (.lst xs) ∧ xs.length < sizeLine ∧ 0 ≤ i ∧ i < 2 ^ 63 ∧ Q .non (upd H l (.lst (xs.take i.toNat ++ [y] ++ xs.drop i.toNat)))
theorem mtr_insert {X : Cx} : MtR X "list.insert" rInsert := mt_insert
theorem mtr_popAt {X : Cx} : MtR X "list.pop" rPopAt := mt_popAt
section
variable {K : PySem.W.Frag} {xs : Xs} {W : WX} {I : Hp} {as : List Addr}
theorem rvl_take : ∀ {us : List SV} {vs : List V} (n : Nat), RVL K I as us vs → RVL K I as (us.take n) (vs.take n)
  | [], vs, n, h => by cases (show vs = [] from h); simp; exact rfl
  | u :: us, _, 0, _ => by simp; exact rfl
  | u :: us, _, n + 1, ⟨v, r, e, h1, h2⟩ => by subst e; exact ⟨v, _, rfl, h1, rvl_take n h2⟩
theorem rvl_drop : ∀ {us : List SV} {vs : List V} (n : Nat), RVL K I as us vs → RVL K I as (us.drop n) (vs.drop n)
  | [], vs, n, h => by cases (show vs = [] from h); simp; exact rfl
  | u :: us, _, 0, h => by simpa using h
  | u :: us, _, n + 1, ⟨v, r, e, h1, h2⟩ => by subst e; exact rvl_drop n h2
theorem rvl_at : ∀ {us : List SV} {vs : List V} {n : Nat} {u : SV}, RVL K I as us vs → us[n]? = some u → ∃ v, vs[n]? = some v ∧ RV K I as u v
  | u :: us, _, 0, w, ⟨v, r, e, h1, h2⟩, q => by subst e; cases q; exact ⟨v, rfl, h1⟩
  | u :: us, _, n + 1, w, ⟨v, r, e, h1, h2⟩, q => by subst e; exact rvl_at (n := n) h2 q
theorem ok_pop : MtOk K xs "list" rPopAt popA := fun fr s ss δ Ψ Ξ h => by
  intro σ I as H Q v vs r rv rvs cc
  unfold popA at h
  split at h
  · rename_i c t
    split at h
    · rename_i us i qc qt
      split at h
      · rename_i hi
        split at h
        · rename_i u qu
          obtain ⟨a, ha, rfl⟩ := rv
          obtain ⟨w, _, rfl, hw, rfl⟩ := rvs
          obtain ⟨hn, ws, hh, ra⟩ := r.cells c _ a qc ha
          cases (show w = .int i from r.dv qt hw)
          obtain ⟨y, qy, ry⟩ := rvl_at ra qu
          have hl : ws.length = us.length := ra.length
          refine ⟨a, ws, i, i.toNat, y, rfl, rfl, hh, by omega, by omega, ?_, qy, ?_⟩
          · unfold seqIndex?
            have h1 : ¬ i < 0 := by omega
            have h2 : i < (ws.length : Int) := by omega
            simp [h1, hi.1, h2]
          · refine cc (nrm δ.ce u) _ y I as _ (r.setC (co := .lst (us.eraseIdx i.toNat)) qc rfl ha ⟨hn, _, upd_same, ?_⟩ rfl) (Le.refl I as) (nrm_rv r ry) h
            rw [List.eraseIdx_eq_take_drop_succ, List.eraseIdx_eq_take_drop_succ]
            exact rvl_app (rvl_take _ ra) (rvl_drop _ ra)
        · exact h.elim
      · exact h.elim
    · exact h.elim
  · exact h.elim
theorem ok_insert : MtOk K xs "list" rInsert insertA := fun fr s ss δ Ψ Ξ h => by
  intro σ I as H Q v vs r rv rvs cc
  unfold insertA at h
  split at h
  · rename_i c t u
    split at h
    · rename_i us i qc qt
      split at h
      · rename_i hi
        obtain ⟨a, ha, rfl⟩ := rv
        obtain ⟨w, _, rfl, hw, w2, _, rfl, hw2, rfl⟩ := rvs
        obtain ⟨hn, ws, hh, ra⟩ := r.cells c _ a qc ha
        cases (show w = .int i from r.dv qt hw)
        have hl : ws.length = us.length := ra.length
        refine ⟨a, ws, i, w2, rfl, rfl, hh, by rw [hl]; exact Nat.lt_of_lt_of_le hi.2.2 (by rw [sizeLine_eq]; decide), hi.1, by omega, ?_⟩
        refine cc (.im .non) _ _ I as _ (r.setC (co := .lst (us.take i.toNat ++ [u] ++ us.drop i.toNat)) qc rfl ha ⟨hn, _, upd_same, ?_⟩ rfl) (Le.refl I as) rfl h
        exact rvl_app (rvl_app (rvl_take _ ra) ⟨_, _, rfl, hw2, rfl⟩) (rvl_drop _ ra)
      · exact h.elim
    · exact h.elim
  · exact h.elim
/-- tables that hold no other keys -/
structure TabAll (K : PySem.W.Frag) (w : World) (tabs : Tabs) : Prop where
  go : ∀ x kvs, tabs.lookup x = some kvs → ∃ es n, KDict K w (He.ga K x) es n ∧ ∀ z, ∃ r, PySem.W.nsIn K (He.ga K x) z = some r ∧ r.isSome = (kvs.lookup z).isSome
end
end Fx

set_option Elab.async false
set_option linter.all false
set_option autoImplicit false
set_option maxRecDepth 100000
set_option maxHeartbeats 2000000
namespace Fx
open PySem PySem.W PySem.HandSPX L2
/-! ## a head's facts with classmethods' defs -/
structure SaysZ (fa : List He.Fa) (fn : List He.DefD) (ts : List He.Tab) (tf : List He.Defn) (ex : Frag → Bool) (fz : List He5.DefA) (w : World) (h : Heap) (K : Frag) : Prop where
  x : He.SaysX fa fn ts tf ex w h K
  z : ∀ d ∈ fz, ∃ fd, L2.FunD K d.name d.qual d.params d.body d.scope (d.dvs K) (d.kws K) (d.at_ K) fd
/-! ## .. of own ==, classmethods, whole tables -/
end Fx

set_option Elab.async false
set_option linter.all false
set_option autoImplicit false
set_option maxRecDepth 100000
set_option maxHeartbeats 2000000
namespace Fx
open PySem PySem.Spec PyProof.Rows L2
/-! ## dicts compared -/
def allD' (ls ks : List (Key × D)) : Bool := ks.all fun p => match lookD ls p.1 with
  | some v => eqF p.2 v
  | none => false
def flatK (ls ks : List (Key × D)) : Bool := ks.all fun p => flatD p.2 && (match lookD ls p.1 with
  | some v => flatD v
  | none => false)
def eqK (neg : Bool) (f : D → D → Option D) : AOp := fun s t δ => match dv δ.ce s, dv δ.ce t with
  | some (.dic ks), some (.dic ls) => if ks.length = ls.length ∧ flatK ls ks = true then .ok (.im (.bl (allD' ls ks != neg))) δ else .bad
  | _, _ => dOp f s t δ
section
variable {K : PySem.W.Frag} {xs : Xs}
end
end Fx

set_option Elab.async false
set_option linter.all false
set_option autoImplicit false
set_option maxRecDepth 100000
set_option maxHeartbeats 2000000
namespace Fx
open PySem PySem.Spec PyProof.Rows L2
/-! ## words and blanks -/
end Fx

set_option Elab.async false
set_option linter.all false
set_option autoImplicit false
set_option maxRecDepth 100000
set_option maxHeartbeats 2000000
namespace Fx
open PySem PySem.Spec PyProof.Rows L2
/-! ## plain steps -/
section
variable {δ : Sta} {Ψ : SV → Sta → Prop} {Ξ : Xn → Sta → Prop} {Ψl : List SV → Sta → Prop} {Φ : Post} {a b e : AE} {r : AA} {p : AS} {n : Nat}
theorem ok0_sat {sl : List SV} {o : Out (List CO) SV} (h : o.sat (fun s ce => Ψ s ⟨sl, ce⟩) fun _ _ => False) : (ok0 sl o).sat Ψ Ξ := by
  cases o with
  | ok s ce => exact h
  | ex x ce => exact h.elim
  | bad => exact h.elim
theorem s_call0 {F : Fn} {dds : List D} (h : (r δ).sat (fun ss δ1 => (ss ++ dds.map SV.im).length = n ∧ (F (ss ++ dds.map SV.im) δ1.ce).sat (fun s ce => Ψ s ⟨δ1.sl, ce⟩) (fun _ _ => False)) Ξ) : (aCall0 n F dds r δ).sat Ψ Ξ :=
  sat_of_bind (Out.sat_mono h (fun ss δ1 ⟨h0, h1⟩ => by rw [if_pos h0]; exact ok0_sat h1) fun _ _ z => z)
theorem s_meth0 {tab : MTab} {m : Str} (h : (a δ).sat (fun s δ1 => ∃ C n F, clsS δ1 m s = some C ∧ tab.lookup C = some (n, F) ∧ (r δ1).sat (fun ss δ2 => (s :: ss).length = n ∧ (F (s :: ss) δ2.ce).sat (fun s ce => Ψ s ⟨δ2.sl, ce⟩) (fun _ _ => False)) Ξ) Ξ) : (aMeth0 tab m a r δ).sat Ψ Ξ :=
  sat_of_bind (Out.sat_mono h (fun s δ1 ⟨C, n, F, h1, h2, h3⟩ => by
    rw [h1]; dsimp only; rw [h2]; dsimp only
    exact sat_of_bind (Out.sat_mono h3 (fun ss δ2 ⟨h4, h5⟩ => by rw [if_pos h4]; exact ok0_sat h5) fun _ _ z => z)) fun _ _ z => z)
theorem s_cm {C : Str} {F : Fn} (h : (r δ).sat (fun ss δ1 => (SV.im (.glo C) :: ss).length = n ∧ (F (.im (.glo C) :: ss) δ1.ce).sat (fun s ce => Ψ s ⟨δ1.sl, ce⟩) (fun x ce => Ξ x ⟨δ1.sl, ce⟩)) Ξ) : (aCM C n F r δ).sat Ψ Ξ :=
  sat_of_bind (Out.sat_mono h (fun ss δ1 ⟨h0, h1⟩ => by
    rw [if_pos h0]
    cases q : F (.im (.glo C) :: ss) δ1.ce <;> rw [q] at h1 <;> exact h1) fun _ _ z => z)
theorem s_makeL {i : Nat} {x : Str} {F : Fn} {dds : List D} (hi : δ.sl[i]? = some (.im (.glo x))) (h : (aMake x n F dds r δ).sat Ψ Ξ) : (aMakeL i x n F dds r δ).sat Ψ Ξ := by
  unfold aMakeL
  rw [hi]
  dsimp only
  rw [if_pos rfl]
  exact h
theorem s_tryF {tab : List (XC × Bool)} {Y fld : Str} {dc : D} (h : (p δ).sat { Φ with ex := fun x δ1 => (tab.lookup x.cls = some true ∧ Φ.ex ⟨.own Y, [(fld, .im dc)]⟩ δ1) ∨ (tab.lookup x.cls = some false ∧ Φ.ex x δ1) }) : (aTryF tab Y fld dc p δ).sat Φ := by
  unfold aTryF
  cases hq : p δ with
  | ex x δ1 =>
    rw [hq] at h
    have h : (tab.lookup x.cls = some true ∧ Φ.ex ⟨.own Y, [(fld, .im dc)]⟩ δ1) ∨ (tab.lookup x.cls = some false ∧ Φ.ex x δ1) := h
    dsimp only
    rcases h with ⟨e, h⟩ | ⟨e, h⟩ <;> rw [e] <;> exact h
  | _ => rw [hq] at h; exact h
theorem s_eqXo {tab : MTab} {isi : Isi} {nf : List XC} {neg : Bool} {f : D → D → Option D} {s t : SV} {C : Str} {F : Fn} {k : XC} (h1 : clsS δ "__eq__" s = some C) (h2 : tab.lookup C = some (2, F)) (h3 : kindS δ t = some k) (h4 : nf.contains k = true) (h5 : (isi.lookup (k, .blt "int")).isSome = true)
    (h : (F [s, t] δ.ce).sat (fun z ce => ∃ c, z = .im (.bl c) ∧ Ψ (.im (.bl (c != neg))) ⟨δ.sl, ce⟩) fun _ _ => False) : (eqX tab isi nf neg f s t δ).sat Ψ Ξ := by
  unfold eqX
  rw [h1]; dsimp only; rw [h2, h3]; dsimp only; rw [if_pos ⟨rfl, h4, h5⟩]
  cases q : F [s, t] δ.ce with
  | ok z ce => rw [q] at h; obtain ⟨c, rfl, h⟩ := h; exact h
  | ex x ce => rw [q] at h; exact h.elim
  | bad => rw [q] at h; exact h.elim
theorem s_eqXd {tab : MTab} {isi : Isi} {nf : List XC} {neg : Bool} {f : D → D → Option D} {s t : SV} (h1 : clsS δ "__eq__" s = none) (h : (dOp f s t δ).sat Ψ Ξ) : (eqX tab isi nf neg f s t δ).sat Ψ Ξ := by
  unfold eqX
  rw [h1]
  exact h
theorem s_strXo {tab : MTab} {s : SV} {C : Str} {F : Fn} (h1 : clsS δ "__str__" s = some C) (h2 : tab.lookup C = some (1, F)) (h : (F [s] δ.ce).sat (fun z ce => ∃ c, z = .im (.str c) ∧ Ψ (.im (.str c)) ⟨δ.sl, ce⟩) fun _ _ => False) : (strX tab [s] δ).sat Ψ Ξ := by
  unfold strX
  dsimp only
  rw [h1]; dsimp only; rw [h2]; dsimp only; rw [if_pos rfl]
  cases q : F [s] δ.ce with
  | ok z ce => rw [q] at h; obtain ⟨c, rfl, h⟩ := h; exact h
  | ex x ce => rw [q] at h; exact h.elim
  | bad => rw [q] at h; exact h.elim
theorem s_star (h : (a δ).sat (fun s δ1 => ∃ ds, (s = .im (.lst ds) ∨ s = .im (.tup ds)) ∧ (r δ1).sat (fun ss δ2 => Ψl (ds.map SV.im ++ ss) δ2) Ξ) Ξ) : (aStar a r δ).sat Ψl Ξ :=
  sat_of_bind (Out.sat_mono h (fun s δ1 ⟨ds, h0, h1⟩ => by
    rcases h0 with rfl | rfl <;> exact sat_of_bind h1) fun _ _ z => z)
theorem s_inG {tabs : Tabs} {neg : Bool} {f : D → D → Option D} {x z : Str} {kvs : List (Str × D)} (h1 : tabs.lookup x = some kvs) (h : Ψ (.im (.bl ((kvs.lookup z).isSome != neg))) δ) : (inG tabs neg f (.im (.str z)) (.im (.glo x)) δ).sat Ψ Ξ := by
  unfold inG
  dsimp only [dv]
  rw [h1]
  exact h
theorem s_pop {c : Nat} {us : List SV} {i : Int} {u : SV} (hc : δ.ce[c]? = some (.lst us)) (hi : 0 ≤ i ∧ i < us.length ∧ us.length < 1000000) (hu : us[i.toNat]? = some u) (h : Ψ (nrm δ.ce u) ⟨δ.sl, δ.ce.set c (.lst (us.eraseIdx i.toNat))⟩) : (popA (.cl c) [.im (.int i)] δ).sat Ψ Ξ := by
  unfold popA
  dsimp only [dv]
  rw [hc]
  dsimp only
  rw [if_pos hi, hu]
  exact h
theorem s_insert {c : Nat} {us : List SV} {i : Int} {u : SV} (hc : δ.ce[c]? = some (.lst us)) (hi : 0 ≤ i ∧ i < 1000000 ∧ us.length < 100000) (h : Ψ (.im .non) ⟨δ.sl, δ.ce.set c (.lst (us.take i.toNat ++ [u] ++ us.drop i.toNat))⟩) : (insertA (.cl c) [.im (.int i), u] δ).sat Ψ Ξ := by
  unfold insertA
  dsimp only [dv]
  rw [hc]
  dsimp only
  rw [if_pos hi]
  exact h
theorem s_splitC {x y : Str} (hx : x.length ≤ 1000000) (hy : (y.length == 0) = false) (h : Ψ (.cl δ.ce.length) ⟨δ.sl, δ.ce ++ [.lst ((Txt.split x y).map fun z => .im (.str z))]⟩) : (splitC (.im (.str x)) [.im (.str y)] δ).sat Ψ Ξ := by
  unfold splitC
  dsimp only [dv]
  rw [if_pos ⟨hx, hy⟩]
  exact h
theorem s_eqK {neg : Bool} {f : D → D → Option D} {s t : SV} {ks ls : List (Key × D)} (h1 : dv δ.ce s = some (.dic ks)) (h2 : dv δ.ce t = some (.dic ls)) (h3 : ks.length = ls.length ∧ flatK ls ks = true) (h : Ψ (.im (.bl (allD' ls ks != neg))) δ) : (eqK neg f s t δ).sat Ψ Ξ := by
  unfold eqK
  rw [h1, h2]
  dsimp only
  rw [if_pos h3]
  exact h
end
end Fx

set_option Elab.async false
set_option linter.all false
set_option autoImplicit false
set_option maxRecDepth 100000
set_option maxHeartbeats 2000000
namespace Fx
open PySem L2
/-! ## a def sees the cells that it is handed, and no others -/
def cellsS (ce : List CO) : SV → List Nat
  | .cl c => match ce[c]? with
    | some (.fz _) => []
    | _ => [c]
  | _ => []
def cellsL (ce : List CO) : List SV → List Nat
  | [] => []
  | s :: r => cellsS ce s ++ cellsL ce r
def cellsO (ce : List CO) : CO → List Nat
  | .lst xs => cellsL ce xs
  | .tup xs => cellsL ce xs
  | .dic kvs => cellsL ce (kvs.map (·.2))
  | .ins _ fs => cellsL ce (fs.map (·.2))
  | .exc _ fs => cellsL ce (fs.map (·.2))
  | _ => []
def addNew (ix : List Nat) : List Nat → List Nat
  | [] => ix
  | c :: r => addNew (if ix.contains c then ix else ix ++ [c]) r
def cellsI (ce : List CO) : List Nat → List Nat
  | [] => []
  | c :: r => (match ce[c]? with
    | some o => cellsO ce o
    | none => []) ++ cellsI ce r
def reach (ce : List CO) : Nat → List Nat → List Nat
  | 0, ix => ix
  | n + 1, ix => if (addNew ix (cellsI ce ix)).length = ix.length then ix else reach ce n (addNew ix (cellsI ce ix))
def posOf : List Nat → Nat → Option Nat
  | [], _ => none
  | d :: r, c => if d = c then some 0 else (posOf r c).map (· + 1)
def inS (ce : List CO) (ix : List Nat) : SV → Option SV
  | .no => none
  | .im d => some (.im d)
  | .cl c => match ce[c]? with
    | some (.fz d) => some (.im d)
    | _ => (posOf ix c).map .cl
def inL (ce : List CO) (ix : List Nat) : List SV → Option (List SV)
  | [] => some []
  | s :: r => match inS ce ix s, inL ce ix r with
    | some s', some r' => some (s' :: r')
    | _, _ => none
def inK {α : Type} (ce : List CO) (ix : List Nat) : List (α × SV) → Option (List (α × SV))
  | [] => some []
  | (k, s) :: r => match inS ce ix s, inK ce ix r with
    | some s', some r' => some ((k, s') :: r')
    | _, _ => none
def inO (ce : List CO) (ix : List Nat) : CO → Option CO
  | .lst xs => (inL ce ix xs).map .lst
  | .tup xs => (inL ce ix xs).map .tup
  | .dic kvs => (inK ce ix kvs).map .dic
  | .ins C fs => (inK ce ix fs).map (.ins C)
  | .exc C fs => (inK ce ix fs).map (.exc C)
  | .fz d => some (.fz d)
  | .dead => some .dead
def inC (ce : List CO) (ix : List Nat) : List Nat → Option (List CO)
  | [] => some []
  | c :: r => match ce[c]? with
    | some o => (match inO ce ix o, inC ce ix r with
      | some o', some r' => some (o' :: r')
      | _, _ => none)
    | none => none
def bkI (ix : List Nat) (n i : Nat) : Nat := match ix[i]? with
  | some c => c
  | none => n + (i - ix.length)
def outS (ix : List Nat) (n : Nat) : SV → SV
  | .cl i => .cl (bkI ix n i)
  | s => s
def outK {α : Type} (ix : List Nat) (n : Nat) (l : List (α × SV)) : List (α × SV) := l.map fun p => (p.1, outS ix n p.2)
def outO (ix : List Nat) (n : Nat) : CO → CO
  | .lst xs => .lst (xs.map (outS ix n))
  | .tup xs => .tup (xs.map (outS ix n))
  | .dic kvs => .dic (outK ix n kvs)
  | .ins C fs => .ins C (outK ix n fs)
  | .exc C fs => .exc C (outK ix n fs)
  | .fz d => .fz d
  | .dead => .dead
def setAll (ix0 : List Nat) (n : Nat) : List CO → List Nat → List CO → List CO
  | ce, c :: r, o :: os => setAll ix0 n (ce.set c (outO ix0 n o)) r os
  | ce, [], o :: os => ce ++ (o :: os).map (outO ix0 n)
  | ce, _, [] => ce
def wrB (ix : List Nat) (ce ce' : List CO) : List CO := setAll ix ce.length ce ix ce'
def reachA (ss : List SV) (ce : List CO) : List Nat := reach ce ce.length (addNew [] (cellsL ce ss))
def outF (ix : List Nat) (ce : List CO) : Out (List CO) SV → Out (List CO) SV
  | .ok s ce' => .ok (outS ix ce.length s) (wrB ix ce ce')
  | .ex x ce' => .ex ⟨x.cls, outK ix ce.length x.fs⟩ (wrB ix ce ce')
  | .bad => .bad
def loc (F : Fn) : Fn := fun ss ce => match inL ce (reachA ss ce) ss, inC ce (reachA ss ce) (reachA ss ce) with
  | some ss0, some ce0 => outF (reachA ss ce) ce (F ss0 ce0)
  | _, _ => .bad
/-! plain facts -/
theorem addNew_nodup : ∀ (l ix : List Nat), ix.Nodup → (addNew ix l).Nodup
  | [], ix, h => h
  | c :: r, ix, h => by
    unfold addNew
    refine addNew_nodup r _ ?_
    split
    · exact h
    · rename_i hc
      refine List.nodup_append.mpr ⟨h, by simp, fun a ha b hb => ?_⟩
      rw [List.mem_singleton.mp hb]
      exact fun z => hc (by rw [← z]; simpa using ha)
theorem reach_nodup (ce : List CO) : ∀ (n : Nat) (ix : List Nat), ix.Nodup → (reach ce n ix).Nodup
  | 0, _, h => h
  | n + 1, ix, h => by
    unfold reach
    split
    · exact h
    · exact reach_nodup ce n _ (addNew_nodup _ _ h)
theorem reachA_nodup (ss : List SV) (ce : List CO) : (reachA ss ce).Nodup := reach_nodup _ _ _ (addNew_nodup _ _ List.nodup_nil)
theorem posOf_get : ∀ {ix : List Nat} {c i : Nat}, posOf ix c = some i → ix[i]? = some c
  | [], _, _, h => by cases h
  | d :: r, c, i, h => by
    unfold posOf at h
    split at h
    · rename_i e; cases h; subst e; rfl
    · cases q : posOf r c with
      | none => rw [q] at h; cases h
      | some j =>
        rw [q] at h
        obtain rfl : j + 1 = i := Option.some.inj h
        exact posOf_get (ix := r) q
theorem nodup_ix : ∀ {l : List Nat}, l.Nodup → ∀ {i j c : Nat}, l[i]? = some c → l[j]? = some c → i = j
  | [], _, i, j, c, h, _ => by simp at h
  | x :: r, hn, 0, 0, c, _, _ => rfl
  | x :: r, hn, 0, j + 1, c, h, k => by
    simp at h k
    exact absurd (List.mem_of_getElem? k) (by rw [← h]; exact (List.nodup_cons.mp hn).1)
  | x :: r, hn, i + 1, 0, c, h, k => by
    simp at h k
    exact absurd (List.mem_of_getElem? h) (by rw [← k]; exact (List.nodup_cons.mp hn).1)
  | x :: r, hn, i + 1, j + 1, c, h, k => by
    rw [nodup_ix (List.nodup_cons.mp hn).2 (i := i) (j := j) (c := c) (by simpa using h) (by simpa using k)]
theorem setAll_get (ix0 : List Nat) (n : Nat) : ∀ (ix : List Nat) (ce ce' : List CO) (c : Nat) (o : CO), (setAll ix0 n ce ix ce')[c]? = some o → ix.length ≤ ce'.length → (∀ d ∈ ix, d < ce.length) → ix.Nodup →
    (c ∉ ix ∧ ce[c]? = some o) ∨ (∃ i o', ce'[i]? = some o' ∧ o = outO ix0 n o' ∧ ((ix[i]? = some c) ∨ (ix.length ≤ i ∧ c = ce.length + (i - ix.length))))
  | c0 :: r, ce, o0 :: os, c, o, h, hl, hb, hn => by
    unfold setAll at h
    have hn' := List.nodup_cons.mp hn
    rcases setAll_get ix0 n r _ os c o h (by simpa using hl) (fun d hd => by rw [List.length_set]; exact hb d (List.mem_cons_of_mem _ hd)) hn'.2 with ⟨h1, h2⟩ | ⟨i, o', h1, h2, h3⟩
    · by_cases hc : c0 = c
      · subst hc
        rw [List.getElem?_set_self (hb c0 List.mem_cons_self)] at h2
        exact .inr ⟨0, o0, rfl, (Option.some.inj h2).symm, .inl rfl⟩
      · rw [List.getElem?_set_ne hc] at h2
        exact .inl ⟨fun z => by rcases List.mem_cons.mp z with z | z; exact hc z.symm; exact h1 z, h2⟩
    · refine .inr ⟨i + 1, o', by simpa using h1, h2, ?_⟩
      rcases h3 with h3 | ⟨h3, h4⟩
      · exact .inl (by simpa using h3)
      · refine .inr ⟨by simpa using h3, ?_⟩
        rw [List.length_set] at h4
        rw [h4]; simp
  | [], ce, o0 :: os, c, o, h, hl, hb, hn => by
    unfold setAll at h
    rcases Nat.lt_or_ge c ce.length with hc | hc
    · rw [List.getElem?_append_left hc] at h
      exact .inl ⟨by simp, h⟩
    · rw [List.getElem?_append_right hc, List.getElem?_map] at h
      cases q : (o0 :: os)[c - ce.length]? with
      | none => rw [q] at h; cases h
      | some o' =>
        rw [q] at h
        exact .inr ⟨c - ce.length, o', q, (Option.some.inj h).symm, .inr ⟨by simp, by simp; omega⟩⟩
  | [], ce, [], c, o, h, hl, hb, hn => by unfold setAll at h; exact .inl ⟨by simp, h⟩
  | c0 :: r, ce, [], c, o, h, hl, hb, hn => by simp at hl
theorem setAll_len (ix0 : List Nat) (n : Nat) : ∀ (ix : List Nat) (ce ce' : List CO), ix.length ≤ ce'.length → (setAll ix0 n ce ix ce').length = ce.length + (ce'.length - ix.length)
  | c0 :: r, ce, o0 :: os, hl => by
    unfold setAll
    rw [setAll_len ix0 n r _ os (by simpa using hl), List.length_set]
    simp
  | [], ce, o0 :: os, hl => by unfold setAll; simp
  | [], ce, [], hl => by unfold setAll; simp
  | c0 :: r, ce, [], hl => by simp at hl
theorem inC_get {ce : List CO} {ix : List Nat} : ∀ {jx : List Nat} {ce0 : List CO}, inC ce ix jx = some ce0 → jx.length = ce0.length ∧ ∀ (i : Nat) (o0 : CO), ce0[i]? = some o0 → ∃ c o, jx[i]? = some c ∧ ce[c]? = some o ∧ inO ce ix o = some o0
  | [], ce0, h => by cases h; exact ⟨rfl, fun i o0 h => by simp at h⟩
  | c :: r, ce0, h => by
    unfold inC at h
    split at h
    · rename_i o q
      split at h
      · rename_i o' r' q1 q2
        cases h
        obtain ⟨h1, h2⟩ := inC_get q2
        refine ⟨by simp [h1], fun i o0 hi => ?_⟩
        cases i with
        | zero => simp at hi; subst hi; exact ⟨c, o, rfl, q, q1⟩
        | succ i =>
          obtain ⟨c', o'', g1, g2, g3⟩ := h2 i o0 (by simpa using hi)
          exact ⟨c', o'', by simpa using g1, g2, g3⟩
      · cases h
    · cases h
theorem inO_live {ce : List CO} {ix : List Nat} {o o0 : CO} (h : inO ce ix o = some o0) : o0.live = o.live := by
  cases o <;> simp only [inO, Option.map_eq_some_iff] at h <;> first | (obtain ⟨_, _, rfl⟩ := h; rfl) | (cases h; rfl)
theorem outO_live {ix : List Nat} {n : Nat} (o : CO) : (outO ix n o).live = o.live := by cases o <;> rfl
section
variable {K : PySem.W.Frag} {xs : Xs} {fr : Hp} {ce : List CO} {I : Hp} {as : List Addr} {H : Hp}
theorem RV.inn {ix : List Nat} {as0 : List Addr} (r : R K ⟨xs, fr⟩ ⟨[], ce⟩ [] I as H) (ha : ∀ i c : Nat, ix[i]? = some c → as0[i]? = as[c]?) {s s0 : SV} {v : V} (h : inS ce ix s = some s0) (rv : RV K I as s v) : RV K I as0 s0 v := by
  cases s with
  | no => cases h
  | im d => cases h; exact rv
  | cl c =>
    obtain ⟨a, h1, rfl⟩ := rv
    unfold inS at h
    dsimp only at h
    split at h
    · rename_i d q
      cases h
      exact r.cells c _ a q h1
    · cases q : posOf ix c with
      | none => rw [q] at h; cases h
      | some i =>
        rw [q] at h
        cases h
        exact ⟨a, by rw [ha i c (posOf_get q)]; exact h1, rfl⟩
theorem RVL.inn {ix : List Nat} {as0 : List Addr} (r : R K ⟨xs, fr⟩ ⟨[], ce⟩ [] I as H) (ha : ∀ i c : Nat, ix[i]? = some c → as0[i]? = as[c]?) : ∀ {s s0 : List SV} {v : List V}, inL ce ix s = some s0 → RVL K I as s v → RVL K I as0 s0 v
  | [], s0, v, h, rv => by cases h; exact rv
  | s :: ss, s0, v, h, ⟨x, y, h1, h2, h3⟩ => by
    unfold inL at h
    split at h
    · rename_i s' r' q1 q2
      cases h
      exact ⟨x, y, h1, h2.inn r ha q1, RVL.inn r ha q2 h3⟩
    · cases h
theorem RVK.inn {ix : List Nat} {as0 : List Addr} (r : R K ⟨xs, fr⟩ ⟨[], ce⟩ [] I as H) (ha : ∀ i c : Nat, ix[i]? = some c → as0[i]? = as[c]?) : ∀ {s s0 : List (Key × SV)} {v : List (Key × V)}, inK ce ix s = some s0 → RVK K I as s v → RVK K I as0 s0 v
  | [], s0, v, h, rv => by cases h; exact rv
  | (k, s) :: ss, s0, v, h, ⟨x, y, h1, h2, h3⟩ => by
    unfold inK at h
    split at h
    · rename_i s' r' q1 q2
      cases h
      exact ⟨x, y, h1, h2.inn r ha q1, RVK.inn r ha q2 h3⟩
    · cases h
theorem RVF.inn {ix : List Nat} {as0 : List Addr} (r : R K ⟨xs, fr⟩ ⟨[], ce⟩ [] I as H) (ha : ∀ i c : Nat, ix[i]? = some c → as0[i]? = as[c]?) : ∀ {s s0 : List (Str × SV)} {v : List (Str × V)}, inK ce ix s = some s0 → RVF K I as s v → RVF K I as0 s0 v
  | [], s0, v, h, rv => by cases h; exact rv
  | (k, s) :: ss, s0, v, h, ⟨x, y, h1, h2, h3⟩ => by
    unfold inK at h
    split at h
    · rename_i s' r' q1 q2
      cases h
      exact ⟨x, y, h1, h2.inn r ha q1, RVF.inn r ha q2 h3⟩
    · cases h
theorem CellOk.inn {ix : List Nat} {as0 : List Addr} {fr' : Hp} (r : R K ⟨xs, fr⟩ ⟨[], ce⟩ [] I as H) (ha : ∀ i c : Nat, ix[i]? = some c → as0[i]? = as[c]?) {a : Addr} {o o0 : CO} (h : inO ce ix o = some o0) (c : CellOk K ⟨xs, fr⟩ I as H a o) : CellOk K ⟨xs, fr'⟩ I as0 H a o0 := by
  cases o with
  | lst l =>
    obtain ⟨l', q, rfl⟩ := Option.map_eq_some_iff.mp h
    obtain ⟨c1, vs, c2, c3⟩ := c
    exact ⟨c1, vs, c2, c3.inn r ha q⟩
  | tup l =>
    obtain ⟨l', q, rfl⟩ := Option.map_eq_some_iff.mp h
    obtain ⟨c1, vs, c2, c3⟩ := c
    exact ⟨c1, vs, c2, c3.inn r ha q⟩
  | dic l =>
    obtain ⟨l', q, rfl⟩ := Option.map_eq_some_iff.mp h
    obtain ⟨c1, vs, c2, c3⟩ := c
    exact ⟨c1, vs, c2, c3.inn r ha q⟩
  | ins C l =>
    obtain ⟨l', q, rfl⟩ := Option.map_eq_some_iff.mp h
    obtain ⟨c1, dx, vs, c2, c3⟩ := c
    exact ⟨c1, dx, vs, c2, c3.inn r ha q⟩
  | exc C l =>
    obtain ⟨l', q, rfl⟩ := Option.map_eq_some_iff.mp h
    obtain ⟨d, c1, c2⟩ := c
    refine ⟨d, c1, ?_⟩
    cases d with
    | none =>
      have : l = [] := c2
      subst this
      cases q
      rfl
    | some d =>
      obtain ⟨vs, c3, c4⟩ := c2
      exact ⟨vs, c3, c4.inn r ha q⟩
  | fz d => cases h; exact c
  | dead => cases h; trivial
theorem RV.out {ix : List Nat} {n : Nat} {as' as2 : List Addr} (ha : ∀ (i : Nat) (x : Addr), as'[i]? = some x → as2[bkI ix n i]? = some x) {s : SV} {v : V} (rv : RV K I as' s v) : RV K I as2 (outS ix n s) v := by
  cases s with
  | no => exact rv
  | im d => exact rv
  | cl c =>
    obtain ⟨a, h1, rfl⟩ := rv
    exact ⟨a, ha c a h1, rfl⟩
theorem RVL.out {ix : List Nat} {n : Nat} {as' as2 : List Addr} (ha : ∀ (i : Nat) (x : Addr), as'[i]? = some x → as2[bkI ix n i]? = some x) : ∀ {s : List SV} {v : List V}, RVL K I as' s v → RVL K I as2 (s.map (outS ix n)) v
  | [], _, rv => rv
  | s :: ss, _, ⟨x, y, h1, h2, h3⟩ => ⟨x, y, h1, h2.out ha, RVL.out ha h3⟩
theorem RVK.out {ix : List Nat} {n : Nat} {as' as2 : List Addr} (ha : ∀ (i : Nat) (x : Addr), as'[i]? = some x → as2[bkI ix n i]? = some x) : ∀ {s : List (Key × SV)} {v : List (Key × V)}, RVK K I as' s v → RVK K I as2 (outK ix n s) v
  | [], _, rv => rv
  | (_, s) :: ss, _, ⟨x, y, h1, h2, h3⟩ => ⟨x, y, h1, h2.out ha, RVK.out ha h3⟩
theorem RVF.out {ix : List Nat} {n : Nat} {as' as2 : List Addr} (ha : ∀ (i : Nat) (x : Addr), as'[i]? = some x → as2[bkI ix n i]? = some x) : ∀ {s : List (Str × SV)} {v : List (Str × V)}, RVF K I as' s v → RVF K I as2 (outK ix n s) v
  | [], _, rv => rv
  | (_, s) :: ss, _, ⟨x, y, h1, h2, h3⟩ => ⟨x, y, h1, h2.out ha, RVF.out ha h3⟩
theorem XRel.out {ix : List Nat} {n : Nat} {as' as2 : List Addr} (ha : ∀ (i : Nat) (x : Addr), as'[i]? = some x → as2[bkI ix n i]? = some x) {fs : List (Str × SV)} : ∀ {d : Option Addr}, XRel K I as' fs d → XRel K I as2 (outK ix n fs) d
  | none, h => by rw [show fs = [] from h]; rfl
  | some _, ⟨vs, h1, h2⟩ => ⟨vs, h1, h2.out ha⟩
theorem CellOk.out {ix : List Nat} {n : Nat} {as' as2 : List Addr} {fr' : Hp} (ha : ∀ (i : Nat) (x : Addr), as'[i]? = some x → as2[bkI ix n i]? = some x) {a : Addr} {o : CO} (c : CellOk K ⟨xs, fr'⟩ I as' H a o) : CellOk K ⟨xs, fr⟩ I as2 H a (outO ix n o) := by
  cases o with
  | lst l => obtain ⟨c1, vs, c2, c3⟩ := c; exact ⟨c1, vs, c2, c3.out ha⟩
  | tup l => obtain ⟨c1, vs, c2, c3⟩ := c; exact ⟨c1, vs, c2, c3.out ha⟩
  | dic l => obtain ⟨c1, vs, c2, c3⟩ := c; exact ⟨c1, vs, c2, c3.out ha⟩
  | ins C l => obtain ⟨c1, dx, vs, c2, c3⟩ := c; exact ⟨c1, dx, vs, c2, c3.out ha⟩
  | exc C l => obtain ⟨d, c1, c2⟩ := c; exact ⟨d, c1, c2.out ha⟩
  | fz d => exact c
  | dead => trivial
open Classical in
theorem spFn_loc {n : Nat} {F : Fn} {vs : List V} {Q : VK} {E : XK} (h : spFn K n (loc F) vs H Q E) : spFn K n F vs H Q E := by
  obtain ⟨hl, xs, fr, ss, ce, as, I, r, rv, e⟩ := h
  refine ⟨hl, ?_⟩
  unfold loc at e
  generalize hix : reachA ss ce = ix at e
  have nd : ix.Nodup := by rw [← hix]; exact reachA_nodup _ _
  cases q1 : inL ce ix ss with
  | none => rw [q1] at e; exact e.go.elim
  | some ss0 =>
    cases q2 : inC ce ix ix with
    | none => rw [q1, q2] at e; exact e.go.elim
    | some ce0 =>
      rw [q1, q2] at e
      dsimp only at e
      obtain ⟨cl, cg⟩ := inC_get q2
      have al : as.length = ce.length := r.clen
      have ib : ∀ d ∈ ix, d < ce.length := fun d hd => by
        obtain ⟨i, hi⟩ := List.getElem?_of_mem hd
        obtain ⟨o0, ho⟩ := get_of_lt (l := ce0) (c := i) (by rw [← cl]; exact lt_of_get hi)
        obtain ⟨c, o, g1, g2, _⟩ := cg i o0 ho
        rw [hi] at g1; cases g1
        exact lt_of_get g2
      let as0 : List Addr := ix.map fun c => (as[c]?).getD 0
      have ha0 : ∀ i c : Nat, ix[i]? = some c → as0[i]? = as[c]? := fun i c hi => by
        obtain ⟨a, ha⟩ := get_of_lt (l := as) (c := c) (by rw [al]; exact ib c (List.mem_of_getElem? hi))
        show (ix.map fun c => (as[c]?).getD 0)[i]? = _
        rw [List.getElem?_map, hi, ha]
        simp [ha]
      let P : Addr → Prop := fun a => ∃ (c : Nat) (o : CO), ce[c]? = some o ∧ as[c]? = some a ∧ o.live = true ∧ c ∉ ix
      let fr' : Hp := fun a => if P a then H a else fr a
      have frP : ∀ a, P a → fr' a = H a := fun a ha => if_pos ha
      have frN : ∀ a, ¬ P a → fr' a = fr a := fun a ha => if_neg ha
      have frK : ∀ a u, fr a = some u → ¬ P a := fun a u hu ⟨c, o, g1, g2, g3, g4⟩ => by
        have := r.cf c o a g1 g2 g3
        rw [show fr a = none from this] at hu; cases hu
      have notP : ∀ (i c : Nat) (o : CO) (a : Addr), ix[i]? = some c → ce[c]? = some o → as[c]? = some a → o.live = true → ¬ P a := fun i c o a hi hc hac hlv ⟨c', o', g1, g2, g3, g4⟩ => by
        have := r.inj c c' o o' a hc g1 hlv g3 hac g2
        subst this
        exact g4 (List.mem_of_getElem? hi)
      have r0 : R K ⟨xs, fr'⟩ ⟨[], ce0⟩ [] I as0 H := by
        refine ⟨fun a u hu => ?_, fun i o0 a hi hai hlv => ?_, fun a u hu => ?_, r.ih, rfl, fun i s h => by simp at h, ?_, fun i o0 a hi hai => ?_, fun i i' o0 o0' a hi hi' l1 l2 h1 h2 => ?_⟩
        · by_cases hp : P a
          · exact (frP a hp).symm.trans hu
          · exact r.fh a u ((frN a hp).symm.trans hu)
        · obtain ⟨c, o, g1, g2, g3⟩ := cg i o0 hi
          rw [inO_live g3] at hlv
          rw [ha0 i c g1] at hai
          show fr' a = none
          rw [frN a (notP i c o a g1 g2 hai hlv)]
          exact r.cf c o a g2 hai hlv
        · by_cases hp : P a
          · obtain ⟨c, o, g1, g2, g3, g4⟩ := hp
            exact (CellOk.free g3 (r.cells c o a g1 g2)).1
          · exact r.fi a u ((frN a hp).symm.trans hu)
        · show (ix.map _).length = ce0.length
          rw [List.length_map, cl]
        · obtain ⟨c, o, g1, g2, g3⟩ := cg i o0 hi
          rw [ha0 i c g1] at hai
          exact CellOk.inn r ha0 g3 (r.cells c o a g2 hai)
        · obtain ⟨c, o, g1, g2, g3⟩ := cg i o0 hi
          obtain ⟨c', o', g1', g2', g3'⟩ := cg i' o0' hi'
          rw [ha0 i c g1] at h1
          rw [ha0 i' c' g1'] at h2
          rw [inO_live g3] at l1
          rw [inO_live g3'] at l2
          have := r.inj c c' o o' a g2 g2' l1 l2 h1 h2
          subst this
          exact nodup_ix nd g1 g1'
      have back : ∀ {ce' : List CO} {I' : Hp} {as' : List Addr} {H' : Hp}, R K ⟨xs, fr'⟩ ⟨[], ce'⟩ [] I' as' H' → Le I as0 I' as' →
          ∃ as2, R K ⟨xs, fr⟩ ⟨[], wrB ix ce ce'⟩ [] I' as2 H' ∧ Le I as I' as2 ∧ ∀ (i : Nat) (x : Addr), as'[i]? = some x → as2[bkI ix ce.length i]? = some x := by
        intro ce' I' as' H' r' le
        have ll : ix.length ≤ ce'.length := by
          have := le_len (δ := ⟨[], ce0⟩) r0 r' le
          rw [cl]; exact this
        have al' : as'.length = ce'.length := r'.clen
        have hb : ∀ (i : Nat) (x : Addr), as'[i]? = some x → (as ++ as'.drop ix.length)[bkI ix ce.length i]? = some x := fun i x hx => by
          unfold bkI
          cases hi : ix[i]? with
          | some c =>
            dsimp only
            have hc : c < as.length := by rw [al]; exact ib c (List.mem_of_getElem? hi)
            rw [List.getElem?_append_left hc]
            obtain ⟨y, hy⟩ := get_of_lt hc
            have := le.a i y (by rw [ha0 i c hi]; exact hy)
            rw [this] at hx; cases hx
            exact hy
          | none =>
            dsimp only
            have : ix.length ≤ i := by simpa using hi
            rw [List.getElem?_append_right (by omega), List.getElem?_drop]
            rw [show ix.length + (ce.length + (i - ix.length) - as.length) = i by omega]
            exact hx
        have leA : Le I as I' (as ++ as'.drop ix.length) := ⟨le.i, fun c x h => by rw [List.getElem?_append_left (lt_of_get h)]; exact h⟩
        have wg : ∀ (c : Nat) (o : CO) (a : Addr), (wrB ix ce ce')[c]? = some o → (as ++ as'.drop ix.length)[c]? = some a → (c ∉ ix ∧ ce[c]? = some o ∧ as[c]? = some a) ∨ (∃ i o', ce'[i]? = some o' ∧ o = outO ix ce.length o' ∧ as'[i]? = some a ∧ c = bkI ix ce.length i) := fun c o a h1 h2 => by
          rcases setAll_get ix ce.length ix ce ce' c o h1 ll ib nd with ⟨g1, g2⟩ | ⟨i, o', g1, g2, g3⟩
          · rw [List.getElem?_append_left (by rw [al]; exact lt_of_get g2)] at h2
            exact .inl ⟨g1, g2, h2⟩
          · have hc : c = bkI ix ce.length i := by
              unfold bkI
              rcases g3 with g3 | ⟨g3, g4⟩
              · rw [g3]
              · rw [List.getElem?_eq_none g3]; exact g4
            obtain ⟨y, hy⟩ := get_of_lt (l := as') (c := i) (by rw [al']; exact lt_of_get g1)
            have := hb i y hy
            rw [← hc, h2] at this
            cases this
            exact .inr ⟨i, o', g1, g2, hy, hc⟩
        have frLe : ∀ a u, fr a = some u → fr' a = some u := fun a u hu => by rw [frN a (frK a u hu)]; exact hu
        refine ⟨as ++ as'.drop ix.length, ⟨fun a u hu => r'.fh a u (frLe a u hu), fun c o a h1 h2 hlv => ?_, fun a u hu => r'.fi a u (frLe a u hu), r'.ih, rfl, fun i s h => by simp at h, ?_, fun c o a h1 h2 => ?_, fun c c' o o' a h1 h1' l1 l2 h2 h2' => ?_⟩, leA, hb⟩
        · rcases wg c o a h1 h2 with ⟨g1, g2, g3⟩ | ⟨i, o', g1, rfl, g3, _⟩
          · exact r.cf c o a g2 g3 hlv
          · rw [outO_live] at hlv
            have z : fr' a = none := r'.cf i o' a g1 g3 hlv
            cases hq : fr a with
            | none => exact hq
            | some u => rw [show fr' a = some u from frLe a u hq] at z; cases z
        · show (as ++ as'.drop ix.length).length = (wrB ix ce ce').length
          unfold wrB
          rw [setAll_len _ _ _ _ _ ll, List.length_append, List.length_drop, al, al']
        · rcases wg c o a h1 h2 with ⟨g1, g2, g3⟩ | ⟨i, o', g1, rfl, g3, _⟩
          · refine CellOk.mono (r.cells c o a g2 g3) leA (fun hlv => ?_) (fun hlv u hu => ?_)
            · obtain ⟨_, u, hu⟩ := CellOk.free hlv (r.cells c o a g2 g3)
              exact r'.fi a u ((frP a ⟨c, o, g2, g3, hlv, g1⟩).trans hu)
            · exact r'.fh a u ((frP a ⟨c, o, g2, g3, hlv, g1⟩).trans hu)
          · exact CellOk.out hb (r'.cells i o' a g1 g3)
        · have nn : ∀ (c : Nat) (o : CO) (i : Nat) (o' : CO), c ∉ ix → ce[c]? = some o → as[c]? = some a → o.live = true → ce'[i]? = some o' → as'[i]? = some a → o'.live = true → False := fun c o i o' k1 k2 k3 k4 k5 k6 k7 => by
            have z : fr' a = none := r'.cf i o' a k5 k6 k7
            obtain ⟨_, u, hu⟩ := CellOk.free k4 (r.cells c o a k2 k3)
            rw [show fr' a = H a from frP a ⟨c, o, k2, k3, k4, k1⟩, hu] at z
            cases z
          rcases wg c o a h1 h2 with ⟨g1, g2, g3⟩ | ⟨i, o2, g1, rfl, g3, g4⟩
          · rcases wg c' o' a h1' h2' with ⟨f1, f2, f3⟩ | ⟨i', o2', f1, rfl, f3, f4⟩
            · exact r.inj c c' o o' a g2 f2 l1 l2 g3 f3
            · rw [outO_live] at l2
              exact (nn c o i' o2' g1 g2 g3 l1 f1 f3 l2).elim
          · rw [outO_live] at l1
            rcases wg c' o' a h1' h2' with ⟨f1, f2, f3⟩ | ⟨i', o2', f1, rfl, f3, f4⟩
            · exact (nn c' o' i o2 f1 f2 f3 l2 g1 g3 l1).elim
            · rw [outO_live] at l2
              have := r'.inj i i' o2 o2' a g1 f1 l1 l2 g3 f3
              rw [g4, f4, this]
      refine ⟨xs, fr', ss0, ce0, as0, I, r0, rv.inn r ha0 q1, ⟨?_⟩⟩
      have e := e.go
      cases qF : F ss0 ce0 with
      | bad => rw [qF] at e; exact e.elim
      | ok s ce' =>
        rw [qF] at e
        intro v I' as' H' r' le rv'
        obtain ⟨as2, r2, le2, hb⟩ := back r' le
        exact e v I' as2 H' r2 le2 (rv'.out hb)
      | ex x ce' =>
        rw [qF] at e
        intro d I' as' H' r' le xr
        obtain ⟨as2, r2, le2, hb⟩ := back r' le
        exact e d I' as2 H' r2 le2 (xr.out hb)
end
theorem FnG.loc {P : Program} {w : World} {K : PySem.W.Frag} {mg : Str → Option Value} {base : Heap} {CX : CXT} {k n : Nat} {f : Addr} {fd : FuncData} {ps : List Str} {F : Fn} (G : FnG P w K mg base CX k f fd ps (spFn K n F)) : FnG P w K mg base CX k f fd ps (spFn K n (Fx.loc F)) :=
  ⟨fun vs H Q E h => G.len vs H Q E (spFn_loc h), fun A outer s H args us vs Q E hr e0 hb r h => G.run A outer s H args us vs Q E hr e0 hb r (spFn_loc h)⟩
/-- the plain step -/
theorem s_loc {F : Fn} {ss ss0 : List SV} {ce ce0 : List CO} {ix : List Nat} {Ψ : SV → List CO → Prop} {Ξ : Xn → List CO → Prop} (hx : reachA ss ce = ix) (h1 : inL ce ix ss = some ss0) (h2 : inC ce ix ix = some ce0)
    (h : (F ss0 ce0).sat (fun s c => Ψ (outS ix ce.length s) (wrB ix ce c)) (fun x c => Ξ ⟨x.cls, outK ix ce.length x.fs⟩ (wrB ix ce c))) : (loc F ss ce).sat Ψ Ξ := by
  unfold loc
  rw [hx, h1, h2]
  dsimp only
  cases q : F ss0 ce0 <;> rw [q] at h <;> exact h
theorem lc (ix : List Nat) {F : Fn} {ss ss0 : List SV} {ce ce0 : List CO} {Ψ : SV → List CO → Prop} {Ξ : Xn → List CO → Prop} (h : (F ss0 ce0).sat (fun s c => Ψ (outS ix ce.length s) (wrB ix ce c)) (fun x c => Ξ ⟨x.cls, outK ix ce.length x.fs⟩ (wrB ix ce c)))
    (hx : reachA ss ce = ix := by rfl) (h1 : inL ce ix ss = some ss0 := by rfl) (h2 : inC ce ix ix = some ce0 := by rfl) : (loc F ss ce).sat Ψ Ξ := s_loc hx h1 h2 h
theorem lq (ix : List Nat) {F : Fn} {ss ss0 : List SV} {ce ce0 : List CO} {Ψ : SV → List CO → Prop} {Ξ : Xn → List CO → Prop} (hx : reachA ss ce = ix) (h1 : inL ce ix ss = some ss0) (h2 : inC ce ix ix = some ce0)
    (h : (F ss0 ce0).sat (fun s c => Ψ (outS ix ce.length s) (wrB ix ce c)) (fun x c => Ξ ⟨x.cls, outK ix ce.length x.fs⟩ (wrB ix ce c))) : (loc F ss ce).sat Ψ Ξ := s_loc hx h1 h2 h
theorem reachA_im {ss : List SV} {ce : List CO} (h : cellsL ce ss = []) : reachA ss ce = [] := by
  unfold reachA
  rw [h]
  show reach ce ce.length [] = []
  cases ce.length with
  | zero => rfl
  | succ n => rfl
/-- data in, data out -/
theorem loc_im {F : Fn} {ss : List SV} {ce : List CO} {d : D} (h : F ss [] = .ok (.im d) []) (h1 : cellsL ce ss = [] := by rfl) (h2 : inL ce [] ss = some ss := by rfl) : loc F ss ce = .ok (.im d) ce := by
  unfold loc
  rw [reachA_im h1, h2]
  show outF [] ce (F ss []) = _
  rw [h]
  rfl
theorem s_loc0 {F : Fn} {ss : List SV} {ce : List CO} {Ψ : SV → List CO → Prop} {Ξ : Xn → List CO → Prop} (h : (F ss []).sat (fun s c => Ψ (outS [] ce.length s) (wrB [] ce c)) (fun x c => Ξ ⟨x.cls, outK [] ce.length x.fs⟩ (wrB [] ce c))) (h1 : cellsL ce ss = [] := by rfl) (h2 : inL ce [] ss = some ss := by rfl) : (loc F ss ce).sat Ψ Ξ :=
  s_loc (reachA_im h1) h2 rfl h
end Fx

set_option Elab.async false
set_option linter.all false
set_option autoImplicit false
set_option maxRecDepth 100000
set_option maxHeartbeats 2000000
namespace Fx
open PySem PySem.Spec PyProof.Rows L2
/-! ## loops by what is left -/
theorem s_forLR {g : AG} {p : AS} {Φ : Post} (J : List D → Sta → Prop) : ∀ (ds : List D) (δ : Sta), J ds δ → (∀ d ds δ, J (d :: ds) δ → ∃ δ', g (.im d) δ = some δ' ∧ (p δ').sat { Φ with nx := J ds, ct := J ds, bk := Φ.nx }) → (∀ δ, J [] δ → Φ.nx δ) → (forL g p ds δ).sat Φ
  | [], δ, h0, _, h2 => h2 δ h0
  | d :: ds, δ, h0, h1, h2 => by
    obtain ⟨δ', e, h⟩ := h1 d ds δ h0
    refine s_forL1 ⟨δ', e, ?_⟩
    cases q : p δ' with
    | nx δ2 => rw [q] at h; exact s_forLR J ds δ2 h h1 h2
    | ct δ2 => rw [q] at h; exact s_forLR J ds δ2 h h1 h2
    | bk δ2 => rw [q] at h; exact h
    | rt s δ2 => rw [q] at h; exact h
    | ex x δ2 => rw [q] at h; exact h
    | bad => rw [q] at h; exact h
theorem rt_F {ce ce' : List CO} {s : SV} {sl : List SV} {Ψf : SV → List CO → Prop} {Ξf : Xn → List CO → Prop} (h : (retF ce s ce').sat Ψf Ξf) : (defP ce Ψf Ξf).rt s ⟨sl, ce'⟩ := h
end Fx

set_option Elab.async false
set_option linter.all false
set_option autoImplicit false
set_option maxRecDepth 100000
set_option maxHeartbeats 4000000
namespace Fx
open PySem PySem.Spec PyProof.Rows L2
/-! ## operators by own methods -/
section
variable {prog : Program} {w : World} {A : Around} {E : Value → Shared → Prop} {s : Shared} {K : PySem.W.Frag} {x C f : Addr} {ox : Obj} {od : Option Obj} {b : Value}
open PySem.W in
open PySem.W in
open PySem.W in
end
/-- classes with an own method for an operator -/
structure GO (P : Program) (w : World) (K : PySem.W.Frag) (mg : Str → Option Value) (base : Heap) (nm : Str) (k : Nat) (tab : MTab) : Prop where
  ex : ∀ C n F, tab.lookup C = some (n, F) → ∃ (f : Addr) (fd : FuncData) (ps : List Str), Meth K (He.ga K C) nm f ∧ PySem.W.selfFirst K (He.ga K C) = true ∧ FnG P w K mg base (CX P w) k f fd ps (spFn K n F) ∧ Binds K fd ps []
section
variable {X : Cx} {P : Program} {w : World} {K : PySem.W.Frag} {mg : Str → Option Value} {base : Heap} {k : Nat} {tab : MTab} {a b : Expr} {ta tb : TE} {W : WX} {pos : Pos} {r : R2} {op : Operator}
/-- no class of them has an own form in place -/
structure NoInpl (K : PySem.W.Frag) (op : Operator) (tab : MTab) : Prop where
  go : ∀ C nF, tab.lookup C = some nF → ∀ (M : Model) (h : Heap), K.In h → PySem.W.Looks M h (fillsInplaceSlot (.ref (He.ga K C)) op.info.2 (op == .Add)) false
end
/-! ## isinstance of a tuple of classes -/
def rIsiS (K : PySem.W.Frag) : List V → Hp → VK → Prop := fun xs H Q => ∃ (x : V) (tp : Addr) (cs : List V) (t : Value) (us : List Value) (b : Bool), xs = [x, .ref tp] ∧ SqT K H tp cs ∧ Paired ClsV cs us ∧ TyX K H x t ∧ PySem.W.kitAny K t us = some b ∧ Q (.bl b) H
theorem call_isiS {X : Cx} : CallR X (.builtin "isinstance") (rIsiS X.K) := by
  intro pins s σ H xs us Q I r h
  obtain ⟨x, tp, cs, t, ws, b, rfl, hT, k, ty, e, q⟩ := h
  obtain ⟨u1, u2, rfl, r1, r2⟩ := vals2 r
  cases (show u2 = Value.ref tp from r2)
  obtain ⟨P, Z, p, hx⟩ := kit_of I r1 ty
  rcases hT with (hT | ⟨o, hT⟩) | ⟨o, its, n, h1, h2, h3, _, rv⟩
  · exact call_isiT pins s σ H _ _ Q I r ⟨x, tp, cs, t, ws, b, rfl, hT, k, ty, e, q⟩
  · obtain ⟨_, _, its, rv, o, h1, h2, n, h3⟩ := (show ObjOk X.prog X.w H s.heap tp (.frz o (.tup cs)) from I.hok tp _ hT)
    have e3 := ClsV.all k rv
    subst e3
    obtain ⟨oc, od, dt, sl⟩ := o
    simp only at h2 h3
    subst h2 h3
    exact PySem.W.kia_tup Z I.kIn p h1 e hx fun tk => ⟨.bl b, H, I.tok tk, rfl, q⟩
  · have e3 := ClsV.all k rv
    obtain ⟨oc, od, dt, sl⟩ := o
    simp only at h2 h3
    subst h2 h3
    have hh := I.kIn _ _ h1
    subst e3
    exact PySem.W.kia_tup Z I.kIn p (by simpa using hh) e hx fun tk => ⟨.bl b, H, I.tok tk, rfl, q⟩
end Fx

set_option Elab.async false
set_option linter.all false
set_option autoImplicit false
set_option maxRecDepth 100000
set_option maxHeartbeats 4000000
namespace Fx
open PySem PySem.Spec PyProof.Rows L2
/-! ## own errors without own __init__, made without arguments -/
structure Own0 (K : PySem.W.Frag) (mg : Str → Option Value) (x : Str) : Prop where
  q : PySem.W.excIn K (He.ga K x) [.type "ValueError", .type "Exception", .type "BaseException", .type "object"] "ValueError.__new__" = true
  gC : mg x = some (.ref (He.ga K x))
  kC : PySem.W.keepIn K (.ref (He.ga K x)) = true
  exC : PySem.W.subIn K (.ref (He.ga K x)) (.type "BaseException") = some true
  tyC : PySem.W.typeIn K (.ref (He.ga K x)) = some (.type "type")
section
variable {X : Cx} {x : Str} {p pos pos2 : Pos} {W : WX}
end
/-! ## no own form in place -/
section
open PySem.W
end
end Fx

set_option Elab.async false
set_option linter.all false
set_option autoImplicit false
set_option maxRecDepth 100000
set_option maxHeartbeats 2000000
namespace Fx
open PySem PySem.Spec PyProof.Rows L2
/-! ## isinstance of a tuple of classes -/
def isiL (isi : Isi) (k : XC) : List D → Option Bool
  | [] => some false
  | d :: ds => match clsD d with
    | some c => (match isi.lookup (k, c) with
      | some true => if (ds.all fun d => (clsD d).isSome) = true then some true else none
      | some false => isiL isi k ds
      | none => none)
    | none => none
def isiT (isi : Isi) : ACB := fun ss δ => match ss with
  | [s, t] => (match kindS δ s, imS δ.ce t with
    | some k, some (.tup (d :: ds)) => (match isiL isi k (d :: ds) with
      | some b => .ok (.im (.bl b)) δ
      | none => .bad)
    | _, _ => .bad)
  | _ => .bad
section
variable {K : PySem.W.Frag} {xs : Xs}
theorem cls_of {H : Hp} {d : D} {c : XC} {v : V} (e : clsD d = some c) (h : Rep K H d v) : ClsV v (c.v K) := by
  cases d with
  | ty n => cases e; cases (show v = _ from h); exact .ty n
  | glo x => cases e; cases (show v = _ from h); exact .own _
  | _ => cases e
theorem cls_all {H : Hp} : ∀ {ds : List D} {vs : List V}, (ds.all fun d => (clsD d).isSome) = true → RepL K H ds vs → ∃ us, Paired ClsV vs us
  | [], vs, _, h => by rw [show vs = [] from h]; exact ⟨[], .nil⟩
  | d :: ds, vs, f, ⟨v, r, e, h1, h2⟩ => by
    subst e
    obtain ⟨f1, f2⟩ := and2 (show ((clsD d).isSome && (ds.all fun d => (clsD d).isSome)) = true from f)
    obtain ⟨c, hc⟩ := Option.isSome_iff_exists.mp f1
    obtain ⟨us, p⟩ := cls_all f2 h2
    exact ⟨_, .cons (cls_of hc h1) p⟩
theorem isiL_ok {isi : Isi} (hI : IsiOk K isi) {k : XC} {H : Hp} : ∀ {ds : List D} {vs : List V} {b : Bool}, isiL isi k ds = some b → RepL K H ds vs → ∃ us, Paired ClsV vs us ∧ PySem.W.kitAny K (k.v K) us = some b
  | [], vs, b, e, h => by cases e; rw [show vs = [] from h]; exact ⟨[], .nil, kitAny_nil⟩
  | d :: ds, vs, b, e, ⟨v, r, ev, h1, h2⟩ => by
    subst ev
    unfold isiL at e
    split at e
    · rename_i c hc
      split at e
      · rename_i q
        split at e
        · rename_i f
          cases e
          obtain ⟨us, p⟩ := cls_all f h2
          exact ⟨_, .cons (cls_of hc h1) p, kitAny_cons (hI.kit k c _ q) (fun z => Bool.noConfusion z) fun _ => rfl⟩
        · cases e
      · rename_i q
        obtain ⟨us, p, hk⟩ := isiL_ok hI e h2
        exact ⟨_, .cons (cls_of hc h1) p, kitAny_cons (hI.kit k c _ q) (fun _ => hk) fun z => Bool.noConfusion z⟩
      · cases e
    · cases e
theorem isiL_first {isi : Isi} {k : XC} {d : D} {ds : List D} {b : Bool} (e : isiL isi k (d :: ds) = some b) : ∃ c b0, isi.lookup (k, c) = some b0 := by
  unfold isiL at e
  split at e
  · rename_i c hc
    split at e
    · rename_i q; exact ⟨c, _, q⟩
    · rename_i q; exact ⟨c, _, q⟩
    · cases e
  · cases e
theorem call_isiS' {X : Cx} (hK : X.K = K := by rfl) : CallR X (.builtin "isinstance") (rIsiS K) := by subst hK; exact call_isiS
theorem ok_isiT {isi : Isi} (hI : IsiOk K isi) : CbOk K xs (rIsiS K) (isiT isi) := by
  intro fr ss δ Ψ Ξ h σ I as H Q vs r h1 c
  unfold isiT at h
  split at h
  · obtain ⟨w, _, rfl, hw, w', _, rfl, hw', rfl⟩ := h1
    split at h
    · rename_i k d ds ek ed
      split at h
      · rename_i b q
        obtain ⟨a, us, rfl, ha, ra⟩ := r.imS ed hw'
        obtain ⟨cs, p, hk⟩ := isiL_ok hI q ra
        obtain ⟨c0, b0, q0⟩ := isiL_first q
        exact ⟨w, a, us, _, cs, b, rfl, same_t r.ih ha, p, tyX_S hI r ek q0 hw, hk, c (.im (.bl b)) δ _ I as H r (Le.refl I as) rfl h⟩
      · exact h.elim
    · exact h.elim
  · exact h.elim
end
/-! ## operators by own methods -/
def aOwn (isi : Isi) (tab : MTab) (m : Str) (f : AOp) (a b : AE) : AE := fun δ => (a δ).bind fun s δ1 => (b δ1).bind fun t δ2 => match clsS δ2 m s with
  | some C => (match tab.lookup C, kindS δ2 t with
    | some (n, F), some k => if n = 2 ∧ k = .own C ∧ (isi.lookup (k, .blt "int")).isSome = true then out1 δ2.sl (F [s, t] δ2.ce) else .bad
    | _, _ => .bad)
  | none => f s t δ2
/-- x op= e, by an own method -/
def augOut (isi : Isi) (tab : MTab) (m : Str) (i : Nat) (s t : SV) (δ1 : Sta) : OutS := match clsS δ1 m s with
  | some C => (match tab.lookup C, kindS δ1 t with
    | some (n, F), some k => if n = 2 ∧ k = .own C ∧ (isi.lookup (k, .blt "int")).isSome = true then (match F [s, t] δ1.ce with
      | .ok z ce => .nx ⟨δ1.sl.set i z, ce⟩
      | _ => .bad) else .bad
    | _, _ => .bad)
  | none => .bad
def aAugO (isi : Isi) (tab : MTab) (m : Str) (i : Nat) (e : AE) : AS := fun δ => match δ.sl[i]? with
  | some .no => .bad
  | none => .bad
  | some s => (match e δ with
    | .ok t δ1 => augOut isi tab m i s t δ1
    | _ => .bad)
section
variable {K : PySem.W.Frag} {xs : Xs} {W : WX} {ta tb te : TE} {a b e : AE}
end
/-! ## errors without fields -/
def aRaise0 (x : Str) : AS := fun δ => .ex ⟨.own x, []⟩ δ
def isxZ (tab : Isi) : ACB := fun ss δ => match ss with
  | [.cl c, t] => (match δ.ce[c]?, dv δ.ce t with
    | some (.exc k _), some d => (match clsD d with
      | some cc => (match tab.lookup (k, cc) with
        | some b => .ok (.im (.bl b)) δ
        | none => .bad)
      | none => .bad)
    | _, _ => .bad)
  | _ => .bad
section
variable {K : PySem.W.Frag} {xs : Xs} {W : WX}
end
/-! ## (a, b, ..) = a tuple or a list -/
/-! ## xs[::-1] of a list -/
def aRev (a : AE) : AE := fun δ => (a δ).bind fun s δ1 => match dv δ1.ce s with
  | some (.lst ds) => .ok (.im (.lst ds.reverse)) δ1
  | _ => .bad
theorem RepL.reverse {K : PySem.W.Frag} {H : Hp} : ∀ {ds : List D} {vs : List V}, RepL K H ds vs → RepL K H ds.reverse vs.reverse
  | [], vs, h => by rw [show vs = [] from h]; exact rfl
  | d :: ds, vs, ⟨v, r, e, h1, h2⟩ => by
    subst e
    rw [List.reverse_cons, List.reverse_cons]
    exact (RepL.reverse h2).append ⟨v, [], rfl, h1, rfl⟩
/-! ## plain steps -/
section
variable {δ : Sta} {Ψ : SV → Sta → Prop} {Ξ : Xn → Sta → Prop} {Ψl : List SV → Sta → Prop} {Φ : Post} {a b e : AE} {r : AA} {p : AS} {n : Nat}
theorem s_isiT {isi : Isi} {s : SV} {k : XC} {d : D} {ds : List D} {c : Bool} (h1 : kindS δ s = some k) (h2 : isiL isi k (d :: ds) = some c) (h : Ψ (.im (.bl c)) δ) : (isiT isi [s, .im (.tup (d :: ds))] δ).sat Ψ Ξ := by
  unfold isiT
  dsimp only [imS]
  rw [h1]
  dsimp only
  rw [h2]
  exact h
theorem s_own {isi : Isi} {tab : MTab} {m : Str} {f : AOp} (h : (a δ).sat (fun s δ1 => (b δ1).sat (fun t δ2 => (∃ C F, clsS δ2 m s = some C ∧ tab.lookup C = some (2, F) ∧ kindS δ2 t = some (.own C) ∧ (isi.lookup (.own C, .blt "int")).isSome = true ∧ (F [s, t] δ2.ce).sat (fun z ce => Ψ z ⟨δ2.sl, ce⟩) fun x ce => Ξ x ⟨δ2.sl, ce⟩) ∨ (clsS δ2 m s = none ∧ (f s t δ2).sat Ψ Ξ)) Ξ) Ξ) : (aOwn isi tab m f a b δ).sat Ψ Ξ :=
  sat_of_bind (Out.sat_mono h (fun s δ1 h1 => sat_of_bind (Out.sat_mono h1 (fun t δ2 h2 => by
    rcases h2 with ⟨C, F, e1, e2, e3, e4, h2⟩ | ⟨e1, h2⟩
    · rw [e1]; dsimp only; rw [e2, e3]; dsimp only; rw [if_pos ⟨rfl, rfl, e4⟩]
      cases q : F [s, t] δ2.ce <;> rw [q] at h2 <;> exact h2
    · rw [e1]; exact h2) fun _ _ z => z)) fun _ _ z => z)
theorem s_augO {isi : Isi} {tab : MTab} {m : Str} {i : Nat} {s : SV} (hs : δ.sl[i]? = some s) (hn : s ≠ .no) (h : (e δ).sat (fun t δ1 => ∃ C F, clsS δ1 m s = some C ∧ tab.lookup C = some (2, F) ∧ kindS δ1 t = some (.own C) ∧ (isi.lookup (.own C, .blt "int")).isSome = true ∧ (F [s, t] δ1.ce).sat (fun z ce => Φ.nx ⟨δ1.sl.set i z, ce⟩) fun _ _ => False) fun _ _ => False) : (aAugO isi tab m i e δ).sat Φ := by
  unfold aAugO
  rw [hs]
  have main : (match e δ with
    | .ok t δ1 => augOut isi tab m i s t δ1
    | _ => OutS.bad).sat Φ := by
    cases q : e δ with
    | ok t δ1 =>
      rw [q] at h
      obtain ⟨C, F, e1, e2, e3, e4, h⟩ := h
      dsimp only
      unfold augOut
      rw [e1]; dsimp only; rw [e2, e3]; dsimp only; rw [if_pos ⟨rfl, rfl, e4⟩]
      cases qf : F [s, t] δ1.ce <;> rw [qf] at h <;> exact h
    | ex x δ1 => rw [q] at h; exact h.elim
    | bad => rw [q] at h; exact h.elim
  cases s with
  | no => exact absurd rfl hn
  | im d => exact main
  | cl c => exact main
theorem s_raise0 {x : Str} (h : Φ.ex ⟨.own x, []⟩ δ) : (aRaise0 x δ).sat Φ := h
theorem s_isz {tab : Isi} {c : Nat} {t : SV} {k cc : XC} {fs : List (Str × SV)} {d : D} {z : Bool} (h1 : δ.ce[c]? = some (.exc k fs)) (h2 : dv δ.ce t = some d) (h3 : clsD d = some cc) (h4 : tab.lookup (k, cc) = some z) (h : Ψ (.im (.bl z)) δ) : (isxZ tab [.cl c, t] δ).sat Ψ Ξ := by
  unfold isxZ
  dsimp only
  rw [h1, h2]
  dsimp only
  rw [h3]
  dsimp only
  rw [h4]
  exact h
theorem s_rev (h : (a δ).sat (fun s δ1 => ∃ ds, dv δ1.ce s = some (.lst ds) ∧ Ψ (.im (.lst ds.reverse)) δ1) Ξ) : (aRev a δ).sat Ψ Ξ :=
  sat_of_bind (Out.sat_mono h (fun s δ1 ⟨ds, e, h1⟩ => by rw [e]; exact h1) fun _ _ z => z)
theorem s_append {c : Nat} {us : List SV} {t : SV} (hc : δ.ce[c]? = some (.lst us)) (hl : us.length < 100000) (h : Ψ (.im .non) ⟨δ.sl, δ.ce.set c (.lst (us ++ [t]))⟩) : (appendA (.cl c) [t] δ).sat Ψ Ξ := by
  unfold appendA
  dsimp only
  rw [hc]
  dsimp only
  rw [if_pos hl]
  exact h
end
end Fx

set_option Elab.async false
set_option linter.all false
set_option autoImplicit false
set_option maxRecDepth 100000
set_option maxHeartbeats 2000000
namespace Fx
open PySem PySem.Spec PyProof.Rows L2
theorem repB_ref {K : PySem.W.Frag} {d : D} {a : Addr} (h : repB K d (.ref a) = true) (I : Hp) : Rep K I d (.ref a) := by
  obtain ⟨v, r, q⟩ := repB_ok h
  have e : v = .ref a := by
    cases v with
    | ref b => cases (show Value.ref a = Value.ref b from r); rfl
    | non => cases (show Value.ref a = _ from r)
    | bl b => cases (show Value.ref a = _ from r)
    | int b => obtain ⟨t, z⟩ := (show ∃ t, Value.ref a = _ from r); cases z
    | str b => obtain ⟨t, z⟩ := (show ∃ t, Value.ref a = _ from r); cases z
    | byt b => obtain ⟨t, z⟩ := (show ∃ t, Value.ref a = _ from r); cases z
    | flt b => obtain ⟨t, z⟩ := (show ∃ t, Value.ref a = _ from r); cases z
    | ty b => cases (show Value.ref a = _ from r)
  rw [← e]
  exact q I
end Fx

set_option Elab.async false
set_option linter.all false
set_option autoImplicit false
set_option maxRecDepth 100000
set_option maxHeartbeats 4000000
namespace Fx
open PySem PySem.Spec PyProof.Rows L2
/-! ## zip(x, y), each a list or a tuple -/
def SqK : Bool → PySem.W.Frag → Hp → Addr → List V → Prop
  | true, K, H, a, xs => SqL K H a xs
  | false, K, H, a, xs => SqT K H a xs
def ItK : Bool → Heap → Addr → Addr → Nat → Prop
  | true, h, it, l, i => h.IsListIter it l i
  | false, h, it, l, i => h.IsTupleIter it l i
def SeK : Bool → Heap → Addr → Array Value → Prop
  | true, h, l, xs => h.IsList l xs
  | false, h, l, xs => h.IsTuple l xs
def itO (k : Bool) (l : Addr) : Obj := { cls := .type (if k then "list_iterator" else "tuple_iterator"), data := .fields #[.ref l, .int 0 0] }
theorem draws_k (k : Bool) {prog : Program} {w : World} {A : Around} (hh : A.handled = none) (it l : Addr) (hne : l ≠ it) (items : Array Value) :
    Draws prog w A it [it, l] items.size (fun i v => items[i]? = some v) (fun i h => ItK k h it l i ∧ SeK k h l items) := by
  cases k
  · exact Draws.tuple hh it l hne items
  · exact Draws.list hh it l hne items
theorem begins_k (k : Bool) (l : Addr) (items : Array Value) : Begins (.ref l) (itO k l) fun h => SeK k h l items := by
  cases k
  · exact begins_tuple l items
  · exact begins_list l items
theorem itK_new (k : Bool) {h : Heap} {it l : Addr} (e : h.get? it = some (itO k l)) : ItK k h it l 0 := by
  cases k
  · exact ⟨_, e, rfl, rfl⟩
  · exact ⟨_, e, rfl, rfl⟩
theorem itK_obj {k : Bool} {h : Heap} {it l : Addr} {i : Nat} (e : ItK k h it l i) : ∃ o, h.get? it = some o ∧ ∀ v, o.data ≠ .cell v := by
  cases k
  · obtain ⟨o, e1, _, d1⟩ := e
    exact ⟨o, e1, fun v q => by rw [d1] at q; cases q⟩
  · obtain ⟨o, e1, _, d1⟩ := e
    exact ⟨o, e1, fun v q => by rw [d1] at q; cases q⟩
theorem itK_at {k : Bool} {h h' : Heap} {it l : Addr} {i : Nat} (e : ItK k h it l i) (q : ∀ o, h.get? it = some o → h'.get? it = some o) : ItK k h' it l i := by
  cases k
  · exact Heap.IsTupleIter.at e q
  · exact Heap.IsListIter.at e q
section
variable {X : Cx} {pins : List (Addr × Obj)} {σ : L2.St} {H : Hp} {s : Shared} {k : Bool} {a : Addr} {xs : List V}
theorem sqK_its (I : Inv X pins σ H s) (h : SqK k X.K H a xs) : ∃ its : List Value, Vals xs its ∧ SeK k s.heap a its.toArray ∧ a < s.heap.objs.size := by
  cases k
  · obtain ⟨its, rv, p, _⟩ := I.tuple h
    obtain ⟨o, ho, _⟩ := id p
    exact ⟨its, rv, p, Heap.lt_size ho⟩
  · obtain ⟨its, rv, p, _⟩ := I.list h
    exact ⟨its, rv, p.isList, p.lt⟩
theorem sqK_inj {ys : List V} (I : Inv X pins σ H s) (h : SqK k X.K H a xs) (h' : SqK k X.K H a ys) : xs = ys := by
  cases k
  · exact I.tuple_inj h h'
  · exact I.list_inj h h'
end
def Itm (k j : Bool) (K : PySem.W.Frag) (a b : Addr) : It :=
  ⟨fun i H => ∃ (xs ys : List V) (x y : V), SqK k K H a xs ∧ SqK j K H b ys ∧ xs[i]? = some x ∧ ys[i]? = some y,
    fun i H v H' => ∃ T x y, v = .ref T ∧ H T = none ∧ H' = upd H T (.tup [x, y]) ∧ (∀ xs, SqK k K H a xs → xs[i]? = some x) ∧ ∀ ys, SqK j K H b ys → ys[i]? = some y,
    fun i H => ∃ xs ys : List V, SqK k K H a xs ∧ SqK j K H b ys ∧ i ≤ xs.length ∧ i ≤ ys.length ∧ (i = xs.length ∨ i = ys.length)⟩
theorem turn_m {k j : Bool} {P : Program} {w : World} {K : PySem.W.Frag} {elts : List Expr} {kk : Nat} {tpos : Pos} {a b z TI TO i1 i2 : Addr} (S : ZipSep2 z TI TO i1 i2 [i1, a] [i2, b]) (ha : a ≠ i1) (hb : b ≠ i2) :
    Turn P w K (.Tuple elts kk tpos) (Itm k j K a b) [z, TI, TO, i1, i2] z (fun i h => IsZip h z TI TO .none ∧ IsTupOf2 h TI (.ref i1) (.ref i2) ∧ (∃ x y, IsTupOf2 h TO x y) ∧ ItK k h i1 a i ∧ ItK j h i2 b i) where
  mem := List.mem_cons_self
  obj := fun i h ⟨hz, hTI, ⟨x, y, hTO⟩, h1, h2⟩ c hc => by
    simp only [List.mem_cons, List.not_mem_nil, or_false] at hc
    rcases hc with rfl | rfl | rfl | rfl | rfl
    · exact ⟨_, hz, fun _ q => nomatch q⟩
    · exact ⟨_, hTI, fun _ q => nomatch q⟩
    · exact ⟨_, hTO, fun _ q => nomatch q⟩
    · exact itK_obj h1
    · exact itK_obj h2
  keep := fun i h h' ⟨hz, hTI, ⟨x, y, hTO⟩, h1, h2⟩ q => ⟨q z (by simp) _ hz, q TI (by simp) _ hTI, ⟨x, y, q TO (by simp) _ hTO⟩, itK_at h1 (q i1 (by simp)), itK_at h2 (q i2 (by simp))⟩
  item := by
    rintro X rfl rfl rfl hc i pins s σ H E I hf ⟨hz, hTI, hTO, h1, h2⟩ ⟨xs, ys, x, y, hqx, hqy, hx, hy⟩
    obtain ⟨its, rv, p, _⟩ := sqK_its I hqx
    obtain ⟨its2, rv2, p2, _⟩ := sqK_its I hqy
    obtain ⟨u, hu, ru⟩ := rv.get hx
    obtain ⟨u2, hu2, ru2⟩ := rv2.get hy
    have W := WalksT.zipD2 (A := X.A) S (draws_k k (prog := X.prog) (w := X.w) (show X.A.in1.handled = none from I.ok.hd hc) i1 a ha its.toArray) (draws_k j (prog := X.prog) (w := X.w) (show X.A.in1.handled = none from I.ok.hd hc) i2 b hb its2.toArray)
    have hlt : i < min its.toArray.size its2.toArray.size := by
      have g1 := (List.getElem?_eq_some_iff.mp hu).1
      have g2 := (List.getElem?_eq_some_iff.mp hu2).1
      simp only [List.size_toArray]; omega
    refine W.item i s _ E hlt ⟨hz, hTI, hTO, ⟨h1, p⟩, ⟨h2, p2⟩⟩ fun T vals h' tk hP hT hI hM hk => ⟨_, rfl, ?_⟩
    obtain ⟨v1, v2, e1, e2, rfl⟩ := hP
    have e1 : its[i]? = some v1 := by simpa using e1
    have e2 : its2[i]? = some v2 := by simpa using e2
    rw [hu] at e1; cases e1
    rw [hu2] at e2; cases e2
    refine W.go elts kk tpos i T _ _ E hM fun h'' ⟨hz', hTI', hTO', hs1, hs2⟩ hk2 => ?_
    obtain ⟨o, ho, hcl, m, hd⟩ := hI
    have ho2 := hk2 T o (W.apart i T _ hM) ho
    have new : ObjOk X.prog X.w (upd H T (.tup [x, y])) h'' T (.tup [x, y]) := ⟨by show 2 ≤ sizeLine; decide, [u, u2], .cons ru (.cons ru2 .nil), ⟨o, ho2, hcl, m, hd⟩⟩
    have sub : ∀ c, c ∉ [z, TI, TO, i1, i2] → c ∉ [z, TO, i1, i2] := fun c hc z => hc (by
      simp only [List.mem_cons, List.not_mem_nil, or_false] at z ⊢
      rcases z with z | z | z | z <;> simp [z])
    have I1 : Inv X pins σ (upd H T (.tup [x, y])) { s with heap := h'', toks := tk } := I.turnedNew (t' := tk) (ch := [z, TI, TO, i1, i2]) (fun c o hb q => hk2 c o (sub c hb) (hk c o (sub c hb) q)) hf hT new
    refine ⟨.ref T, _, I1, rfl, ⟨T, x, y, rfl, I.hok.fresh hT, rfl, fun l hl => by rw [sqK_inj I hl hqx]; exact hx, fun l hl => by rw [sqK_inj I hl hqy]; exact hy⟩, ⟨hz', hTI', hTO', hs1.1, hs2.1⟩, fun c hcm => ?_⟩
    have hlt : c < s.heap.objs.size := by
      simp only [List.mem_cons, List.not_mem_nil, or_false] at hcm
      rcases hcm with rfl | rfl | rfl | rfl | rfl
      · exact Heap.lt_size hz
      · exact Heap.lt_size hTI
      · obtain ⟨_, _, q⟩ := hTO; exact Heap.lt_size q
      · obtain ⟨_, q, _⟩ := itK_obj h1; exact Heap.lt_size q
      · obtain ⟨_, q, _⟩ := itK_obj h2; exact Heap.lt_size q
    rw [upd_ne (Nat.ne_of_lt (Nat.lt_of_lt_of_le hlt hT))]
    exact (hf c hcm).1
  done := by
    rintro X rfl rfl rfl hc i pins s σ H E I hf ⟨hz, hTI, hTO, h1, h2⟩ ⟨xs, ys, hqx, hqy, g1, g2, he⟩
    obtain ⟨its, rv, p, _⟩ := sqK_its I hqx
    obtain ⟨its2, rv2, p2, _⟩ := sqK_its I hqy
    have l1 := rv.length
    have l2 := rv2.length
    have W := WalksT.zipD2 (A := X.A) S (draws_k k (prog := X.prog) (w := X.w) (show X.A.in1.handled = none from I.ok.hd hc) i1 a ha its.toArray) (draws_k j (prog := X.prog) (w := X.w) (show X.A.in1.handled = none from I.ok.hd hc) i2 b hb its2.toArray)
    have hn : i = min its.toArray.size its2.toArray.size := by
      simp only [List.size_toArray]; omega
    refine W.done s _ E (by rw [← hn]; exact ⟨hz, hTI, hTO, ⟨h1, p⟩, ⟨h2, p2⟩⟩) fun h' tk hk => ⟨rfl, ?_⟩
    exact I.turnedL (t' := tk) (ch := [z, TI, TO, i1, i2]) (fun c o hb q => hk c o (fun z => hb (by
      simp only [List.mem_cons, List.not_mem_nil, or_false] at z ⊢
      rcases z with z | z | z | z <;> simp [z])) q) hf
  self := fun A i s Q E st h => wpAny_pyIter_zip st.1 h
def iZipM (K : PySem.W.Frag) (ta : TA) : TI := fun σ H R => ta σ H fun vs H1 => ∃ k j a b xs ys, vs = [.ref a, .ref b] ∧ SqK k K H1 a xs ∧ SqK j K H1 b ys ∧ R (Itm k j K a b) H1
theorem pi_zipM {X : Cx} {K : PySem.W.Frag} {e e2 : Expr} {ta : TA} {p pos tpos : Pos} {elts : List Expr} {kk : Nat} (hg : Gl X "zip") (hm : X.mg "zip" = none) (ha : PA X [e, e2] ta) (hK : X.K = K := by rfl)
    (hs : starEach [e, e2] X.env = (false, eval e X.env) :: starEach [e2] X.env := by rfl) (hpl : (backTo pos (starEach [e2] X.env)).any (·.1) = false := by rfl) :
    PI X (.Tuple elts kk tpos) (.Call (.Name "zip" p) [e, e2] [] pos) (iZipM K ta) := by
  subst hK
  refine ⟨fun pins s σ H R I h => ?_⟩
  refine Call_ (ld_blt I hg hm PyProof.Rows.boot_zip (PyProof.Rows.callWith_type1 (thn (ha.run pos pins s σ H _ I h) fun us s1 ⟨vs, H1, I1, r1, k, j, a, b, xs, ys, ex, hqx, hqy, q⟩ => ?_) hs hpl))
  subst ex
  obtain ⟨u1, u2, rfl, r1, r2⟩ := vals2 r1
  cases (show u1 = Value.ref a from r1)
  cases (show u2 = Value.ref b from r2)
  obtain ⟨its, rv, p1, la⟩ := sqK_its I1 hqx
  obtain ⟨its2, rv2, p2, lb⟩ := sqK_its I1 hqy
  refine zip_begins2 (begins_k k a its.toArray) (begins_k j b its2.toArray) p1 p2 fun h' hz hTI hTO h1 h2 hsz hk => wpAny_pyIter_zip hz ?_
  have I2 : Inv X pins σ H1 { s1 with heap := h' } := I1.kept (t' := s1.toks) hk
  have S := zip_sep2 (N := s1.heap.objs.size) (fp1 := [a]) (fp2 := [b]) (fun c hc => by rw [List.mem_singleton.mp hc]; exact la) (fun c hc => by rw [List.mem_singleton.mp hc]; exact lb)
  refine ⟨s1.heap.objs.size + 4, [s1.heap.objs.size + 4, s1.heap.objs.size + 2, s1.heap.objs.size + 3, s1.heap.objs.size, s1.heap.objs.size + 1], _, _, H1, rfl, I2, turn_m S (Nat.ne_of_lt la) (Nat.ne_of_lt (Nat.lt_succ_of_lt lb)), ⟨hz, hTI, ⟨_, _, hTO⟩, itK_new k h1, itK_new j h2⟩, fun c hcm => ?_, q⟩
  have hle : s1.heap.objs.size ≤ c := by
    simp only [List.mem_cons, List.not_mem_nil, or_false] at hcm
    rcases hcm with rfl | rfl | rfl | rfl | rfl <;> first | exact Nat.le_refl _ | exact Nat.le_add_right _ _
  exact I1.fpOk hle (I1.hok.fresh hle)
end Fx

set_option Elab.async false
set_option linter.all false
set_option autoImplicit false
set_option maxRecDepth 100000
set_option maxHeartbeats 2000000
namespace Fx
open PySem PySem.Spec PyProof.Rows L2
/-! ## zip of lists and tuples, as an outcome -/
def seqD : D → Option (Bool × List D)
  | .lst ds => some (true, ds)
  | .tup ds => some (false, ds)
  | _ => none
def aZipM (r : AA) : AI := fun δ => (r δ).bind fun ss δ1 => match ss with
  | [s, t] => (match toIm δ1.ce s with
    | some (x, ce1) => (match toIm ce1 t with
      | some (y, ce2) => (match seqD x, seqD y with
        | some (_, ds), some (_, es) => .ok (zipD ds es) ⟨δ1.sl, ce2⟩
        | _, _ => .bad)
      | none => .bad)
    | none => .bad)
  | _ => .bad
section
variable {K : PySem.W.Frag} {xs : Xs} {W : WX}
theorem sqK_mono {k : Bool} {H H' : Hp} {a : Addr} {vs : List V} (e : Same H H') (h : SqK k K H a vs) : SqK k K H' a vs := by
  cases k
  · exact same_t e h
  · exact e.seq h
theorem seqD_rep {k : Bool} {I : Hp} {x : D} {ds : List D} {v : V} (e : seqD x = some (k, ds)) (h : Rep K I x v) : ∃ a vs, v = .ref a ∧ SqK k K I a vs ∧ RepL K I ds vs := by
  cases x with
  | lst l => cases e; obtain ⟨a, vs, h1, h2, h3⟩ := h; exact ⟨a, vs, h1, SqL.of h2, h3⟩
  | tup l => cases e; obtain ⟨a, vs, h1, h2, h3⟩ := h; exact ⟨a, vs, h1, h2, h3⟩
  | _ => cases e
theorem walks_m {k j : Bool} {ec : EC} {I : Hp} {a b : Addr} {ds es : List D} {vs us : List V} (ha : SqK k K I a vs) (hb : SqK j K I b us) (ra : RepL K I ds vs) (rb : RepL K I es us) : Walks K ec (Itm k j K a b) I (zipD ds es) where
  go := fun i H e hi => by
    rw [zipD_len] at hi
    exact ⟨vs, us, vs[i]'(by rw [ra.length]; omega), us[i]'(by rw [rb.length]; omega), sqK_mono e ha, sqK_mono e hb, by simp, by simp⟩
  stop := fun H e => ⟨vs, us, sqK_mono e ha, sqK_mono e hb, by rw [zipD_len, ra.length]; omega, by rw [zipD_len, rb.length]; omega, by rw [zipD_len, ra.length, rb.length]; omega⟩
  yld := fun ec' i x v H H' δ σ I2 as hx e r y => by
    obtain ⟨T, p, q, rfl, hT, rfl, h1, h2⟩ := y
    obtain ⟨d, e', g1, g2, rfl⟩ := zipD_at _ _ _ _ hx
    have hH : Same I H := fun c u hc => r.ih _ _ (e c u hc)
    obtain ⟨p', k1, k2⟩ := repL_get ra g1
    obtain ⟨q', k3, k4⟩ := repL_get rb g2
    have z1 := h1 vs (sqK_mono hH ha)
    have z2 := h2 us (sqK_mono hH hb)
    rw [k1] at z1
    rw [k3] at z2
    cases z1
    cases z2
    obtain ⟨r2, l2⟩ := r.newF (o := .tup [p, q]) hT
    refine ⟨_, r2, l2, T, [p, q], rfl, .inl (.inl upd_same), p, [q], rfl, Rep.mono l2.i d p (Rep.mono e d p k2), q, [], rfl, Rep.mono l2.i e' q (Rep.mono e e' q k4), rfl⟩
theorem si_zipM {tr : TA} {r : AA} (hr : SA K xs W tr r) : SI K xs W (iZipM K tr) (aZipM r) := by
  intro fr δ Ψ Ξ h σ I as H Q rr c
  refine hr fr δ _ _ (Out.sat_bind h) σ I as H _ rr ⟨fun ss δ1 vs I1 as1 H1 r1 l1 rv k => ?_, c.x⟩
  split at k
  · rename_i s t
    obtain ⟨v, _, rfl, hv, u, _, rfl, hu, rfl⟩ := rv
    split at k
    · rename_i x ce1 q1
      obtain ⟨I2, r2, l2, rep1⟩ := R.toIm r1 q1 hv
      split at k
      · rename_i y ce2 q2
        obtain ⟨I3, r3, l3, rep2⟩ := R.toIm r2 q2 (hu.mono l2)
        split at k
        · rename_i k1 ds k2 es e1 e2
          obtain ⟨a, xs1, rfl, ha, ra⟩ := seqD_rep e1 (Rep.mono l3.i _ _ rep1)
          obtain ⟨b, ys1, rfl, hb, rb⟩ := seqD_rep e2 rep2
          exact ⟨k1, k2, a, b, xs1, ys1, rfl, sqK_mono r3.ih ha, sqK_mono r3.ih hb, c.v _ ⟨δ1.sl, ce2⟩ _ I3 as1 H1 r3 ((l1.trans l2).trans l3) (walks_m ha hb ra rb) k⟩
        · exact k.elim
      · exact k.elim
    · exact k.elim
  · exact k.elim
end
/-! ## plain steps -/
section
variable {δ : Sta} {Ψ : SV → Sta → Prop} {Ξ : Xn → Sta → Prop} {Ψb : Bool → Sta → Prop} {Ψl : List SV → Sta → Prop} {Φ : Post} {a b c e : AE} {r : AA} {p : AS} {n : Nat}
theorem s_zipM {Ψi : List D → Sta → Prop} (h : (r δ).sat (fun ss δ1 => ∃ s t x ce1 y ce2 k ds j es, ss = [s, t] ∧ toIm δ1.ce s = some (x, ce1) ∧ toIm ce1 t = some (y, ce2) ∧ seqD x = some (k, ds) ∧ seqD y = some (j, es) ∧ Ψi (zipD ds es) ⟨δ1.sl, ce2⟩) Ξ) : (aZipM r δ).sat Ψi Ξ :=
  sat_of_bind (Out.sat_mono h (fun ss δ1 ⟨s, t, x, ce1, y, ce2, k, ds, j, es, h0, h1, h2, h3, h4, h5⟩ => by subst h0; dsimp only; rw [h1]; dsimp only; rw [h2]; dsimp only; rw [h3, h4]; exact h5) fun _ _ z => z)
theorem s_chain {o o' : AOp} (h : (a δ).sat (fun s δ1 => (b δ1).sat (fun t δ2 => (o s t δ2).sat (fun z δ3 => ∃ k, dv δ3.ce z = some (.bl k) ∧ (k = true → (c δ3).sat (fun u δ4 => (o' t u δ4).sat Ψ Ξ) Ξ) ∧ (k = false → Ψ (.im (.bl false)) δ3)) Ξ) Ξ) Ξ) : (aChain o o' a b c δ).sat Ψ Ξ :=
  sat_of_bind (Out.sat_mono h (fun s δ1 h1 => sat_of_bind (Out.sat_mono h1 (fun t δ2 h2 => sat_of_bind (Out.sat_mono h2 (fun z δ3 ⟨k, e, h3, h4⟩ => by
    rw [e]
    cases k with
    | false => exact h4 rfl
    | true => exact sat_of_bind (h3 rfl)) fun _ _ z => z)) fun _ _ z => z)) fun _ _ z => z)
/-- [e for x in xs], e of what is fixed -/
theorem s_lcP {it : AI} {g : AG} {vs : List Nat} (f : D → D) (h : (it δ).sat (fun ds δ1 => ds.length ≤ 100000 ∧ (∀ d ∈ ds, ∃ δ2, g (.im d) ⟨wipeS δ1.sl vs, δ1.ce⟩ = some δ2 ∧ (e δ2).sat (fun s δ4 => s = .im (f d) ∧ δ4.ce = δ2.ce) (fun _ _ => False) ∧ δ2.ce = δ1.ce) ∧ Ψ (.im (.lst (ds.map f))) δ1) Ξ) : (aLc it g aYes e vs δ).sat Ψ Ξ :=
  s_lcF (fun _ => true) f (Out.sat_mono h (fun ds δ1 ⟨h0, h1, h2⟩ => ⟨h0, fun d hd => by
    obtain ⟨δ2, e1, e2, e3⟩ := h1 d hd
    exact ⟨δ2, e1, rfl, e3, fun _ => Out.sat_mono e2 (fun s δ4 ⟨q1, q2⟩ => ⟨q1, q2.trans e3⟩) fun _ _ z => z⟩, by
    have e : ds.filter (fun _ => true) = ds := List.filter_eq_self.mpr fun _ _ => rfl
    rw [e]; exact h2⟩) fun _ _ z => z)
theorem s_tupI {d : D} {k : Bool} {ds : List D} (e : seqD d = some (k, ds)) (h : Ψ (.im (.tup ds)) δ) : (tupleA [.im d] δ).sat Ψ Ξ := by
  cases d with
  | lst l => cases e; exact h
  | tup l => cases e; exact h
  | _ => cases e
end
theorem bls_map {α : Type} (g : α → Bool) : ∀ l : List α, blsOf (l.map fun x => D.bl (g x)) = some (l.map g)
  | [] => rfl
  | x :: l => by simp only [List.map_cons, blsOf, bls_map g l, Option.map_some]
theorem all_map {α : Type} (g : α → Bool) (l : List α) : allD (.lst (l.map fun x => D.bl (g x))) = some (.bl (l.all g)) := by
  simp only [allD, bls_map, Option.map_some, List.all_map, Function.comp_def, id]
/-- one sign in a text -/
theorem inD_one (c : Nat) (t : Str) : inD (.str ⟨#[c]⟩) (.str t) = some (.bl (decide (c ∈ t.cps.toList))) := by
  have h := SX.in_one t.cps.toList c
  have e : SX.S t.cps.toList = t := by cases t; rfl
  rw [e] at h
  show some (D.bl (!(Builtin.Str.occurrences t ⟨#[c]⟩ 0 t.length 1).isEmpty)) = _
  rw [← h]
end Fx

set_option Elab.async false
set_option linter.all false
set_option autoImplicit false
set_option maxRecDepth 100000
set_option maxHeartbeats 2000000
namespace Fx
open PySem PySem.Spec PyProof.Rows L2
/-! ## comprehensions by what is left -/
theorem lcR {g : AG} {t : AT} {e : AE} {sl : List SV} (J : List D → List D → List CO → Prop) : ∀ (ds acc : List D) (ce : List CO), J ds acc ce →
    (∀ d ds acc ce, J (d :: ds) acc ce → ∃ δ1, g (.im d) ⟨sl, ce⟩ = some δ1 ∧ (t δ1).sat (fun b δ2 => (b = true → (e δ2).sat (fun s δ3 => ∃ y ce3, toIm δ3.ce s = some (y, ce3) ∧ J ds (acc ++ [y]) (cutOr ce ce3)) fun _ _ => False) ∧ (b = false → J ds acc (cutOr ce δ2.ce))) fun _ _ => False) →
    ∃ acc' ce', lcL g t e sl ds acc ce = some (acc', ce') ∧ J [] acc' ce'
  | [], acc, ce, h, _ => ⟨acc, ce, rfl, h⟩
  | d :: ds, acc, ce, h, hs => by
    obtain ⟨δ1, e1, h1⟩ := hs d ds acc ce h
    unfold lcL
    rw [e1]
    dsimp only
    cases q : t δ1 with
    | bad => rw [q] at h1; exact h1.elim
    | ex x δ2 => rw [q] at h1; exact h1.elim
    | ok b δ2 =>
      rw [q] at h1
      dsimp only
      cases b with
      | false => exact lcR J ds _ _ (h1.2 rfl) hs
      | true =>
        have h2 := h1.1 rfl
        rw [if_pos rfl]
        cases q2 : e δ2 with
        | bad => rw [q2] at h2; exact h2.elim
        | ex x δ3 => rw [q2] at h2; exact h2.elim
        | ok s δ3 =>
          rw [q2] at h2
          obtain ⟨y, ce3, e3, h3⟩ := h2
          dsimp only
          rw [e3]
          exact lcR J ds _ _ h3 hs
section
variable {δ : Sta} {Ψ : SV → Sta → Prop} {Ξ : Xn → Sta → Prop} {e : AE} {t : AT}
theorem s_lcR {it : AI} {g : AG} {vs : List Nat} (J : List D → List D → List CO → Prop) (h : (it δ).sat (fun ds δ1 => ds.length ≤ 100000 ∧ J ds [] δ1.ce ∧ (∀ d ds acc ce, J (d :: ds) acc ce → ∃ δ2, g (.im d) ⟨wipeS δ1.sl vs, ce⟩ = some δ2 ∧ (t δ2).sat (fun b δ2 => (b = true → (e δ2).sat (fun s δ3 => ∃ y ce3, toIm δ3.ce s = some (y, ce3) ∧ J ds (acc ++ [y]) (cutOr ce ce3)) fun _ _ => False) ∧ (b = false → J ds acc (cutOr ce δ2.ce))) fun _ _ => False) ∧ ∀ acc ce, J [] acc ce → Ψ (.im (.lst acc)) ⟨δ1.sl, ce⟩) Ξ) : (aLc it g t e vs δ).sat Ψ Ξ :=
  sat_of_bind (Out.sat_mono h (fun ds δ1 ⟨h0, h1, h2, h3⟩ => by
    rw [if_pos h0]
    obtain ⟨acc, ce, e1, hJ⟩ := lcR J ds [] δ1.ce h1 h2
    rw [e1]
    exact h3 acc ce hJ) fun _ _ z => z)
end
/-! ## blanks at the end -/
theorem bareL_blanks (l : List Nat) : ∀ k : Nat, bareL (l ++ List.replicate k 32) = bareL l
  | 0 => by simp
  | k + 1 => by
    have ih := bareL_blanks l k
    unfold bareL at ih ⊢
    rw [List.replicate_succ', ← List.append_assoc, List.reverse_append]
    show (List.dropWhile _ (32 :: (l ++ List.replicate k 32).reverse)).reverse = _
    rw [List.dropWhile_cons_of_pos (by decide)]
    exact ih
end Fx

set_option Elab.async false
set_option linter.all false
set_option autoImplicit false
set_option maxRecDepth 100000
set_option maxHeartbeats 2000000
namespace Fx
open PySem PySem.Spec PyProof.Rows L2
/-! ## data without bools, so and so deep: == is equality -/
def clean : Nat → D → Bool
  | _, .non => true
  | _, .int _ => true
  | _, .str s => PyData.strOk s
  | n + 1, .tup ds => ds.all (clean n)
  | n + 1, .lst ds => ds.all (clean n)
  | _, _ => false
theorem toPL_all {n : Nat} (ih : ∀ x, clean n x = true → ∃ p, toP x = some p ∧ p.canLay0 = true ∧ p.depth ≤ n) : ∀ ds : List D, ds.all (clean n) = true → ∃ ps, toPL ds = some ps ∧ PyData.canLayAll0 ps = true ∧ PyData.depthAll ps ≤ n
  | [], _ => ⟨[], rfl, by simp [PyData.canLayAll0], by simp [PyData.depthAll]⟩
  | d :: ds, h => by
    obtain ⟨h1, h2⟩ := and2 (show (clean n d && ds.all (clean n)) = true from h)
    obtain ⟨p, e1, e2, e3⟩ := ih d h1
    obtain ⟨ps, f1, f2, f3⟩ := toPL_all ih ds h2
    refine ⟨p :: ps, by simp only [toPL, e1, f1], by simp [PyData.canLayAll0, e2, f2], ?_⟩
    simp only [PyData.depthAll]
    omega
theorem toP_clean : ∀ (n : Nat) (x : D), clean n x = true → ∃ p, toP x = some p ∧ p.canLay0 = true ∧ p.depth ≤ n
  | n, .non, _ => ⟨.none, rfl, rfl, by simp [PyData.depth]⟩
  | n, .int i, _ => ⟨.int i, rfl, rfl, by simp [PyData.depth]⟩
  | n, .str s, h => ⟨.str s, rfl, by cases n <;> exact h, by simp [PyData.depth]⟩
  | n + 1, .tup ds, h => by
    obtain ⟨ps, e1, e2, e3⟩ := toPL_all (toP_clean n) ds h
    exact ⟨.tuple ps, by simp only [toP, e1, Option.map_some], by simpa [PyData.canLay0] using e2, by simp only [PyData.depth]; omega⟩
  | n + 1, .lst ds, h => by
    obtain ⟨ps, e1, e2, e3⟩ := toPL_all (toP_clean n) ds h
    exact ⟨.list ps, by simp only [toP, e1, Option.map_some], by simpa [PyData.canLay0] using e2, by simp only [PyData.depth]; omega⟩
  | 0, .tup _, h => by cases h
  | 0, .lst _, h => by cases h
  | 0, .bl _, h => by cases h
  | _ + 1, .bl _, h => by cases h
  | 0, .ty _, h => by cases h
  | _ + 1, .ty _, h => by cases h
  | 0, .glo _, h => by cases h
  | _ + 1, .glo _, h => by cases h
  | 0, .dic _, h => by cases h
  | _ + 1, .dic _, h => by cases h
  | 0, .ins _ _, h => by cases h
  | _ + 1, .ins _ _, h => by cases h
  | 0, .slf _ _, h => by cases h
  | _ + 1, .slf _ _, h => by cases h
  | 0, .me, h => by cases h
  | _ + 1, .me, h => by cases h
  | 0, .scr _, h => by cases h
  | _ + 1, .scr _, h => by cases h
theorem eqvAll_clean {n : Nat} (ih : ∀ (x y : D) (p q : PyData), clean n x = true → clean n y = true → toP x = some p → toP y = some q → PyData.eqv p q = decide (x = y)) : ∀ (xs ys : List D) (ps qs : List PyData), xs.all (clean n) = true → ys.all (clean n) = true → toPL xs = some ps → toPL ys = some qs → PyData.eqvAll ps qs = decide (xs = ys)
  | [], [], ps, qs, _, _, e1, e2 => by cases e1; cases e2; simp [PyData.eqvAll]
  | [], y :: ys, ps, qs, _, _, e1, e2 => by
    cases e1
    simp only [toPL] at e2
    split at e2
    · cases e2; simp [PyData.eqvAll]
    · cases e2
  | x :: xs, [], ps, qs, _, _, e1, e2 => by
    cases e2
    simp only [toPL] at e1
    split at e1
    · cases e1; simp [PyData.eqvAll]
    · cases e1
  | x :: xs, y :: ys, ps, qs, h1, h2, e1, e2 => by
    obtain ⟨a1, a2⟩ := and2 (show (clean n x && xs.all (clean n)) = true from h1)
    obtain ⟨b1, b2⟩ := and2 (show (clean n y && ys.all (clean n)) = true from h2)
    simp only [toPL] at e1 e2
    split at e1
    · rename_i p ps' q1 q2
      cases e1
      split at e2
      · rename_i q qs' r1 r2
        cases e2
        simp only [PyData.eqvAll]
        rw [ih x y p q a1 b1 q1 r1, eqvAll_clean ih xs ys ps' qs' a2 b2 q2 r2, Bool.eq_iff_iff]
        simp
      · cases e2
    · cases e1
theorem eqv_clean : ∀ (n : Nat) (x y : D) (p q : PyData), clean n x = true → clean n y = true → toP x = some p → toP y = some q → PyData.eqv p q = decide (x = y) := by
  intro n
  induction n with
  | zero =>
    intro x y p q h1 h2 e1 e2
    cases x <;> first | exact Bool.noConfusion (show false = true from h1) | (cases y <;> first | exact Bool.noConfusion (show false = true from h2) | (simp only [toP] at e1 e2; cases e1; cases e2; simp only [PyData.eqv]; rw [Bool.eq_iff_iff]; simp))
  | succ n ih =>
    intro x y p q h1 h2 e1 e2
    cases x with
    | tup xs =>
      simp only [toP, Option.map_eq_some_iff] at e1
      obtain ⟨ps, e1, rfl⟩ := e1
      cases y with
      | tup ys =>
        simp only [toP, Option.map_eq_some_iff] at e2
        obtain ⟨qs, e2, rfl⟩ := e2
        simp only [PyData.eqv]
        rw [eqvAll_clean ih xs ys ps qs h1 h2 e1 e2, Bool.eq_iff_iff]
        simp
      | lst ys =>
        simp only [toP, Option.map_eq_some_iff] at e2
        obtain ⟨qs, e2, rfl⟩ := e2
        simp [PyData.eqv]
      | _ => first | exact Bool.noConfusion (show false = true from h2) | (simp only [toP] at e2; cases e2; simp [PyData.eqv])
    | lst xs =>
      simp only [toP, Option.map_eq_some_iff] at e1
      obtain ⟨ps, e1, rfl⟩ := e1
      cases y with
      | lst ys =>
        simp only [toP, Option.map_eq_some_iff] at e2
        obtain ⟨qs, e2, rfl⟩ := e2
        simp only [PyData.eqv]
        rw [eqvAll_clean ih xs ys ps qs h1 h2 e1 e2, Bool.eq_iff_iff]
        simp
      | tup ys =>
        simp only [toP, Option.map_eq_some_iff] at e2
        obtain ⟨qs, e2, rfl⟩ := e2
        simp [PyData.eqv]
      | _ => first | exact Bool.noConfusion (show false = true from h2) | (simp only [toP] at e2; cases e2; simp [PyData.eqv])
    | _ =>
      first
        | exact Bool.noConfusion (show false = true from h1)
        | (cases y with
           | tup ys =>
             simp only [toP, Option.map_eq_some_iff] at e2
             obtain ⟨qs, e2, rfl⟩ := e2
             simp only [toP] at e1; cases e1; simp [PyData.eqv]
           | lst ys =>
             simp only [toP, Option.map_eq_some_iff] at e2
             obtain ⟨qs, e2, rfl⟩ := e2
             simp only [toP] at e1; cases e1; simp [PyData.eqv]
           | _ => first | exact Bool.noConfusion (show false = true from h2) | (simp only [toP] at e1 e2; cases e1; cases e2; simp only [PyData.eqv]; rw [Bool.eq_iff_iff]; simp))
theorem eqB_clean {n : Nat} (hn : n ≤ 64) {x y : D} (h1 : clean n x = true) (h2 : clean n y = true) : eqB x y = some (decide (x = y)) := by
  obtain ⟨p, e1, c1, d1⟩ := toP_clean n x h1
  obtain ⟨q, e2, c2, d2⟩ := toP_clean n y h2
  have hd : deB x y = some (decide (x = y)) := by
    unfold deB
    rw [e1, e2]
    dsimp only
    rw [if_pos ⟨by simp only [SeqAt.shaped, c1, Bool.true_and, decide_eq_true_eq]; omega, by simp only [SeqAt.shaped, c2, Bool.true_and, decide_eq_true_eq]; omega⟩, eqv_clean n x y p q h1 h2 e1 e2]
  unfold eqB
  cases q3 : scB x y with
  | none => exact hd
  | some b =>
    unfold scB at q3
    split at q3 <;> first | (cases q3; simp; done) | cases q3
theorem neD_clean {n : Nat} (hn : n ≤ 64) {x y : D} (h1 : clean n x = true) (h2 : clean n y = true) : neD x y = some (.bl (!decide (x = y))) := by
  unfold neD; rw [eqB_clean hn h1 h2]; rfl
end Fx
namespace Fx
open PySem
theorem strOk_asc {s : Str} (h : Asc s) : PyData.strOk s = true := by
  unfold PyData.strOk
  rw [Array.all_eq_true]
  intro i hi
  have := (h s.cps[i] (by simp)).lt
  simp
  omega
theorem clean_str {n : Nat} {s : Str} (h : PyData.strOk s = true) : clean n (.str s) = true := by cases n <;> exact h
theorem clean_int {n : Nat} {i : Int} : clean n (.int i) = true := by cases n <;> rfl
theorem clean_non {n : Nat} : clean n .non = true := by cases n <;> rfl
end Fx

set_option Elab.async false
set_option linter.all false
set_option autoImplicit false
set_option maxRecDepth 100000
set_option maxHeartbeats 4000000
namespace Fx
open PySem PySem.Spec PyProof.Rows L2
/-! ## enumerate(x), x a list or a tuple -/
/-! ### as an outcome -/
def enumD (ds : List D) : List D := (ds.zipIdx).map fun p => D.tup [.int (p.2 : Nat), p.1]
def aEnum (r : AA) : AI := fun δ => (r δ).bind fun ss δ1 => match ss with
  | [s] => (match toIm δ1.ce s with
    | some (x, ce1) => (match seqD x with
      | some (_, ds) => .ok (enumD ds) ⟨δ1.sl, ce1⟩
      | none => .bad)
    | none => .bad)
  | _ => .bad
section
variable {K : PySem.W.Frag} {xs : Xs} {W : WX}
end
end Fx

set_option Elab.async false
set_option linter.all false
set_option autoImplicit false
set_option maxRecDepth 100000
set_option maxHeartbeats 2000000
namespace Fx
open PySem PySem.Spec PyProof.Rows L2
/-! ## f-strings -/
def fmtD : D → Option D
  | .str y => if y.length ≤ 1000000 then some (.str y) else none
  | .int i => if i.natAbs.log2 < 1920 then some (.str (Str.ofString (toString i))) else none
  | _ => none
def aFmt (a : AE) : AE := fun δ => (a δ).bind fun s δ1 => dCB1 fmtD [s] δ1
def aJoins : List AE → Str → AE
  | [], acc => fun δ => .ok (.im (.str acc)) δ
  | a :: as, acc => fun δ => (a δ).bind fun s δ1 => match imS δ1.ce s with
    | some (.str y) => if (acc ++ y).length ≤ 1000000 then aJoins as (acc ++ y) δ1 else .bad
    | _ => .bad
def aFstr (as : List AE) : AE := aJoins as Str.empty
section
variable {K : PySem.W.Frag} {xs : Xs} {W : WX}
inductive SJ (K : PySem.W.Frag) (xs : Xs) (W : WX) : List TE → List AE → Prop where
  | nil : SJ K xs W [] []
  | cons {t : TE} {a : AE} {ts : List TE} {as : List AE} (h : SE K xs W t a) (r : SJ K xs W ts as) : SJ K xs W (t :: ts) (a :: as)
end
/-! ## plain steps -/
section
variable {δ : Sta} {Ψ : SV → Sta → Prop} {Ξ : Xn → Sta → Prop} {Ψb : Bool → Sta → Prop} {Ψl : List SV → Sta → Prop} {Φ : Post} {a b c e : AE} {r : AA} {p : AS} {n : Nat}
theorem s_enum {Ψi : List D → Sta → Prop} (h : (r δ).sat (fun ss δ1 => ∃ s x ce1 k ds, ss = [s] ∧ toIm δ1.ce s = some (x, ce1) ∧ seqD x = some (k, ds) ∧ Ψi (enumD ds) ⟨δ1.sl, ce1⟩) Ξ) : (aEnum r δ).sat Ψi Ξ :=
  sat_of_bind (Out.sat_mono h (fun ss δ1 ⟨s, x, ce1, k, ds, h0, h1, h2, h3⟩ => by subst h0; dsimp only; rw [h1]; dsimp only; rw [h2]; exact h3) fun _ _ z => z)
theorem s_fmt (h : (a δ).sat (fun s δ1 => (dCB1 fmtD [s] δ1).sat Ψ Ξ) Ξ) : (aFmt a δ).sat Ψ Ξ := sat_of_bind h
theorem s_fmtS {y : Str} (hl : y.length ≤ 1000000) (h : Ψ (.im (.str y)) δ) : (dCB1 fmtD [.im (.str y)] δ).sat Ψ Ξ := s_cb1 (x := .str y) rfl (if_pos hl) h
theorem s_fmtI {i : Int} (hl : i.natAbs.log2 < 1920) (h : Ψ (.im (.str (Str.ofString (toString i)))) δ) : (dCB1 fmtD [.im (.int i)] δ).sat Ψ Ξ := s_cb1 (x := .int i) rfl (if_pos hl) h
theorem s_joins0 {acc : Str} (h : Ψ (.im (.str acc)) δ) : (aJoins [] acc δ).sat Ψ Ξ := h
theorem s_joins {as : List AE} {acc : Str} (h : (a δ).sat (fun s δ1 => ∃ y, imS δ1.ce s = some (.str y) ∧ (acc ++ y).length ≤ 1000000 ∧ (aJoins as (acc ++ y) δ1).sat Ψ Ξ) Ξ) : (aJoins (a :: as) acc δ).sat Ψ Ξ :=
  sat_of_bind (Out.sat_mono h (fun s δ1 ⟨y, e, hl, h1⟩ => by rw [e]; dsimp only; rw [if_pos hl]; exact h1) fun _ _ z => z)
theorem s_fstr {as : List AE} (h : (aJoins as Str.empty δ).sat Ψ Ξ) : (aFstr as δ).sat Ψ Ξ := h
end
end Fx

set_option Elab.async false
set_option linter.all false
set_option autoImplicit false
set_option maxRecDepth 100000
set_option maxHeartbeats 4000000
namespace Fx
open PySem PySem.Spec PyProof.Rows PySem.W L2
/-! ## first, *rest = a list -/
/-! ### as an outcome -/
end Fx

set_option Elab.async false
set_option linter.all false
set_option autoImplicit false
set_option maxRecDepth 100000
set_option maxHeartbeats 2000000
namespace Fx
open PySem PySem.Spec PyProof.Rows L2
/-! ## words apart by any text -/
/-! ## a comprehension within another, without free names -/
end Fx

set_option Elab.async false
set_option linter.all false
set_option autoImplicit false
set_option maxRecDepth 100000
set_option maxHeartbeats 2000000
namespace Fx
open PySem PySem.Spec PyProof.Rows L2
/-! ## list(a text) -/
def listB : ACB := fun ss δ => match ss with
  | [s] => (match dv δ.ce s with
    | some (.str z) => if z.length ≤ 100000 then .ok (.im (.lst (chsD z))) δ else .bad
    | _ => listA ss δ)
  | _ => .bad
section
variable {K : PySem.W.Frag} {xs : Xs}
end
theorem s_bareW {s : Str} {ce : List CO} {Φ : Post} (hl : s.length ≤ 999) (h : Φ.nx ⟨[.im (.str (bare s))], ce⟩) : (aWhile 1000 (aTest (aOp (dOp eqD) (aSl (aVar 0) (aPart (aNeg (aC (.int 1)))) aNoPart) (aC (.str " ")))) (aAsg (aSl (aVar 0) aNoPart (aPart (aNeg (aC (.int 1))))) (gNm 0)) ⟨[.im (.str s)], ce⟩).sat Φ := by
  have e := bare_while (ce := ce) 1000 s.cps.toList (by simp only [Str.length] at hl; simp; omega) (by simp only [Str.length] at hl; simp; omega)
  exact s_nx e h
theorem s_listS {δ : Sta} {Ψ : SV → Sta → Prop} {Ξ : Xn → Sta → Prop} {z : Str} (hl : z.length ≤ 100000) (h : Ψ (.im (.lst (chsD z))) δ) : (listB [.im (.str z)] δ).sat Ψ Ξ := by
  unfold listB
  dsimp only [dv]
  rw [if_pos hl]
  exact h
theorem s_listT {δ : Sta} {Ψ : SV → Sta → Prop} {Ξ : Xn → Sta → Prop} {x : D} {k : Bool} {ds : List D} (e : seqD x = some (k, ds)) (h : Ψ (.im (.lst ds)) δ) : (listB [.im x] δ).sat Ψ Ξ := by
  cases x with
  | lst l => cases e; exact h
  | tup l => cases e; exact h
  | _ => cases e
end Fx

set_option Elab.async false
set_option linter.all false
set_option autoImplicit false
set_option maxRecDepth 100000
set_option maxHeartbeats 2000000
namespace Fx
open PySem PySem.Spec PyProof.Rows L2
/-! ## a cell list walked as it stands (it stays) -/
def lcLK (c : Nat) (us : List SV) (g : AG) (t : AT) (e : AE) (sl : List SV) : List SV → List D → List CO → Option (List D × List CO)
  | [], acc, ce => if ce[c]? = some (.lst us) then some (acc, ce) else none
  | s :: ss, acc, ce => if ce[c]? = some (.lst us) then (match g s ⟨sl, ce⟩ with
    | none => none
    | some δ1 => match t δ1 with
      | .ok b δ2 => if b = true then (match e δ2 with
          | .ok s' δ3 => (match toIm δ3.ce s' with
            | some (y, ce3) => lcLK c us g t e sl ss (acc ++ [y]) (cutOr ce ce3)
            | none => none)
          | _ => none) else lcLK c us g t e sl ss acc (cutOr ce δ2.ce)
      | _ => none) else none
def aLcK (a : AE) (g : AG) (t : AT) (e : AE) (vs : List Nat) : AE := fun δ => (a δ).bind fun s δ1 => match s with
  | .cl c => (match δ1.ce[c]? with
    | some (.lst us) => if us.length ≤ 100000 then (match lcLK c us g t e (wipeS δ1.sl vs) us [] δ1.ce with
      | some (acc, ce) => .ok (.im (.lst acc)) ⟨δ1.sl, ce⟩
      | none => .bad) else .bad
    | _ => .bad)
  | _ => .bad
section
variable {K : PySem.W.Frag} {xs : Xs} {W : WX}
end
/-! ## in, of data at any depth -/
/-! ## plain steps -/
section
variable {δ : Sta} {Ψ : SV → Sta → Prop} {Ξ : Xn → Sta → Prop} {a e : AE}
theorem cutOr_self (ce : List CO) : cutOr ce ce = ce := by unfold cutOr; rw [cutTo_self]
theorem lcK_map {c : Nat} {us : List SV} {g : AG} {sl : List SV} {ce : List CO} (f : SV → D) (hc : ce[c]? = some (.lst us)) : ∀ (ss : List SV) (acc : List D), (∀ u ∈ ss, ∃ δ2, g u ⟨sl, ce⟩ = some δ2 ∧ (e δ2).sat (fun s δ4 => s = .im (f u) ∧ δ4.ce = ce) (fun _ _ => False) ∧ δ2.ce = ce) → lcLK c us g aYes e sl ss acc ce = some (acc ++ ss.map f, ce)
  | [], acc, _ => by
    unfold lcLK
    rw [if_pos hc]; simp
  | u :: ss, acc, h => by
    obtain ⟨δ2, e1, e2, e3⟩ := h u List.mem_cons_self
    unfold lcLK
    rw [if_pos hc, e1]
    dsimp only
    rw [show aYes δ2 = .ok true δ2 from rfl]
    dsimp only
    cases q : e δ2 with
    | bad => rw [q] at e2; exact e2.elim
    | ex x δ3 => rw [q] at e2; exact e2.elim
    | ok s δ3 =>
      rw [q] at e2
      obtain ⟨rfl, e4⟩ := e2
      rw [if_pos rfl]
      simp only [toIm]
      rw [e4, cutOr_self, lcK_map f hc ss _ fun u hu => h u (List.mem_cons_of_mem _ hu)]
      simp
theorem s_lcKP {g : AG} {vs : List Nat} (f : SV → D) (h : (a δ).sat (fun s δ1 => ∃ c us, s = .cl c ∧ δ1.ce[c]? = some (.lst us) ∧ us.length ≤ 100000 ∧ (∀ u ∈ us, ∃ δ2, g u ⟨wipeS δ1.sl vs, δ1.ce⟩ = some δ2 ∧ (e δ2).sat (fun s δ4 => s = .im (f u) ∧ δ4.ce = δ1.ce) (fun _ _ => False) ∧ δ2.ce = δ1.ce) ∧ Ψ (.im (.lst (us.map f))) δ1) Ξ) : (aLcK a g aYes e vs δ).sat Ψ Ξ :=
  sat_of_bind (Out.sat_mono h (fun s δ1 ⟨c, us, e0, e1, e2, h1, h2⟩ => by
    subst e0
    dsimp only
    rw [e1]
    dsimp only
    rw [if_pos e2, lcK_map f e1 us [] h1]
    dsimp only
    rw [List.nil_append]
    exact h2) fun _ _ z => z)
end
end Fx

set_option Elab.async false
set_option linter.all false
set_option autoImplicit false
set_option maxRecDepth 100000
set_option maxHeartbeats 2000000
namespace Fx
open PySem L2
/-! ## a list of cells, by a comprehension -/
def lcV (g : AG) (t : AT) (e : AE) (sl : List SV) : List D → List SV → List CO → Option (List SV × List CO)
  | [], acc, ce => some (acc, ce)
  | d :: ds, acc, ce => match g (.im d) ⟨sl, ce⟩ with
    | none => none
    | some δ1 => match t δ1 with
      | .ok b δ2 => if b = true then (match e δ2 with
          | .ok s δ3 => lcV g t e sl ds (acc ++ [s]) δ3.ce
          | _ => none) else lcV g t e sl ds acc δ2.ce
      | _ => none
def aLcV (it : AI) (g : AG) (t : AT) (e : AE) (vs : List Nat) : AE := fun δ => (it δ).bind fun ds δ1 => if ds.length ≤ 100000 then (match lcV g t e (wipeS δ1.sl vs) ds [] δ1.ce with
  | some (acc, ce) => .ok (.cl ce.length) ⟨δ1.sl, ce ++ [.lst acc]⟩
  | none => .bad) else .bad
section
variable {K : PySem.W.Frag} {xs : Xs} {W : WX}
theorem se_lcV {wi : TI} {g : TG} {tt : TT} {te : TE} {vs : List Nat} {it : AI} {ag : AG} {t : AT} {e : AE} (hi : SI K xs W wi it) (hg : SG K xs g ag) (ht : ST K xs W0 tt t) (he : SE K xs W0 te e)
    (hw : ∀ (x : V) (σ : L2.St) (H : Hp) (Q : L2.St → Hp → Prop), g x (wipe σ vs) H Q → g x (wipe σ vs) H fun σ2 H2 => wipe σ2 vs = wipe σ vs ∧ Q σ2 H2) : SE K xs W (tLc wi g tt te vs) (aLcV it ag t e vs) := by
  intro fr δ Ψ Ξ h σ I as H Q r c
  refine hi fr δ _ _ (Out.sat_bind h) σ I as H _ r ⟨fun ds δ1 J I1 as1 H1 r1 l1 w k => ?_, c.x⟩
  split at k
  rotate_left
  · exact k.elim
  rename_i hds
  intro D hD
  have hfD : fr D = none := none_back r1.fh hD
  have hn := none_back r1.ih hD
  have c1 := c.later l1
  have start : R K ⟨xs, fr⟩ δ1 σ I1 as1 (upd H1 D (.lst [])) := by
    refine ⟨fun b u h => ?_, r1.cf, r1.fi, fun b u h => ?_, r1.len, r1.slots, r1.clen, fun cc o a h1 h2 => ?_, r1.inj⟩
    · rw [upd_ne (ne_of_none (r1.fh b u h) hD)]; exact r1.fh b u h
    · rw [upd_ne (ne_of_none h hn)]; exact r1.ih b u h
    · have z := r1.cells cc o a h1 h2
      refine z.mono (Le.refl I1 as1) (fun l => (z.free l).1) fun l u hu => ?_
      rw [upd_ne (ne_of_none hu hD)]; exact hu
  have noc : ∀ (cc : Nat) (o : CO), δ1.ce[cc]? = some o → o.live = true → as1[cc]? ≠ some D := fun cc o h l z => by
    obtain ⟨_, u, hu⟩ := (r1.cells cc o D h z).free l
    rw [hD] at hu; cases hu
  refine ⟨fun i m H' => m = ds.length - i ∧ i ≤ ds.length ∧ ∃ I' as' acc ws ce', R K ⟨xs, fr⟩ ⟨δ1.sl, ce'⟩ σ I' as' H' ∧ Le I1 as1 I' as' ∧ H' D = some (.lst ws) ∧ I' D = none ∧ (∀ (cc : Nat) (o : CO), ce'[cc]? = some o → o.live = true → as'[cc]? ≠ some D) ∧ RVL K I' as' acc ws ∧ acc.length ≤ i ∧
    ∃ res, lcV ag t e (wipeS δ1.sl vs) (ds.drop i) acc ce' = some res ∧ lcV ag t e (wipeS δ1.sl vs) ds [] δ1.ce = some res, ⟨ds.length, by simp, Nat.zero_le _, I1, as1, [], [], δ1.ce, start, Le.refl I1 as1, upd_same, hn, noc, rfl, Nat.le_refl _, ?_⟩, ?_⟩
  · cases q : lcV ag t e (wipeS δ1.sl vs) ds [] δ1.ce with
    | none => rw [q] at k; exact k.elim
    | some res => exact ⟨res, q, rfl⟩
  rintro i m H2 ⟨rfl, hi, I2, as2, acc, ws, ce2, r3, l3, hD2, hI2, noc2, rl2, hacc, res, hres, hall⟩
  have e2 : Same I1 H2 := l3.i.trans r3.ih
  by_cases hlt : i < ds.length
  · refine .inr ⟨w.go i H2 e2 hlt, fun H' => ∃ I' as' acc ws ce', R K ⟨xs, fr⟩ ⟨δ1.sl, ce'⟩ σ I' as' H' ∧ Le I1 as1 I' as' ∧ H' D = some (.lst ws) ∧ I' D = none ∧ (∀ (cc : Nat) (o : CO), ce'[cc]? = some o → o.live = true → as'[cc]? ≠ some D) ∧ RVL K I' as' acc ws ∧ acc.length ≤ i + 1 ∧
      ∃ res, lcV ag t e (wipeS δ1.sl vs) (ds.drop (i + 1)) acc ce' = some res ∧ lcV ag t e (wipeS δ1.sl vs) ds [] δ1.ce = some res, fun H' p' => ⟨ds.length - (i + 1), by omega, rfl, hlt, p'⟩, fun x H3 y => ?_⟩
    have hd : ds[i]? = some ds[i] := List.getElem?_eq_getElem hlt
    have rh := r3.hide hD2 hI2 noc2
    have r3h := rh
    obtain ⟨I3, r4, l4, q4⟩ := w.yld _ i _ x H2 H3 _ _ I2 as2 hd l3.i rh y
    have r5 := r4.wipe vs
    rw [List.drop_eq_getElem_cons hlt] at hres
    unfold lcV at hres
    cases qg : ag (.im ds[i]) ⟨wipeS δ1.sl vs, ce2⟩ with
    | none => rw [qg] at hres; cases hres
    | some δg =>
      rw [qg] at hres
      dsimp only at hres
      refine hw x σ H3 _ (hg (upd fr D (.lst ws)) (.im ds[i]) ⟨wipeS δ1.sl vs, ce2⟩ (fun δ' => δ' = δg) (by rw [qg]) (wipe σ vs) I3 as2 H3 x _ r5 q4 fun δ4 σ4 I4 as4 H4 r6 l6 k4 => ?_)
      subst k4
      cases qt : t δ4 with
      | bad => rw [qt] at hres; cases hres
      | ex x δ5 => rw [qt] at hres; cases hres
      | ok b δ5 =>
        rw [qt] at hres
        dsimp only at hres
        refine ht (upd fr D (.lst ws)) δ4 (fun b' δ' => b' = b ∧ δ' = δ5) (fun _ _ => False) (by rw [qt]; exact ⟨rfl, rfl⟩) σ4 I4 as4 H4 _ r6 ⟨fun b' δ' I5 as5 H5 r7 l7 k7 => ?_, fun _ _ _ _ _ _ _ _ _ z => z.elim⟩
        obtain ⟨rfl, rfl⟩ := k7
        have l47 : Le I2 as2 I5 as5 := (l4.trans l6).trans l7
        have fin : ∀ {sl9 : List SV} {ce9 : List CO} {σ9 : L2.St} {I9 : Hp} {as9 : List Addr} {H9 : Hp} (u' : HO), R K ⟨xs, upd fr D (.lst ws)⟩ ⟨sl9, ce9⟩ σ9 I9 as9 H9 → Le I2 as2 I9 as9 →
            R K ⟨xs, fr⟩ ⟨δ1.sl, ce9⟩ σ I9 as9 (upd H9 D u') ∧ I9 D = none ∧ ∀ (cc : Nat) (o : CO), ce9[cc]? = some o → o.live = true → as9[cc]? ≠ some D := fun u' r9 l9 => by
          have ra := R.reslot r9 r3h l9
          obtain ⟨rc, _, q2, q3⟩ := ra.show_ (u' := u') hfD
          exact ⟨rc, q2, q3⟩
        cases b' with
        | true =>
          skip
          show te σ4 H5 _
          cases qe : e δ' with
          | bad => rw [if_pos rfl, qe] at hres; cases hres
          | ex x δ6 => rw [if_pos rfl, qe] at hres; cases hres
          | ok s δ6 =>
            rw [if_pos rfl, qe] at hres
            dsimp only at hres
            refine he (upd fr D (.lst ws)) δ' (fun s' δ'' => s' = s ∧ δ'' = δ6) (fun _ _ => False) (by rw [qe]; exact ⟨rfl, rfl⟩) σ4 I5 as5 H5 _ r7 ⟨fun s' δ'' v I6 as6 H6 r8 l8 rv8 k8 => ?_, fun _ _ _ _ _ _ _ _ _ z => z.elim⟩
            obtain ⟨rfl, rfl⟩ := k8
            have l2_7 : Le I2 as2 I6 as6 := l47.trans l8
            have hD6 : H6 D = some (.lst ws) := r8.fh D _ upd_same
            refine ⟨ws, hD6, by rw [rl2.length]; exact Nat.lt_of_le_of_lt hacc (Nat.lt_of_lt_of_le hlt (line_le (Nat.le_trans hds (by decide)))), ?_⟩
            obtain ⟨rc, q2, q3⟩ := fin (sl9 := δ''.sl) (ce9 := δ''.ce) (.lst (ws ++ [v])) r8 l2_7
            refine ⟨I6, as6, acc ++ [s'], ws ++ [v], _, rc, l3.trans l2_7, upd_same, q2, q3, rvl_app (rl2.mono l2_7) ⟨v, [], rfl, rv8, rfl⟩, by simp; omega, res, hres, hall⟩
        | false =>
          rw [if_neg (by simp)] at hres
          have hD5 : H5 D = some (.lst ws) := r7.fh D _ upd_same
          obtain ⟨rc, q2, q3⟩ := fin (sl9 := δ'.sl) (ce9 := δ'.ce) (.lst ws) r7 l47
          have eH : upd H5 D (.lst ws) = H5 := by
            funext b
            by_cases hb : b = D
            · subst hb; rw [upd_same, hD5]
            · rw [upd_ne hb]
          rw [eH] at rc
          exact ⟨I5, as5, acc, ws, _, rc, l3.trans l47, hD5, q2, q3, rl2.mono l47, by omega, res, hres, hall⟩
  · have e : i = ds.length := by omega
    subst e
    refine .inl ⟨w.stop H2 e2, ?_⟩
    rw [List.drop_length] at hres
    unfold lcV at hres
    cases hres
    rw [hall] at k
    have hlen : as2.length = ce2.length := r3.clen
    have le : Le I2 as2 I2 (as2 ++ [D]) := ⟨Same.refl I2, fun _ _ h => getElem?_snoc_lt h⟩
    have cut : ∀ (cc : Nat) (o' : CO) (a' : Addr), (ce2 ++ [CO.lst acc])[cc]? = some o' → (as2 ++ [D])[cc]? = some a' → (ce2[cc]? = some o' ∧ as2[cc]? = some a') ∨ (cc = ce2.length ∧ o' = .lst acc ∧ a' = D) := fun cc o' a' h1 h2 => by
      by_cases hcc : cc < ce2.length
      · rw [List.getElem?_append_left hcc] at h1
        rw [List.getElem?_append_left (by omega)] at h2
        exact .inl ⟨h1, h2⟩
      · have hlt := lt_of_get h1
        simp at hlt
        have e3 : cc = ce2.length := by omega
        subst e3
        simp at h1
        rw [← hlen] at h2
        simp at h2
        exact .inr ⟨rfl, h1.symm, h2.symm⟩
    have rF : R K ⟨xs, fr⟩ ⟨δ1.sl, ce2 ++ [CO.lst acc]⟩ σ I2 (as2 ++ [D]) H2 := by
      refine ⟨r3.fh, fun cc o' a' h1 h2 l' => ?_, r3.fi, r3.ih, r3.len, fun i s hs => ?_, by simp [hlen], fun cc o' a' h1 h2 => ?_, fun c3 c4 o1 o2 a1 h1 h2 l1 l2 h3 h4 => ?_⟩
      · rcases cut cc o' a' h1 h2 with ⟨g1, g2⟩ | ⟨_, _, rfl⟩
        · exact r3.cf cc o' a' g1 g2 l'
        · exact hfD
      · rcases r3.slots i s hs with z | ⟨v, z1, z2⟩
        · exact .inl z
        · exact .inr ⟨v, z1, z2.mono le⟩
      · rcases cut cc o' a' h1 h2 with ⟨g1, g2⟩ | ⟨_, rfl, rfl⟩
        · have z := r3.cells cc o' a' g1 g2
          exact z.mono le (fun l => (z.free l).1) fun _ _ h => h
        · exact ⟨hI2, ws, hD2, rl2.mono le⟩
      · rcases cut c3 o1 a1 h1 h3 with ⟨g1, g3⟩ | ⟨e3, _, z1⟩
        · rcases cut c4 o2 a1 h2 h4 with ⟨g2, g4⟩ | ⟨_, _, z2⟩
          · exact r3.inj c3 c4 o1 o2 a1 g1 g2 l1 l2 g3 g4
          · subst z2; exact absurd g3 (noc2 c3 o1 g1 l1)
        · rcases cut c4 o2 a1 h2 h4 with ⟨g2, g4⟩ | ⟨e4, _, _⟩
          · subst z1; exact absurd g4 (noc2 c4 o2 g2 l2)
          · rw [e3, e4]
    have hDa : (as2 ++ [D])[ce2.length]? = some D := by rw [← hlen]; simp
    exact c1.v (.cl ce2.length) _ (.ref D) I2 (as2 ++ [D]) H2 rF (l3.trans le) ⟨D, hDa, rfl⟩ k
end
/-! ## cells that are data for a while -/
def scalD : D → Bool
  | .non => true | .bl _ => true | .int _ => true | .str _ => true | _ => false
def scalS : SV → Bool
  | .im d => scalD d
  | _ => false
def frzL : List SV → List CO → Option (List CO)
  | [], ce => some ce
  | s :: ss, ce => match toIm ce s with
    | some (_, ce1) => frzL ss ce1
    | none => none
def frz2 (ce : List CO) (c : Nat) : Option (List CO) := match ce[c]? with
  | some (.lst us) => (match frzL us ce with
    | some ce1 => (frz ce1 c).map (·.2)
    | none => none)
  | some (.fz _) => some ce
  | _ => none
def frzV : List Nat → List SV → List CO → Option (List CO)
  | [], _, ce => some ce
  | i :: is, sl, ce => match sl[i]? with
    | some (.cl c) => (match frz2 ce c with
      | some ce1 => frzV is sl ce1
      | none => none)
    | some (.im _) => frzV is sl ce
    | _ => none
def sameL : List SV → List SV → Bool
  | [], [] => true
  | .im a :: s, .im b :: t => scalD a && decide (a = b) && sameL s t
  | _, _ => false
def thawO : CO → CO → CO → Bool
  | .fz _, _, _ => true
  | .dead, _, _ => true
  | .exc _ _, _, _ => true
  | .lst _, .fz (.lst _), _ => true
  | .lst us, _, .lst ws => sameL us ws
  | _, _, _ => false
def thawL : List CO → List CO → List CO → Bool
  | [], _, _ => true
  | o :: os, o1 :: os1, o2 :: os2 => thawO o o1 o2 && thawL os os1 os2
  | _, _, _ => false
def noCl : List Nat → List SV → Bool
  | [], _ => true
  | i :: is, sl => (match sl[i]? with
    | some (.cl _) => false
    | _ => true) && noCl is sl
def aThaw (is : List Nat) (a : AE) : AE := fun δ => if noCl is δ.sl = true then a δ else match frzV is δ.sl δ.ce with
  | some ce1 => (match a ⟨δ.sl, ce1⟩ with
    | .ok s δ2 => if (scalS s && thawL δ.ce ce1 δ2.ce) = true then .ok s δ else .bad
    | _ => .bad)
  | none => .bad
section
variable {K : PySem.W.Frag} {xs : Xs} {W : WX}
theorem scal_rep {I I' : Hp} {d : D} {v : V} (h : scalD d = true) (r : Rep K I d v) : Rep K I' d v := by
  cases d <;> first | exact r | cases h
theorem scal_rv {I I' : Hp} {as as' : List Addr} {s : SV} {v : V} (h : scalS s = true) (r : RV K I as s v) : RV K I' as' s v := by
  cases s with
  | im d => exact scal_rep (show scalD d = true from h) (show Rep K I d v from r)
  | _ => cases h
theorem sameL_rv {I I' : Hp} {as as' : List Addr} : ∀ {us ws : List SV} {vs : List V}, sameL us ws = true → RVL K I as ws vs → RVL K I' as' us vs
  | [], [], _, _, r => r
  | [], _ :: _, _, h, _ => by cases h
  | .im a :: s, [], _, h, _ => by cases h
  | .no :: s, _, _, h, _ => by cases h
  | .cl _ :: s, _, _, h, _ => by cases h
  | .im a :: s, .no :: t, _, h, _ => by cases h
  | .im a :: s, .cl _ :: t, _, h, _ => by cases h
  | .im a :: s, .im b :: t, _, h, ⟨v, r, h1, h2, h3⟩ => by
    have h : (scalD a && decide (a = b) && sameL s t) = true := h
    rw [Bool.and_eq_true, Bool.and_eq_true] at h
    have e : a = b := of_decide_eq_true h.1.2
    subst e
    exact ⟨v, r, h1, scal_rep h.1.1 (show Rep K I a v from h2), sameL_rv h.2 h3⟩
theorem R.frzL {ec : EC} {sl : List SV} {σ : L2.St} {as : List Addr} {H : Hp} : ∀ {us : List SV} {vs : List V} {ce ce1 : List CO} {I : Hp}, R K ec ⟨sl, ce⟩ σ I as H → Fx.frzL us ce = some ce1 → RVL K I as us vs → ∃ I', R K ec ⟨sl, ce1⟩ σ I' as H ∧ Le I as I' as
  | [], _, ce, ce1, I, r, e, _ => by cases e; exact ⟨I, r, Le.refl I as⟩
  | s :: ss, _, ce, ce1, I, r, e, ⟨v, vs, _, h2, h3⟩ => by
    simp only [Fx.frzL] at e
    cases q : Fx.toIm ce s with
    | none => rw [q] at e; cases e
    | some p =>
      obtain ⟨d, ce2⟩ := p
      rw [q] at e
      obtain ⟨I1, r1, l1, _⟩ := R.toIm r q h2
      obtain ⟨I2, r2, l2⟩ := R.frzL r1 e (h3.mono l1)
      exact ⟨I2, r2, l1.trans l2⟩
theorem R.frz2 {ec : EC} {sl : List SV} {σ : L2.St} {as : List Addr} {H : Hp} {ce ce1 : List CO} {I : Hp} {c : Nat} (r : R K ec ⟨sl, ce⟩ σ I as H) (e : Fx.frz2 ce c = some ce1) : ∃ I', R K ec ⟨sl, ce1⟩ σ I' as H ∧ Le I as I' as := by
  unfold Fx.frz2 at e
  split at e
  · rename_i us hc
    have hlt : c < as.length := by rw [r.clen]; exact lt_of_get hc
    obtain ⟨_, vs, _, rv⟩ := r.cells c _ _ hc (List.getElem?_eq_getElem hlt)
    cases q : Fx.frzL us ce with
    | none => rw [q] at e; cases e
    | some ce2 =>
      rw [q] at e
      obtain ⟨I1, r1, l1⟩ := R.frzL r q rv
      dsimp only at e
      cases q2 : Fx.frz ce2 c with
      | none => rw [q2] at e; cases e
      | some p =>
        obtain ⟨d, ce3⟩ := p
        rw [q2] at e
        cases e
        obtain ⟨I2, r2, l2, _⟩ := R.frz r1 q2
        exact ⟨I2, r2, l1.trans l2⟩
  · cases e; exact ⟨I, r, Le.refl I as⟩
  · cases e
theorem R.frzV {ec : EC} {sl : List SV} {σ : L2.St} {as : List Addr} {H : Hp} : ∀ {is : List Nat} {ce ce1 : List CO} {I : Hp}, R K ec ⟨sl, ce⟩ σ I as H → Fx.frzV is sl ce = some ce1 → ∃ I', R K ec ⟨sl, ce1⟩ σ I' as H ∧ Le I as I' as
  | [], ce, ce1, I, r, e => by cases e; exact ⟨I, r, Le.refl I as⟩
  | i :: is, ce, ce1, I, r, e => by
    simp only [Fx.frzV] at e
    split at e
    · rename_i c _
      cases q : Fx.frz2 ce c with
      | none => rw [q] at e; cases e
      | some ce2 =>
        rw [q] at e
        obtain ⟨I1, r1, l1⟩ := R.frz2 r q
        obtain ⟨I2, r2, l2⟩ := R.frzV r1 e
        exact ⟨I2, r2, l1.trans l2⟩
    · exact R.frzV r e
    · cases e
theorem thawL_get : ∀ {os os1 os2 : List CO} {c : Nat} {o : CO}, thawL os os1 os2 = true → os[c]? = some o → ∃ o1 o2, os1[c]? = some o1 ∧ os2[c]? = some o2 ∧ thawO o o1 o2 = true
  | [], _, _, _, _, _, h => by cases h
  | o :: os, [], _, _, _, h, _ => by cases h
  | o :: os, o1 :: os1, [], _, _, h, _ => by cases h
  | o :: os, o1 :: os1, o2 :: os2, 0, o', h, g => by
    have h : (thawO o o1 o2 && thawL os os1 os2) = true := h
    rw [Bool.and_eq_true] at h
    cases g
    exact ⟨o1, o2, rfl, rfl, h.1⟩
  | o :: os, o1 :: os1, o2 :: os2, c + 1, o', h, g => by
    have h : (thawO o o1 o2 && thawL os os1 os2) = true := h
    rw [Bool.and_eq_true] at h
    exact thawL_get (os := os) (os1 := os1) (os2 := os2) (c := c) h.2 g
theorem se_thaw {te : TE} {a : AE} {is : List Nat} (ha : SE K xs W te a) : SE K xs W te (aThaw is a) := by
  intro fr δ Ψ Ξ h σ I as H Q r c
  unfold aThaw at h
  by_cases hn : noCl is δ.sl = true
  · rw [if_pos hn] at h
    exact ha fr δ Ψ Ξ h σ I as H Q r c
  rw [if_neg hn] at h
  cases q1 : Fx.frzV is δ.sl δ.ce with
  | none => rw [q1] at h; exact h.elim
  | some ce1 =>
    rw [q1] at h
    dsimp only at h
    cases q2 : a ⟨δ.sl, ce1⟩ with
    | bad => rw [q2] at h; exact h.elim
    | ex x δ2 => rw [q2] at h; exact h.elim
    | ok s δ2 =>
      rw [q2] at h
      dsimp only at h
      by_cases hb : (scalS s && thawL δ.ce ce1 δ2.ce) = true
      · rw [if_pos hb] at h
        rw [Bool.and_eq_true] at hb
        obtain ⟨I1, r1, l1⟩ := R.frzV (sl := δ.sl) r q1
        refine ha fr ⟨δ.sl, ce1⟩ (fun s' δ' => s' = s ∧ δ' = δ2) (fun _ _ => False) (by rw [q2]; exact ⟨rfl, rfl⟩) σ I1 as H Q r1 ⟨fun s' δ' v I2 as2 H2 r2 l2 rv k => ?_, fun _ _ _ _ _ _ _ _ _ z => z.elim⟩
        obtain ⟨rfl, rfl⟩ := k
        have e12 : Same I1 H2 := l2.i.trans r2.ih
        have rB : R K ⟨xs, fr⟩ δ σ I as H2 := by
          refine ⟨r2.fh, r.cf, r.fi, l1.i.trans e12, r.len, r.slots, r.clen, fun cc o a' h1 h2 => ?_, r.inj⟩
          obtain ⟨o1, o2, g1, g2, g3⟩ := thawL_get hb.2 h1
          have z := r.cells cc o a' h1 h2
          have z1 := r1.cells cc o1 a' g1 h2
          have z2 := r2.cells cc o2 a' g2 (l2.a _ _ h2)
          cases o with
          | fz d => exact z
          | dead => trivial
          | exc _ _ => exact z
          | lst us =>
            obtain ⟨n1, vs, hh, rv0⟩ := z
            have key : ∀ ds, o1 = .fz (.lst ds) → CellOk K ⟨xs, fr⟩ I as H2 a' (.lst us) := fun ds e => by
              subst e
              obtain ⟨b, ws, e1, e2, _⟩ := (show Rep K I1 (.lst ds) (.ref a') from z1)
              cases e1
              have e3 := r1.ih _ _ e2
              rw [hh] at e3
              cases e3
              exact ⟨n1, vs, e12 _ _ e2, rv0⟩
            have key2 : ∀ ws, o2 = .lst ws → sameL us ws = true → CellOk K ⟨xs, fr⟩ I as H2 a' (.lst us) := fun ws e1 e2 => by
              subst e1
              obtain ⟨_, vs2, hh2, rv2⟩ := z2
              exact ⟨n1, vs2, hh2, sameL_rv e2 rv2⟩
            cases o1 with
            | fz d => cases d with
              | lst ds => exact key ds rfl
              | _ => cases o2 with
                | lst ws => exact key2 ws rfl g3
                | _ => cases g3
            | _ => cases o2 with
              | lst ws => exact key2 ws rfl g3
              | _ => cases g3
          | _ => cases o1 <;> cases g3
        exact c.v s' δ v I as H2 rB (Le.refl I as) (scal_rv hb.1 rv) h
      · rw [if_neg hb] at h; exact h.elim
end
section
variable {δ : Sta} {Ψ : SV → Sta → Prop} {Ξ : Xn → Sta → Prop} {a : AE}
theorem s_thaw0 {is : List Nat} (hn : noCl is δ.sl = true) (h : (a δ).sat Ψ Ξ) : (aThaw is a δ).sat Ψ Ξ := by
  unfold aThaw
  rw [if_pos hn]
  exact h
theorem s_thaw {is : List Nat} (hn : noCl is δ.sl = false) (h : ∃ ce1, frzV is δ.sl δ.ce = some ce1 ∧ (a ⟨δ.sl, ce1⟩).sat (fun s δ2 => scalS s = true ∧ thawL δ.ce ce1 δ2.ce = true ∧ Ψ s δ) fun _ _ => False) : (aThaw is a δ).sat Ψ Ξ := by
  obtain ⟨ce1, e, h⟩ := h
  unfold aThaw
  rw [if_neg (by rw [hn]; decide), e]
  dsimp only
  cases q : a ⟨δ.sl, ce1⟩ with
  | bad => rw [q] at h; exact h.elim
  | ex x δ2 => rw [q] at h; exact h.elim
  | ok s δ2 =>
    rw [q] at h
    obtain ⟨h1, h2, h3⟩ := h
    dsimp only
    rw [if_pos (by rw [h1, h2]; rfl)]
    exact h3
theorem lcV_J {g : AG} {e : AE} {sl : List SV} (J : List D → List SV → List CO → Prop) (h : ∀ d ds acc ce, J (d :: ds) acc ce → ∃ δ2, g (.im d) ⟨sl, ce⟩ = some δ2 ∧ (e δ2).sat (fun s δ3 => J ds (acc ++ [s]) δ3.ce) fun _ _ => False) : ∀ (ds : List D) (acc : List SV) (ce : List CO), J ds acc ce → ∃ acc' ce', lcV g aYes e sl ds acc ce = some (acc', ce') ∧ J [] acc' ce'
  | [], acc, ce, hJ => ⟨acc, ce, rfl, hJ⟩
  | d :: ds, acc, ce, hJ => by
    obtain ⟨δ2, e1, e2⟩ := h d ds acc ce hJ
    unfold lcV
    rw [e1]
    dsimp only
    rw [show aYes δ2 = .ok true δ2 from rfl]
    dsimp only
    rw [if_pos rfl]
    cases q : e δ2 with
    | bad => rw [q] at e2; exact e2.elim
    | ex x δ3 => rw [q] at e2; exact e2.elim
    | ok s δ3 =>
      rw [q] at e2
      exact lcV_J J h ds (acc ++ [s]) δ3.ce e2
theorem s_lcV {it : AI} {g : AG} {e : AE} {vs : List Nat} (J : List D → List SV → List CO → Prop) (h : (it δ).sat (fun ds δ1 => ds.length ≤ 100000 ∧ J ds [] δ1.ce ∧ (∀ d ds acc ce, J (d :: ds) acc ce → ∃ δ2, g (.im d) ⟨wipeS δ1.sl vs, ce⟩ = some δ2 ∧ (e δ2).sat (fun s δ3 => J ds (acc ++ [s]) δ3.ce) fun _ _ => False) ∧ ∀ acc ce, J [] acc ce → Ψ (.cl ce.length) ⟨δ1.sl, ce ++ [.lst acc]⟩) Ξ) : (aLcV it g aYes e vs δ).sat Ψ Ξ := by
  unfold aLcV
  refine sat_of_bind (Out.sat_mono h (fun ds δ1 ⟨h0, h1, h2, h3⟩ => ?_) fun _ _ z => z)
  rw [if_pos h0]
  obtain ⟨acc, ce, e1, hJ⟩ := lcV_J J h2 ds [] δ1.ce h1
  rw [e1]
  exact h3 acc ce hJ
end
end Fx

set_option Elab.async false
set_option linter.all false
set_option autoImplicit false
set_option maxRecDepth 100000
set_option maxHeartbeats 2000000
namespace Fx
open PySem L2
/-! ## a list of data, so many times -/
def repD (n : Nat) (xs : List D) : List D := (List.replicate n xs).flatten
def mulA : AOp := fun s t δ => match dv δ.ce s, dv δ.ce t with
  | some (.lst xs), some (.int n) => if xs.length ≤ 1000 ∧ -1000 ≤ n ∧ n ≤ 1000 then .ok (.im (.lst (repD n.toNat xs))) δ else .bad
  | _, _ => dOp mulD s t δ
section
variable {K : PySem.W.Frag} {xs : Xs}
theorem RepL.rep {I : Hp} {ds : List D} {vs : List V} (h : RepL K I ds vs) : ∀ n : Nat, RepL K I (repD n ds) (List.replicate n vs).flatten
  | 0 => rfl
  | n + 1 => by
    show RepL K I (ds ++ repD n ds) (vs ++ (List.replicate n vs).flatten)
    exact RepL.append h (RepL.rep h n)
theorem ok_mulL : OpOk K xs rMulA mulA := by
  intro fr s t δ Ψ Ξ h
  unfold mulA at h
  split at h
  · rename_i ds n e1 e2
    split at h
    · rename_i hl
      refine ow_r (ow_r ?_)
      intro σ I as H Q v w r h1 h2 c
      obtain ⟨a, vs, rfl, ha, ra⟩ := r.dvL e1 h1
      have e3 := r.dv e2 h2
      refine ⟨a, n, vs, rfl, e3, ha, by omega, by omega, ?_, fun p hp => ?_⟩
      · rw [ra.length]
        have h4 : ds.length * n.toNat ≤ 1000 * 1000 := Nat.mul_le_mul hl.1 (by omega)
        have : (1000 * 1000 : Nat) ≤ sizeLine := by decide
        omega
      · obtain ⟨r', l⟩ := r.newF (o := .lst (List.replicate n.toNat vs).flatten) hp
        exact c (.im (.lst (repD n.toNat ds))) δ _ _ as _ r' l ⟨p, _, rfl, upd_same, RepL.mono l.i _ _ (RepL.rep ra _)⟩ h
    · exact h.elim
  · exact ok_mul fr s t δ Ψ Ξ h
end
section
variable {δ : Sta} {Ψ : SV → Sta → Prop} {Ξ : Xn → Sta → Prop}
theorem s_mulL {xs : List D} {n : Int} (hc : xs.length ≤ 1000 ∧ -1000 ≤ n ∧ n ≤ 1000) (h : Ψ (.im (.lst (repD n.toNat xs))) δ) : (mulA (.im (.lst xs)) (.im (.int n)) δ).sat Ψ Ξ := by
  unfold mulA
  simp only [dv]
  rw [if_pos hc]
  exact h
end
end Fx

set_option Elab.async false
set_option linter.all false
set_option autoImplicit false
set_option maxRecDepth 100000
set_option maxHeartbeats 0
namespace K10
open PySem L2 Fx
def tabs : Tabs := []
def ct : CT := ⟨[("Table", ["columns", "rows"])], []⟩
def isi : Isi := [((.blt "NoneType", .blt "list"), false), ((.blt "bool", .blt "list"), false), ((.blt "int", .blt "list"), false), ((.blt "str", .blt "list"), false), ((.blt "list", .blt "list"), true), ((.blt "tuple", .blt "list"), false), ((.blt "dict", .blt "list"), false), ((.own "Table", .blt "list"), false), ((.blt "NoneType", .blt "tuple"), false), ((.blt "bool", .blt "tuple"), false), ((.blt "int", .blt "tuple"), false), ((.blt "str", .blt "tuple"), false), ((.blt "list", .blt "tuple"), false), ((.blt "tuple", .blt "tuple"), true), ((.blt "dict", .blt "tuple"), false), ((.own "Table", .blt "tuple"), false), ((.blt "NoneType", .blt "str"), false), ((.blt "bool", .blt "str"), false), ((.blt "int", .blt "str"), false), ((.blt "str", .blt "str"), true), ((.blt "list", .blt "str"), false), ((.blt "tuple", .blt "str"), false), ((.blt "dict", .blt "str"), false), ((.own "Table", .blt "str"), false), ((.blt "NoneType", .blt "int"), false), ((.blt "bool", .blt "int"), true), ((.blt "int", .blt "int"), true), ((.blt "str", .blt "int"), false), ((.blt "list", .blt "int"), false), ((.blt "tuple", .blt "int"), false), ((.blt "dict", .blt "int"), false), ((.own "Table", .blt "int"), false), ((.blt "NoneType", .blt "bool"), false), ((.blt "bool", .blt "bool"), true), ((.blt "int", .blt "bool"), false), ((.blt "str", .blt "bool"), false), ((.blt "list", .blt "bool"), false), ((.blt "tuple", .blt "bool"), false), ((.blt "dict", .blt "bool"), false), ((.own "Table", .blt "bool"), false)]
def tabx_InvalidTable : List (XC × Bool) := [(.own "InvalidTable", true)]
def isx : Isi := [((.own "InvalidTable", .own "PartError"), true), ((.own "InvalidTable", .own "InvalidWays"), false)]
/-- _law_script 0, _law_k 1, _law_great 2, _law_seed 3 -/
def t__law_box : Fn := aDefC 4
    (aSeq (aAsg (aOp addA (aOp (dOp mulD) (aC (.int 6701)) (aVar 1)) (aC (.int 47))) (gNm 2))
    (aSeq (aIfS (aTest (aOp (dOp ltD) (aVar 1) (aCB (dCB1 lenD) (aCons (aVar 0) aNil)))) (aAsg (aCB (dCB1 absD) (aCons (aCB (dCB1 intD) (aCons (aOp (ixA tabs) (aVar 0) (aVar 1)) aNil)) aNil)) (gNm 2)) (aIfS (aTest (aOp (dOp gtD) (aCB (dCB1 lenD) (aCons (aVar 0) aNil)) (aC (.int 0)))) (aAsg (aOp addA (aVar 2) (aOp (dOp mulD) (aOp (dOp modD) (aCB (dCB1 intD) (aCons (aOp (ixA tabs) (aVar 0) (aOp (dOp modD) (aCB (dCB1 intD) (aCons (aVar 1) aNil)) (aCB (dCB1 lenD) (aCons (aVar 0) aNil)))) aNil)) (aC (.int 2147483629))) (aC (.int 69539)))) (gNm 2)) aNext))
    (aSeq (aAsg (aOp addA (aOp (dOp modD) (aCB (dCB1 intD) (aCons (aOp addA (aOp addA (aOp (dOp mulD) (aOp (dOp modD) (aCB (dCB1 intD) (aCons (aVar 2) aNil)) (aC (.int 2147483629))) (aC (.int 48281))) (aOp (dOp mulD) (aC (.int 40847)) (aVar 1))) (aC (.int 7))) aNil)) (aC (.int 2147483629))) (aC (.int 1))) (gNm 3))
    (aRet (aLstC (aCons (aOp (ixA tabs) (aLst (aCons (aC (.int 0)) (aCons (aVar 2) aNil))) (aCB (dCB1 intD) (aCons (aOp (dOp geD) (aVar 2) (aOp (dOp powD) (aC (.int 10)) (aC (.int 18)))) aNil))) (aCons (aVar 3) (aCons (aC (.int 0)) aNil))))))))
@[reducible] def f__law_box : Fn := loc t__law_box
/-- _law_box_here 0, _law_many 1, _law_digit 2, _law_near 3 -/
def t__law_take : Fn := aDef 4
    (aSeq (aIfS (aTest (aOp (dOp gtD) (aOp (ixA tabs) (aVar 0) (aC (.int 0))) (aC (.int 0)))) (aSeq (aAsg (aOp (dOp modD) (aCB (dCB1 intD) (aCons (aOp (ixA tabs) (aVar 0) (aC (.int 0))) aNil)) (aVar 1)) (gNm 2))
    (aSeq (aAsg (aOp (dOp fdivD) (aOp (ixA tabs) (aVar 0) (aC (.int 0))) (aVar 1)) (gIx (aVar 0) (aC (.int 0))))
    (aRet (aVar 2)))) aNext)
    (aSeq (aAsg (aOp addA (aOp (ixA tabs) (aVar 0) (aC (.int 2))) (aC (.int 1))) (gIx (aVar 0) (aC (.int 2))))
    (aSeq (aAsg (aOp (dOp modD) (aCB (dCB1 intD) (aCons (aOp (dOp mulD) (aOp addA (aOp (ixA tabs) (aVar 0) (aC (.int 1))) (aOp (dOp mulD) (aC (.int 104773)) (aOp (ixA tabs) (aVar 0) (aC (.int 2))))) (aC (.int 69661))) aNil)) (aC (.int 2147483647))) (gNm 3))
    (aSeq (aAsg (aOp addA (aOp (dOp modD) (aCB (dCB1 intD) (aCons (aOp addA (aOp (dOp mulD) (aVar 3) (aC (.int 48299))) (aC (.int 30137))) aNil)) (aC (.int 2147483629))) (aC (.int 1))) (gIx (aVar 0) (aC (.int 1))))
    (aRet (aOp (dOp modD) (aCB (dCB1 intD) (aCons (aOp (dOp fdivD) (aOp addA (aOp (dOp mulD) (aVar 3) (aC (.int 2147483647))) (aOp (ixA tabs) (aVar 0) (aC (.int 1)))) (aC (.int 8191))) aNil)) (aVar 1)))))))
@[reducible] def f__law_take : Fn := loc t__law_take
/-- _law_box_here 0, _law_some 1 -/
def t__law_pick : Fn := aDef 2
    (aRet (aOp (ixA tabs) (aVar 1) (aCall 2 f__law_take [] (aCons (aVar 0) (aCons (aThaw [1] (aCB (dCB1 lenD) (aCons (aVar 1) aNil))) aNil)))))
@[reducible] def f__law_pick : Fn := loc t__law_pick
/-- _law_box_here 0, _law_some 1, _law_rest 2, _law_found 3, _law_turn 4 -/
def t__law_shuffled : Fn := aDef 5
    (aSeq (aPar 2 3 (aCons (aCB listC (aCons (aVar 1) aNil)) (aCons (aLstC aNil) aNil)))
    (aSeq (aFor (aRg1 (aCons (aCB (dCB1 lenD) (aCons (aVar 2) aNil)) aNil)) (gNm 4) (aExpr (aBM "list" appendA (aVar 3) (aCons (aBM "list" popA (aVar 2) (aCons (aCall 2 f__law_take [] (aCons (aVar 0) (aCons (aCB (dCB1 lenD) (aCons (aVar 2) aNil)) aNil))) aNil)) aNil))))
    (aRet (aVar 3))))
@[reducible] def f__law_shuffled : Fn := loc t__law_shuffled
/-- _law_box_here 0, _law_many 1, _law_kept 2, _law_letters 3, _law_form 4, _law_spot 5, _law_k 6 -/
def t__law_names : Fn := aDef 7
    (aSeq (aAsg (aLst (aCons (aC (.str "pick")) (aCons (aC (.str "fill")) (aCons (aC (.str "trim")) (aCons (aC (.str "text")) (aCons (aC (.str "home")) (aCons (aC (.str "far")) (aCons (aC (.str "a")) (aCons (aC (.str "ab")) (aCons (aC (.str "zzzz")) (aCons (aC (.str "n")) (aCons (aC (.str "cuts")) (aCons (aC (.str "undo")) aNil))))))))))))) (gNm 2))
    (aSeq (aAsg (aTup (aCons (aC (.str "abcdefghijklmnopqrstuvwxyz")) (aCons (aCall 2 f__law_take [] (aCons (aVar 0) (aCons (aC (.int 3)) aNil))) (aCons (aCall 2 f__law_take [] (aCons (aVar 0) (aCons (aC (.int 26)) aNil))) aNil)))) (gTp [(gNm 3), (gNm 4), (gNm 5)]))
    (aSeq (aIfS (aTest (aOp (dOp eqD) (aVar 4) (aC (.int 0)))) (aRet (aLc (aRg1 (aCons (aVar 1) aNil)) (gNm 6) aYes (aOp (ixA tabs) (aVar 2) (aOp (dOp modD) (aCB (dCB1 intD) (aCons (aOp addA (aVar 5) (aOp (dOp mulD) (aC (.int 5)) (aVar 6))) aNil)) (aC (.int 12)))) [6])) aNext)
    (aSeq (aIfS (aAnd (aTest (aOp (dOp eqD) (aVar 4) (aC (.int 1)))) (aTest (aOp (dOp ltD) (aVar 1) (aC (.int 5))))) (aRet (aCall 2 f__law_shuffled [] (aCons (aVar 0) (aCons (aLc (aRg1 (aCons (aVar 1) aNil)) (gNm 6) aYes (aSl (aC (.str "nnnn")) aNoPart (aPart (aOp addA (aVar 6) (aC (.int 1))))) [6]) aNil)))) aNext)
    (aRet (aLc (aRg1 (aCons (aVar 1) aNil)) (gNm 6) aYes (aOp addA (aOp (ixA tabs) (aVar 3) (aOp (dOp modD) (aCB (dCB1 intD) (aCons (aOp addA (aVar 5) (aOp (dOp mulD) (aC (.int 7)) (aVar 6))) aNil)) (aC (.int 26)))) (aOp (dOp mulD) (aC (.str "q")) (aOp (dOp modD) (aCB (dCB1 intD) (aCons (aVar 5) aNil)) (aC (.int 4))))) [6]))))))
@[reducible] def f__law_names : Fn := loc t__law_names
/-- _law_box_here 0, _law_many 1, _law_name 2 -/
def t__law_columns : Fn := aDef 3
    (aRet (aLc (aIt (aCall 2 f__law_names [] (aCons (aVar 0) (aCons (aVar 1) aNil)))) (gNm 2) aYes (aTup (aCons (aVar 2) (aCons (aCall 2 f__law_pick [] (aCons (aVar 0) (aCons (aLst (aCons (aC (.str "text")) (aCons (aC (.str "text")) (aCons (aC (.str "number")) aNil)))) aNil))) aNil))) [2]))
@[reducible] def f__law_columns : Fn := loc t__law_columns
/-- value 0 -/
def t_is_sequence : Fn := aDef 1
    (aRet (aCB (isiT isi) (aCons (aVar 0) (aCons (aTup (aCons (aC (.ty "list")) (aCons (aC (.ty "tuple")) aNil))) aNil))))
@[reducible] def f_is_sequence : Fn := loc t_is_sequence
/-- value 0, letter 1 -/
def t_is_text : Fn := aDef 2
    (aSeq (aIfS (aOr (aNot (aTest (aCB (isiA isi) (aCons (aVar 0) (aCons (aC (.ty "str")) aNil))))) (aTest (aOp (dOp gtD) (aCB (dCB1 lenD) (aCons (aVar 0) aNil)) (aC (.int 10))))) (aRet (aC (.bl false))) aNext)
    (aRet (aCB (dCB1 allD) (aCons (aLc (aIt (aBM "str" (dBM1 rstripD) (aVar 0) (aCons (aC (.str " ")) aNil))) (gNm 1) aYes (aOp (dOp inD) (aVar 1) (aC (.str "abcdefghijklmnopqrstuvwxyzABCDEFGHIJKLMNOPQRSTUVWXYZ"))) [1]) aNil))))
@[reducible] def f_is_text : Fn := loc t_is_text
/-- value 0 -/
def t_is_integer : Fn := aDef 1
    (aRet (aAndV (aCB (isiA isi) (aCons (aVar 0) (aCons (aC (.ty "int")) aNil))) (aNotV (aCB (isiA isi) (aCons (aVar 0) (aCons (aC (.ty "bool")) aNil))))))
@[reducible] def f_is_integer : Fn := loc t_is_integer
/-- value 0 -/
def t_is_number : Fn := aDef 1
    (aRet (aAndV (aCall 1 f_is_integer [] (aCons (aVar 0) aNil)) (aChain (dOp leD) (dOp leD) (aNeg (aC (.int 1000000))) (aVar 0) (aC (.int 1000000)))))
@[reducible] def f_is_number : Fn := loc t_is_number
/-- value 0, sort 1 -/
def t_is_of_sort : Fn := aDef 2
    (aRet (aIf (aTest (aOp (dOp eqD) (aVar 1) (aC (.str "text")))) (aCall 1 f_is_text [] (aCons (aVar 0) aNil)) (aCall 1 f_is_number [] (aCons (aVar 0) aNil))))
@[reducible] def f_is_of_sort : Fn := loc t_is_of_sort
/-- columns 0, cells 1, cell 2, name 3, sort 4 -/
def t_is_row : Fn := aDef 5
    (aRet (aCB (dCB1 allD) (aCons (aLc (aZipM (aCons (aVar 1) (aCons (aVar 0) aNil))) (gTp [(gNm 2), (gTp [(gNm 3), (gNm 4)])]) aYes (aOrV (aOp (dOp isD) (aVar 2) (aC .non)) (aCall 2 f_is_of_sort [] (aCons (aVar 2) (aCons (aVar 4) aNil)))) [2, 3, 4]) aNil)))
@[reducible] def f_is_row : Fn := loc t_is_row
/-- columns 0, rows 1, row 2 -/
def t_need_rows : Fn := aDef 3
    (aSeq (aIfS (aNot (aTest (aCall 1 f_is_sequence [] (aCons (aVar 1) aNil)))) (aRaise "InvalidTable" "word" (aC (.str "rows"))) aNext)
    (aSeq (aIfS (aNot (aTest (aCB (dCB1 allD) (aCons (aLc (aIt (aVar 1)) (gNm 2) aYes (aAndV (aCall 1 f_is_sequence [] (aCons (aVar 2) aNil)) (aOp (dOp eqD) (aCB (dCB1 lenD) (aCons (aVar 2) aNil)) (aCB (dCB1 lenD) (aCons (aVar 0) aNil)))) [2]) aNil)))) (aRaise "InvalidTable" "word" (aC (.str "row"))) aNext)
    (aIfS (aNot (aTest (aCB (dCB1 allD) (aCons (aLc (aIt (aVar 1)) (gNm 2) aYes (aCall 2 f_is_row [] (aCons (aVar 0) (aCons (aVar 2) aNil))) [2]) aNil)))) (aRaise "InvalidTable" "word" (aC (.str "cell"))) aNext)))
@[reducible] def f_need_rows : Fn := loc t_need_rows
/-- value 0, pair 1 -/
def t_columns_of : Fn := aDef 2
    (aRet (aCB tupleA (aCons (aLc (aIt (aVar 0)) (gNm 1) aYes (aTup (aCons (aOp (ixA tabs) (aVar 1) (aC (.int 0))) (aCons (aOp (ixA tabs) (aVar 1) (aC (.int 1))) aNil))) [1]) aNil)))
@[reducible] def f_columns_of : Fn := loc t_columns_of
/-- value 0, letter 1 -/
def t_is_name : Fn := aDef 2
    (aSeq (aIfS (aOr (aNot (aTest (aCB (isiA isi) (aCons (aVar 0) (aCons (aC (.ty "str")) aNil))))) (aOr (aNot (aTest (aChain (dOp leD) (dOp leD) (aC (.int 1)) (aCB (dCB1 lenD) (aCons (aVar 0) aNil)) (aC (.int 4))))) (aTest (aOp (dOp inD) (aVar 0) (aC (.tup [(.str "is"), (.str "and"), (.str "or"), (.str "not"), (.str "as"), (.str "up"), (.str "down")])))))) (aRet (aC (.bl false))) aNext)
    (aRet (aCB (dCB1 allD) (aCons (aLc (aIt (aVar 0)) (gNm 1) aYes (aOp (dOp inD) (aVar 1) (aC (.str "abcdefghijklmnopqrstuvwxyz"))) [1]) aNil))))
@[reducible] def f_is_name : Fn := loc t_is_name
/-- value 0, met 1, pair 2 -/
def t_are_columns : Fn := aDef 3
    (aSeq (aIfS (aOr (aNot (aTest (aCall 1 f_is_sequence [] (aCons (aVar 0) aNil)))) (aTest (aOp (dOp eqD) (aCB (dCB1 lenD) (aCons (aVar 0) aNil)) (aC (.int 0))))) (aRet (aC (.bl false))) aNext)
    (aSeq (aAsg (aLstC aNil) (gNm 1))
    (aSeq (aFor (aIt (aVar 0)) (gNm 2) (aSeq (aIfS (aOr (aNot (aTest (aCB (isiA isi) (aCons (aVar 2) (aCons (aC (.ty "tuple")) aNil))))) (aOr (aTest (aOp (dOp neD) (aCB (dCB1 lenD) (aCons (aVar 2) aNil)) (aC (.int 2)))) (aOr (aNot (aTest (aCall 1 f_is_name [] (aCons (aOp (ixA tabs) (aVar 2) (aC (.int 0))) aNil)))) (aTest (aOp (dOp inD) (aOp (ixA tabs) (aVar 2) (aC (.int 0))) (aVar 1)))))) (aRet (aC (.bl false))) aNext)
    (aSeq (aIfS (aOr (aNot (aTest (aCB (isiA isi) (aCons (aOp (ixA tabs) (aVar 2) (aC (.int 1))) (aCons (aC (.ty "str")) aNil))))) (aTest (aOp (dOp notinD) (aOp (ixA tabs) (aVar 2) (aC (.int 1))) (aC (.tup [(.str "text"), (.str "number")]))))) (aRet (aC (.bl false))) aNext)
    (aExpr (aBM "list" appendA (aVar 1) (aCons (aOp (ixA tabs) (aVar 2) (aC (.int 0))) aNil))))))
    (aRet (aC (.bl true))))))
@[reducible] def f_are_columns : Fn := loc t_are_columns
/-- self 0, columns 1, rows 2, row 3 -/
def t_Table___init__ : Fn := aDef 4
    (aSeq (aIfS (aNot (aTest (aCall 1 f_are_columns [] (aCons (aVar 1) aNil)))) (aRaise "InvalidTable" "word" (aC (.str "columns"))) aNext)
    (aSeq (aExpr (aCall 2 f_need_rows [] (aCons (aVar 1) (aCons (aVar 2) aNil))))
    (aSeq (aAsg (aCall 1 f_columns_of [] (aCons (aVar 1) aNil)) (gFl ct 0 "columns"))
    (aAsg (aCB tupleA (aCons (aLc (aIt (aVar 2)) (gNm 3) aYes (aCB tupleA (aCons (aVar 3) aNil)) [3]) aNil)) (gFl ct 0 "rows")))))
@[reducible] def f_Table___init__ : Fn := loc t_Table___init__
/-- _law_columns_here 0, _law_rows_here 1, _law_found 2, e 3 -/
def t__law_told : Fn := aDef 4
    (aSeq (aAsg (aC .non) (gNm 2))
    (aSeq (aTry tabx_InvalidTable 3 (aExpr (aMake "Table" 3 f_Table___init__ [] (aCons (aVar 0) (aCons (aVar 1) aNil)))) (aAsg (aIf (aAnd (aTest (aCB (isxA isx) (aCons (aVar 3) (aCons (aC (.glo "PartError")) aNil)))) (aNot (aTest (aCB (isxA isx) (aCons (aVar 3) (aCons (aC (.glo "InvalidWays")) aNil)))))) (aXF "InvalidTable" "word" (aVar 3)) (aC (.str "other"))) (gNm 2)))
    (aRet (aVar 2))))
@[reducible] def f__law_told : Fn := loc t__law_told
/-- _law_box_here 0, _law_sort 1, _law_some 2 -/
def t__law_odd_cell : Fn := aDef 3
    (aSeq (aAsg (aLst (aCons (aC (.bl true)) (aCons (aC (.bl false)) (aCons (aLst aNil) (aCons (aTup (aCons (aC (.str "a")) aNil)) (aCons (aC (.str "a1")) (aCons (aC (.str "a b")) (aCons (aC (.str " a")) (aCons (aC (.str "abcdefghijk")) (aCons (aOp addA (aC (.str "a")) (aOp (dOp mulD) (aC (.str " ")) (aC (.int 10)))) (aCons (aOp addA (aOp (dOp powD) (aC (.int 10)) (aC (.int 6))) (aC (.int 1))) aNil))))))))))) (gNm 2))
    (aSeq (aAsg (aOp addA (aVar 2) (aLst (aCons (aOp (dOp subD) (aOp (dOp subD) (aC (.int 0)) (aOp (dOp powD) (aC (.int 10)) (aC (.int 6)))) (aC (.int 1))) (aCons (aC (.str "-")) (aCons (aC (.str "\"")) (aCons (aC (.str "a\n")) (aCons (aLst (aCons (aTup (aCons (aLst (aCons (aTup (aCons (aLst (aCons (aC .non) aNil)) aNil)) aNil)) aNil)) aNil)) aNil))))))) (gNm 2))
    (aRet (aCall 2 f__law_pick [] (aCons (aVar 0) (aCons (aOp addA (aVar 2) (aOp (ixA tabs) (aLst (aCons (aLst (aCons (aC (.int 3)) (aCons (aC (.int 0)) (aCons (aOp (dOp subD) (aC (.int 0)) (aC (.int 7))) aNil)))) (aCons (aLst (aCons (aC (.str "")) (aCons (aC (.str "x")) (aCons (aC (.str "B ")) aNil)))) aNil))) (aCB (dCB1 intD) (aCons (aOp (dOp eqD) (aVar 1) (aC (.str "number"))) aNil)))) aNil))))))
@[reducible] def f__law_odd_cell : Fn := loc t__law_odd_cell
/-- _law_box_here 0, _law_letters 1, _law_turn 2 -/
def t__law_word : Fn := aDef 3
    (aSeq (aIfS (aTest (aOp (dOp eqD) (aCall 2 f__law_take [] (aCons (aVar 0) (aCons (aC (.int 12)) aNil))) (aC (.int 0)))) (aRet (aSl (aOp addA (aSl (aC (.str "aBcDeFgHiZ")) (aPart (aCall 2 f__law_take [] (aCons (aVar 0) (aCons (aC (.int 5)) aNil)))) aNoPart) (aC (.str "   "))) aNoPart (aPart (aC (.int 10))))) aNext)
    (aSeq (aAsg (aBM "str" (dBM1 joinD) (aC (.str "")) (aCons (aLc (aRg1 (aCons (aCall 2 f__law_take [] (aCons (aVar 0) (aCons (aC (.int 4)) aNil))) aNil)) (gNm 2) aYes (aCall 2 f__law_pick [] (aCons (aVar 0) (aCons (aC (.str "aAbBxz")) aNil))) [2]) aNil)) (gNm 1))
    (aRet (aOp addA (aVar 1) (aOp (dOp mulD) (aC (.str " ")) (aOp (ixA tabs) (aLst (aCons (aC (.int 0)) (aCons (aC (.int 0)) (aCons (aC (.int 0)) (aCons (aC (.int 1)) (aCons (aC (.int 1)) (aCons (aC (.int 2)) aNil))))))) (aCall 2 f__law_take [] (aCons (aVar 0) (aCons (aC (.int 6)) aNil)))))))))
@[reducible] def f__law_word : Fn := loc t__law_word
/-- _law_box_here 0 -/
def t__law_number : Fn := aDef 1
    (aSeq (aIfS (aTest (aOp (dOp eqD) (aCall 2 f__law_take [] (aCons (aVar 0) (aCons (aC (.int 8)) aNil))) (aC (.int 0)))) (aRet (aOp (dOp mulD) (aOp (ixA tabs) (aLst (aCons (aC (.int 1)) (aCons (aOp (dOp subD) (aC (.int 0)) (aC (.int 1))) aNil))) (aCall 2 f__law_take [] (aCons (aVar 0) (aCons (aC (.int 2)) aNil)))) (aOp (dOp subD) (aOp (dOp powD) (aC (.int 10)) (aC (.int 6))) (aCall 2 f__law_take [] (aCons (aVar 0) (aCons (aC (.int 40)) aNil)))))) aNext)
    (aRet (aOp (dOp subD) (aOp addA (aOp (dOp mulD) (aC (.int 5)) (aOp (dOp subD) (aCall 2 f__law_take [] (aCons (aVar 0) (aCons (aC (.int 9)) aNil))) (aC (.int 4)))) (aCall 2 f__law_take [] (aCons (aVar 0) (aCons (aC (.int 5)) aNil)))) (aC (.int 2)))))
@[reducible] def f__law_number : Fn := loc t__law_number
/-- _law_box_here 0, _law_sort 1 -/
def t__law_cell : Fn := aDef 2
    (aSeq (aIfS (aTest (aOp (dOp eqD) (aCall 2 f__law_take [] (aCons (aVar 0) (aCons (aC (.int 6)) aNil))) (aC (.int 0)))) (aRet (aC .non)) aNext)
    (aRet (aIf (aTest (aOp (dOp eqD) (aVar 1) (aC (.str "text")))) (aCall 1 f__law_word [] (aCons (aVar 0) aNil)) (aCall 1 f__law_number [] (aCons (aVar 0) aNil)))))
@[reducible] def f__law_cell : Fn := loc t__law_cell
/-- _law_box_here 0, _law_columns_here 1, _law_name 2, _law_sort 3 -/
def t__law_row : Fn := aDef 4
    (aRet (aCB tupleA (aCons (aLc (aIt (aVar 1)) (gTp [(gNm 2), (gNm 3)]) aYes (aCall 2 f__law_cell [] (aCons (aVar 0) (aCons (aVar 3) aNil))) [2, 3]) aNil)))
@[reducible] def f__law_row : Fn := loc t__law_row
/-- _law_thing 0, _law_turn 1 -/
def t__law_nested : Fn := aDef 2
    (aSeq (aFor (aRg1 (aCons (aC (.int 4)) aNil)) (gNm 1) (aAsg (aTup (aCons (aLst (aCons (aVar 0) aNil)) aNil)) (gNm 0)))
    (aRet (aVar 0)))
@[reducible] def f__law_nested : Fn := loc t__law_nested
/-- _law_box_here 0, _law_columns_here 1, _law_some 2 -/
def t__law_odd_columns : Fn := aDef 3
    (aSeq (aAsg (aLst (aCons (aC .non) (aCons (aLst aNil) (aCons (aTup aNil) (aCons (aC (.str "a text")) (aCons (aC (.int 5)) (aCons (aC (.bl true)) (aCons (aOp addA (aVar 1) (aLst (aCons (aOp (ixA tabs) (aVar 1) (aC (.int 0))) aNil))) (aCons (aOp addA (aVar 1) (aLst (aCons (aTup (aCons (aC (.str "a1")) (aCons (aC (.str "text")) aNil))) aNil))) (aCons (aOp addA (aVar 1) (aLst (aCons (aC .non) aNil))) aNil)))))))))) (gNm 2))
    (aSeq (aAsg (aOp addA (aVar 2) (aLst (aCons (aOp addA (aVar 1) (aLst (aCons (aTup (aCons (aC (.str "zz")) (aCons (aC (.str "Text")) aNil))) aNil))) (aCons (aOp addA (aVar 1) (aLst (aCons (aLst (aCons (aC (.str "zz")) (aCons (aC (.str "text")) aNil))) aNil))) (aCons (aOp addA (aVar 1) (aLst (aCons (aTup (aCons (aC (.str "zz")) (aCons (aC (.str "text")) (aCons (aC (.int 1)) aNil)))) aNil))) (aCons (aLst (aCons (aTup (aCons (aC (.str "zz")) aNil)) aNil)) aNil)))))) (gNm 2))
    (aSeq (aAsg (aOp addA (aVar 2) (aLst (aCons (aOp addA (aVar 1) (aLst (aCons (aTup (aCons (aC (.str "not")) (aCons (aC (.str "text")) aNil))) aNil))) (aCons (aOp addA (aVar 1) (aLst (aCons (aTup (aCons (aC (.str "abcde")) (aCons (aC (.str "number")) aNil))) aNil))) (aCons (aOp addA (aVar 1) (aLst (aCons (aTup (aCons (aC (.str "zz")) (aCons (aC .non) aNil))) aNil))) (aCons (aLst (aCons (aC (.str "zz")) aNil)) aNil)))))) (gNm 2))
    (aRet (aCall 2 f__law_pick [] (aCons (aVar 0) (aCons (aOp addA (aVar 2) (aLst (aCons (aLst (aCons (aTup (aCons (aC (.str "")) (aCons (aC (.str "text")) aNil))) aNil)) (aCons (aLst (aCons (aTup (aCons (aC (.int 1)) (aCons (aC (.str "text")) aNil))) aNil)) (aCons (aOp addA (aVar 1) (aLst (aCons (aTup (aCons (aC (.str "up")) (aCons (aC (.str "number")) aNil))) aNil))) (aCons (aCall 1 f__law_nested [] (aCons (aC (.int 3)) aNil)) aNil)))))) aNil)))))))
@[reducible] def f__law_odd_columns : Fn := loc t__law_odd_columns
/-- _law_box_here 0, _law_columns_here 1, _law_most 2, _law_found 3, _law_turn 4, _law_again 5 -/
def t__law_rows : Fn := aDef 6
    (aSeq (aAsg (aLstC aNil) (gNm 3))
    (aSeq (aFor (aRg1 (aCons (aCall 2 f__law_take [] (aCons (aVar 0) (aCons (aOp addA (aVar 2) (aC (.int 1))) aNil))) aNil)) (gNm 4) (aSeq (aAsg (aAndV (aOp (dOp neD) (aVar 3) (aLst aNil)) (aOp (dOp eqD) (aCall 2 f__law_take [] (aCons (aVar 0) (aCons (aC (.int 4)) aNil))) (aC (.int 0)))) (gNm 5))
    (aExpr (aBM "list" appendA (aVar 3) (aCons (aIf (aTest (aVar 5)) (aCall 2 f__law_pick [] (aCons (aVar 0) (aCons (aVar 3) aNil))) (aCall 2 f__law_row [] (aCons (aVar 0) (aCons (aVar 1) aNil)))) aNil)))))
    (aRet (aVar 3))))
@[reducible] def f__law_rows : Fn := loc t__law_rows
/-- _law_script 0, _law_k 1, _law_box_here 2, _law_turn 3, _law_columns_here 4, _law_rows_here 5, _law_row_here 6, _law_bad 7, _law_word_here 8, _law_at 9, _law_odd 10, _law_handed 11, _law_told_here 12, _law_due 13, _law_is_bad 14 -/
def f_law : Fn := aDef 15
    (aSeq (aForC (aRg1 (aCons (aCB (dCB2 maxD) (aCons (aC (.int 1)) (aCons (aCB (dCB2 minD) (aCons (aC (.int 4)) (aCons (aCB (dCB1 lenD) (aCons (aVar 0) aNil)) aNil))) aNil))) aNil)) (gNm 1) (aSeq (aAsg (aCall 2 f__law_box [] (aCons (aVar 0) (aCons (aVar 1) aNil))) (gNm 2))
    (aForC (aRg1 (aCons (aC (.int 6)) aNil)) (gNm 3) (aSeq (aAsg (aCall 2 f__law_columns [] (aCons (aVar 2) (aCons (aOp addA (aC (.int 1)) (aCall 2 f__law_take [] (aCons (aVar 2) (aCons (aC (.int 3)) aNil)))) aNil))) (gNm 4))
    (aSeq (aAsg (aLcV (aIt (aCall 3 f__law_rows [] (aCons (aVar 2) (aCons (aVar 4) (aCons (aC (.int 5)) aNil))))) (gNm 6) aYes (aCB listC (aCons (aVar 6) aNil)) [6]) (gNm 5))
    (aSeq (aIfS (aTest (aOp (dOp isnotD) (aThaw [5] (aCall 2 f__law_told [] (aCons (aVar 4) (aCons (aVar 5) aNil)))) (aC .non))) (aRet (aC (.bl false))) aNext)
    (aSeq (aAsg (aLc (aRg1 (aCons (aC (.int 4)) aNil)) (gNm 8) aYes (aOp (dOp eqD) (aCall 2 f__law_take [] (aCons (aVar 2) (aCons (aC (.int 4)) aNil))) (aC (.int 0))) [8]) (gNm 7))
    (aSeq (aIfS (aAnd (aTest (aOp (ixA tabs) (aVar 7) (aC (.int 3)))) (aTest (aThaw [5] (aOp (dOp neD) (aVar 5) (aLst aNil))))) (aSeq (aPar 6 9 (aCons (aCall 2 t__law_pick [] (aCons (aVar 2) (aCons (aVar 5) aNil))) (aCons (aCall 2 f__law_take [] (aCons (aVar 2) (aCons (aCB (dCB1 lenD) (aCons (aVar 4) aNil)) aNil))) aNil)))
    (aAsg (aCall 2 f__law_odd_cell [] (aCons (aVar 2) (aCons (aOp (ixA tabs) (aOp (ixA tabs) (aVar 4) (aVar 9)) (aC (.int 1))) aNil))) (gIx (aVar 6) (aVar 9)))) aNext)
    (aSeq (aIfS (aTest (aOp (ixA tabs) (aVar 7) (aC (.int 2)))) (aSeq (aAsg (aCall 2 f__law_row [] (aCons (aVar 2) (aCons (aVar 4) aNil))) (gNm 6))
    (aSeq (aAsg (aCall 2 f__law_pick [] (aCons (aVar 2) (aCons (aLst (aCons (aOp addA (aVar 6) (aTup (aCons (aC .non) aNil))) (aCons (aSl (aVar 6) (aPart (aC (.int 1))) aNoPart) (aCons (aC .non) (aCons (aC (.int 5)) (aCons (aC (.str "a")) (aCons (aC (.bl true)) (aCons (aTup aNil) aNil)))))))) aNil))) (gNm 10))
    (aExpr (aBM "list" insertA (aVar 5) (aCons (aCall 2 f__law_take [] (aCons (aVar 2) (aCons (aOp addA (aThaw [5] (aCB (dCB1 lenD) (aCons (aVar 5) aNil))) (aC (.int 1))) aNil))) (aCons (aVar 10) aNil)))))) aNext)
    (aSeq (aAsg (aIf (aTest (aOp (ixA tabs) (aVar 7) (aC (.int 1)))) (aCall 2 f__law_pick [] (aCons (aVar 2) (aCons (aLst (aCons (aC .non) (aCons (aC (.str "rows")) (aCons (aC (.int 7)) (aCons (aC (.bl true)) (aCons (aOp (ixA tabs) (aOp (ixA tabs) (aVar 4) (aC (.int 0))) (aC (.int 0))) aNil)))))) aNil))) (aVar 5)) (gNm 11))
    (aSeq (aAsg (aIf (aTest (aOp (ixA tabs) (aVar 7) (aC (.int 0)))) (aCall 2 f__law_odd_columns [] (aCons (aVar 2) (aCons (aVar 4) aNil))) (aVar 4)) (gNm 12))
    (aSeq (aAsg (aLc (aZipM (aCons (aTup (aCons (aC (.str "columns")) (aCons (aC (.str "rows")) (aCons (aC (.str "row")) aNil)))) (aCons (aVar 7) aNil))) (gTp [(gNm 8), (gNm 14)]) (aTest (aVar 14)) (aVar 8) [8, 14]) (gNm 13))
    (aSeq (aAsg (aOp addA (aVar 13) (aOp mulA (aLst (aCons (aC (.str "cell")) aNil)) (aCB (dCB1 intD) (aCons (aAndV (aOp (ixA tabs) (aVar 7) (aC (.int 3))) (aAndV (aThaw [5] (aOp (dOp neD) (aVar 5) (aLst aNil))) (aOp (dOp eqD) (aVar 13) (aLst aNil)))) aNil)))) (gNm 13))
    (aIfS (aTest (aOp (dOp neD) (aThaw [11] (aCall 2 f__law_told [] (aCons (aVar 12) (aCons (aVar 11) aNil)))) (aOp (ixA tabs) (aOp addA (aVar 13) (aLst (aCons (aC .non) aNil))) (aC (.int 0))))) (aRet (aC (.bl false))) aNext))))))))))))))
    (aRet (aC (.bl true))))
end K10

set_option Elab.async false
set_option linter.all false
set_option autoImplicit false
set_option maxRecDepth 100000
set_option maxHeartbeats 0
namespace K10
open PySem PySem.Spec PyProof.Rows L2 Fx
def top (i : Nat) : Stmt := PySem.Challenge.pw_sentparts_k10_tables_refused.main.body.getD i (.Pass ⟨0, 0, 0, 0⟩)
def free : List Str := [("abs" : Str), ("all" : Str), ("bool" : Str), ("int" : Str), ("isinstance" : Str), ("len" : Str), ("list" : Str), ("max" : Str), ("min" : Str), ("range" : Str), ("str" : Str), ("super" : Str), ("tuple" : Str), ("zip" : Str)]
def glo : List Str := [("InvalidTable" : Str), ("InvalidWays" : Str), ("PartError" : Str), ("Table" : Str), ("_law_box" : Str), ("_law_cell" : Str), ("_law_columns" : Str), ("_law_names" : Str), ("_law_nested" : Str), ("_law_number" : Str), ("_law_odd_cell" : Str), ("_law_odd_columns" : Str), ("_law_pick" : Str), ("_law_row" : Str), ("_law_rows" : Str), ("_law_shuffled" : Str), ("_law_take" : Str), ("_law_told" : Str), ("_law_word" : Str), ("are_columns" : Str), ("columns_of" : Str), ("is_integer" : Str), ("is_name" : Str), ("is_number" : Str), ("is_of_sort" : Str), ("is_row" : Str), ("is_sequence" : Str), ("is_text" : Str), ("need_rows" : Str)]
def cons : List (Str × D) := [("MOST_SIGNS", (.int 10)), ("LETTERS", (.str "abcdefghijklmnopqrstuvwxyzABCDEFGHIJKLMNOPQRSTUVWXYZ")), ("MOST_NUMBER", (.int 1000000)), ("BARRED", (.tup [(.str "is"), (.str "and"), (.str "or"), (.str "not"), (.str "as"), (.str "up"), (.str "down")])), ("SMALL", (.str "abcdefghijklmnopqrstuvwxyz")), ("SORTS", (.tup [(.str "text"), (.str "number")]))]
abbrev TX (K : PySem.W.Frag) (w : World) (mg : Str → Option Value) : Prop := Tx K w mg tabs ct isi free glo cons
abbrev s__law_box : Stmt := top 38
abbrev s__law_take : Stmt := top 39
abbrev s__law_pick : Stmt := top 40
abbrev s__law_shuffled : Stmt := top 41
abbrev s__law_names : Stmt := top 42
abbrev s__law_columns : Stmt := top 46
abbrev s_is_sequence : Stmt := top 11
abbrev s_is_text : Stmt := top 9
abbrev s_is_integer : Stmt := top 7
abbrev s_is_number : Stmt := top 10
abbrev s_is_of_sort : Stmt := top 12
abbrev s_is_row : Stmt := top 32
abbrev s_need_rows : Stmt := top 33
abbrev s_columns_of : Stmt := top 14
abbrev s_is_name : Stmt := top 8
abbrev s_are_columns : Stmt := top 13
abbrev s_Table___init__ : Stmt := inClass (top 36) 0
abbrev s__law_told : Stmt := top 50
abbrev s__law_odd_cell : Stmt := top 52
abbrev s__law_word : Stmt := top 43
abbrev s__law_number : Stmt := top 44
abbrev s__law_cell : Stmt := top 45
abbrev s__law_row : Stmt := top 47
abbrev s__law_nested : Stmt := top 49
abbrev s__law_odd_columns : Stmt := top 51
abbrev s__law_rows : Stmt := top 48
abbrev s_law : Stmt := top 53
def fn : List He.DefD := [⟨("_law_box", none), "_law_box", "_law_box", defArgs s__law_box, defBody s__law_box, defScope s__law_box, [], []⟩,
  ⟨("_law_take", none), "_law_take", "_law_take", defArgs s__law_take, defBody s__law_take, defScope s__law_take, [], []⟩,
  ⟨("_law_pick", none), "_law_pick", "_law_pick", defArgs s__law_pick, defBody s__law_pick, defScope s__law_pick, [], []⟩,
  ⟨("_law_shuffled", none), "_law_shuffled", "_law_shuffled", defArgs s__law_shuffled, defBody s__law_shuffled, defScope s__law_shuffled, [], []⟩,
  ⟨("_law_names", none), "_law_names", "_law_names", defArgs s__law_names, defBody s__law_names, defScope s__law_names, [], []⟩,
  ⟨("_law_columns", none), "_law_columns", "_law_columns", defArgs s__law_columns, defBody s__law_columns, defScope s__law_columns, [], []⟩,
  ⟨("is_sequence", none), "is_sequence", "is_sequence", defArgs s_is_sequence, defBody s_is_sequence, defScope s_is_sequence, [], []⟩,
  ⟨("is_text", none), "is_text", "is_text", defArgs s_is_text, defBody s_is_text, defScope s_is_text, [], []⟩,
  ⟨("is_integer", none), "is_integer", "is_integer", defArgs s_is_integer, defBody s_is_integer, defScope s_is_integer, [], []⟩,
  ⟨("is_number", none), "is_number", "is_number", defArgs s_is_number, defBody s_is_number, defScope s_is_number, [], []⟩,
  ⟨("is_of_sort", none), "is_of_sort", "is_of_sort", defArgs s_is_of_sort, defBody s_is_of_sort, defScope s_is_of_sort, [], []⟩,
  ⟨("is_row", none), "is_row", "is_row", defArgs s_is_row, defBody s_is_row, defScope s_is_row, [], []⟩,
  ⟨("need_rows", none), "need_rows", "need_rows", defArgs s_need_rows, defBody s_need_rows, defScope s_need_rows, [], []⟩,
  ⟨("columns_of", none), "columns_of", "columns_of", defArgs s_columns_of, defBody s_columns_of, defScope s_columns_of, [], []⟩,
  ⟨("is_name", none), "is_name", "is_name", defArgs s_is_name, defBody s_is_name, defScope s_is_name, [], []⟩,
  ⟨("are_columns", none), "are_columns", "are_columns", defArgs s_are_columns, defBody s_are_columns, defScope s_are_columns, [], []⟩,
  ⟨("Table", some "__init__"), "__init__", "Table.__init__", defArgs s_Table___init__, defBody s_Table___init__, defScope s_Table___init__, [.adr (He.dflAt ("Table", some "__init__") 0)], []⟩,
  ⟨("_law_told", none), "_law_told", "_law_told", defArgs s__law_told, defBody s__law_told, defScope s__law_told, [], []⟩,
  ⟨("_law_odd_cell", none), "_law_odd_cell", "_law_odd_cell", defArgs s__law_odd_cell, defBody s__law_odd_cell, defScope s__law_odd_cell, [], []⟩,
  ⟨("_law_word", none), "_law_word", "_law_word", defArgs s__law_word, defBody s__law_word, defScope s__law_word, [], []⟩,
  ⟨("_law_number", none), "_law_number", "_law_number", defArgs s__law_number, defBody s__law_number, defScope s__law_number, [], []⟩,
  ⟨("_law_cell", none), "_law_cell", "_law_cell", defArgs s__law_cell, defBody s__law_cell, defScope s__law_cell, [], []⟩,
  ⟨("_law_row", none), "_law_row", "_law_row", defArgs s__law_row, defBody s__law_row, defScope s__law_row, [], []⟩,
  ⟨("_law_nested", none), "_law_nested", "_law_nested", defArgs s__law_nested, defBody s__law_nested, defScope s__law_nested, [], []⟩,
  ⟨("_law_odd_columns", none), "_law_odd_columns", "_law_odd_columns", defArgs s__law_odd_columns, defBody s__law_odd_columns, defScope s__law_odd_columns, [], []⟩,
  ⟨("_law_rows", none), "_law_rows", "_law_rows", defArgs s__law_rows, defBody s__law_rows, defScope s__law_rows, [], []⟩,
  ⟨("law", none), "law", "law", defArgs s_law, defBody s_law, defScope s_law, [], []⟩]
def fa : List He.Fa := [.glo "InvalidTable", .glo "InvalidWays", .glo "PartError", .glo "Table", .glo "_law_box", .glo "_law_cell", .glo "_law_columns", .glo "_law_names", .glo "_law_nested", .glo "_law_number", .glo "_law_odd_cell", .glo "_law_odd_columns", .glo "_law_pick", .glo "_law_row", .glo "_law_rows", .glo "_law_shuffled", .glo "_law_take", .glo "_law_told", .glo "_law_word", .glo "are_columns", .glo "columns_of", .glo "is_integer", .glo "is_name", .glo "is_number", .glo "is_of_sort", .glo "is_row", .glo "is_sequence", .glo "is_text", .glo "need_rows", .glo "law", .mkr "Table"]
def ts : List He.Tab := []
def exB (K : PySem.W.Frag) : Bool := txB K tabs ct isi free glo cons && (supB PySem.Challenge.pw_sentparts_k10_tables_refused.main.file K "InvalidTable" "word" && (exmB K "InvalidTable" tabx_InvalidTable && (isxB K isx && repB K (.tup []) (.ref (He.dflAt ("Table", some "__init__") 0 K)))))
abbrev R : PySem.W.OpenRow := PySem.W.OpenLaw.row PySem.Challenge.rw_sentparts_k10_tables_refused
abbrev hk : PySem.W.Hook := Fx.hookY 5 fa fn ts [] exB
def ob (s : PySem.W.SharedT) : He.AlX := Fx.obsY 5 fa fn ts [] exB (HandSHeadRun.getT s)
theorem ob_eq (s : PySem.W.SharedT) : ob s = hk.obs s.abs := Fx.obsY_eq (HandSHeadRun.getT_eq s)
def others : List Str := [("__name__" : Str), ("SMALL" : Str), ("LETTERS" : Str), ("BARRED" : Str), ("SORTS" : Str), ("MOST_SIGNS" : Str), ("MOST_NUMBER" : Str), ("is_integer" : Str), ("is_name" : Str), ("is_text" : Str), ("is_number" : Str), ("is_sequence" : Str), ("is_of_sort" : Str), ("are_columns" : Str), ("columns_of" : Str), ("DIGITS" : Str), ("MOST_DIGITS" : Str), ("cell_text" : Str), ("number_in" : Str), ("told_in" : Str), ("is_cell_text" : Str), ("cell_in" : Str), ("PartError" : Str), ("InvalidWays" : Str), ("InvalidTable" : Str), ("InvalidText" : Str), ("Mismatch" : Str), ("NoRow" : Str), ("NoColumn" : Str), ("is_row" : Str), ("need_rows" : Str), ("columns_in" : Str), ("row_in" : Str), ("Table" : Str), ("_law_box" : Str), ("_law_take" : Str), ("_law_pick" : Str), ("_law_shuffled" : Str), ("_law_names" : Str), ("_law_word" : Str), ("_law_number" : Str), ("_law_cell" : Str), ("_law_columns" : Str), ("_law_row" : Str), ("_law_rows" : Str), ("_law_nested" : Str), ("_law_told" : Str), ("_law_odd_columns" : Str), ("_law_odd_cell" : Str)]
theorem run (w : World) : HandSHeadRun.RunEq R (PySem.W.view R.prog [53]) hk ob 6000 others w := by
  refine PySem.W.byRow2 "special-get-raises" (P := fun w => HandSHeadRun.RunEq R (PySem.W.view R.prog [53]) hk ob 6000 others w) ?_ ?_ w
  · intro w os
    kernel_rfl
  · intro w os
    kernel_rfl
end K10

set_option Elab.async false
set_option linter.all false
set_option autoImplicit false
set_option maxRecDepth 100000
set_option maxHeartbeats 2000000
namespace Ix
open PySem L2
@[irreducible] def aC := @Fx.aC
theorem aC_eq : @aC = @Fx.aC := by unfold aC; rfl
@[irreducible] def aVar := @Fx.aVar
theorem aVar_eq : @aVar = @Fx.aVar := by unfold aVar; rfl
@[irreducible] def aOp := @Fx.aOp
theorem aOp_eq : @aOp = @Fx.aOp := by unfold aOp; rfl
@[irreducible] def aNil := @Fx.aNil
theorem aNil_eq : @aNil = @Fx.aNil := by unfold aNil; rfl
@[irreducible] def aCons := @Fx.aCons
theorem aCons_eq : @aCons = @Fx.aCons := by unfold aCons; rfl
@[irreducible] def aTest := @Fx.aTest
theorem aTest_eq : @aTest = @Fx.aTest := by unfold aTest; rfl
@[irreducible] def aAnd := @Fx.aAnd
theorem aAnd_eq : @aAnd = @Fx.aAnd := by unfold aAnd; rfl
@[irreducible] def aOr := @Fx.aOr
theorem aOr_eq : @aOr = @Fx.aOr := by unfold aOr; rfl
@[irreducible] def aNot := @Fx.aNot
theorem aNot_eq : @aNot = @Fx.aNot := by unfold aNot; rfl
@[irreducible] def aYes := @Fx.aYes
theorem aYes_eq : @aYes = @Fx.aYes := by unfold aYes; rfl
@[irreducible] def aAndV := @Fx.aAndV
theorem aAndV_eq : @aAndV = @Fx.aAndV := by unfold aAndV; rfl
@[irreducible] def aOrV := @Fx.aOrV
theorem aOrV_eq : @aOrV = @Fx.aOrV := by unfold aOrV; rfl
@[irreducible] def aNotV := @Fx.aNotV
theorem aNotV_eq : @aNotV = @Fx.aNotV := by unfold aNotV; rfl
@[irreducible] def aNeg := @Fx.aNeg
theorem aNeg_eq : @aNeg = @Fx.aNeg := by unfold aNeg; rfl
@[irreducible] def aIf := @Fx.aIf
theorem aIf_eq : @aIf = @Fx.aIf := by unfold aIf; rfl
@[irreducible] def aChain := @Fx.aChain
theorem aChain_eq : @aChain = @Fx.aChain := by unfold aChain; rfl
@[irreducible] def aLst := @Fx.aLst
theorem aLst_eq : @aLst = @Fx.aLst := by unfold aLst; rfl
@[irreducible] def aLstC := @Fx.aLstC
theorem aLstC_eq : @aLstC = @Fx.aLstC := by unfold aLstC; rfl
@[irreducible] def aTup := @Fx.aTup
theorem aTup_eq : @aTup = @Fx.aTup := by unfold aTup; rfl
@[irreducible] def aCB := @Fx.aCB
theorem aCB_eq : @aCB = @Fx.aCB := by unfold aCB; rfl
@[irreducible] def aFld := @Fx.aFld
theorem aFld_eq : @aFld = @Fx.aFld := by unfold aFld; rfl
@[irreducible] def aCall := @Fx.aCall
theorem aCall_eq : @aCall = @Fx.aCall := by unfold aCall; rfl
@[irreducible] def aMake := @Fx.aMake
theorem aMake_eq : @aMake = @Fx.aMake := by unfold aMake; rfl
@[irreducible] def aMakeC := @Fx.aMakeC
theorem aMakeC_eq : @aMakeC = @Fx.aMakeC := by unfold aMakeC; rfl
@[irreducible] def aMeth := @Fx.aMeth
theorem aMeth_eq : @aMeth = @Fx.aMeth := by unfold aMeth; rfl
@[irreducible] def aBM := @Fx.aBM
theorem aBM_eq : @aBM = @Fx.aBM := by unfold aBM; rfl
@[irreducible] def aBM0 := @Fx.aBM0
theorem aBM0_eq : @aBM0 = @Fx.aBM0 := by unfold aBM0; rfl
@[irreducible] def aBMd := @Fx.aBMd
theorem aBMd_eq : @aBMd = @Fx.aBMd := by unfold aBMd; rfl
@[irreducible] def aSl := @Fx.aSl
theorem aSl_eq : @aSl = @Fx.aSl := by unfold aSl; rfl
@[irreducible] def aPart := @Fx.aPart
theorem aPart_eq : @aPart = @Fx.aPart := by unfold aPart; rfl
@[irreducible] def aNoPart := @Fx.aNoPart
theorem aNoPart_eq : @aNoPart = @Fx.aNoPart := by unfold aNoPart; rfl
@[irreducible] def aNext := @Fx.aNext
theorem aNext_eq : @aNext = @Fx.aNext := by unfold aNext; rfl
@[irreducible] def aSeq := @Fx.aSeq
theorem aSeq_eq : @aSeq = @Fx.aSeq := by unfold aSeq; rfl
@[irreducible] def aAsg := @Fx.aAsg
theorem aAsg_eq : @aAsg = @Fx.aAsg := by unfold aAsg; rfl
@[irreducible] def aRet := @Fx.aRet
theorem aRet_eq : @aRet = @Fx.aRet := by unfold aRet; rfl
@[irreducible] def aRetN := @Fx.aRetN
theorem aRetN_eq : @aRetN = @Fx.aRetN := by unfold aRetN; rfl
@[irreducible] def aExpr := @Fx.aExpr
theorem aExpr_eq : @aExpr = @Fx.aExpr := by unfold aExpr; rfl
@[irreducible] def aIfS := @Fx.aIfS
theorem aIfS_eq : @aIfS = @Fx.aIfS := by unfold aIfS; rfl
@[irreducible] def aPar := @Fx.aPar
theorem aPar_eq : @aPar = @Fx.aPar := by unfold aPar; rfl
@[irreducible] def aBreak := @Fx.aBreak
theorem aBreak_eq : @aBreak = @Fx.aBreak := by unfold aBreak; rfl
@[irreducible] def aCont := @Fx.aCont
theorem aCont_eq : @aCont = @Fx.aCont := by unfold aCont; rfl
@[irreducible] def aNever := @Fx.aNever
theorem aNever_eq : @aNever = @Fx.aNever := by unfold aNever; rfl
@[irreducible] def aDput := @Fx.aDput
theorem aDput_eq : @aDput = @Fx.aDput := by unfold aDput; rfl
@[irreducible] def aFor := @Fx.aFor
theorem aFor_eq : @aFor = @Fx.aFor := by unfold aFor; rfl
@[irreducible] def aForC := @Fx.aForC
theorem aForC_eq : @aForC = @Fx.aForC := by unfold aForC; rfl
@[irreducible] def aWhile := @Fx.aWhile
theorem aWhile_eq : @aWhile = @Fx.aWhile := by unfold aWhile; rfl
@[irreducible] def aIt := @Fx.aIt
theorem aIt_eq : @aIt = @Fx.aIt := by unfold aIt; rfl
@[irreducible] def aRg1 := @Fx.aRg1
theorem aRg1_eq : @aRg1 = @Fx.aRg1 := by unfold aRg1; rfl
@[irreducible] def aRg2 := @Fx.aRg2
theorem aRg2_eq : @aRg2 = @Fx.aRg2 := by unfold aRg2; rfl
@[irreducible] def aItems := @Fx.aItems
theorem aItems_eq : @aItems = @Fx.aItems := by unfold aItems; rfl
@[irreducible] def aLstRg := @Fx.aLstRg
theorem aLstRg_eq : @aLstRg = @Fx.aLstRg := by unfold aLstRg; rfl
@[irreducible] def aLc := @Fx.aLc
theorem aLc_eq : @aLc = @Fx.aLc := by unfold aLc; rfl
@[irreducible] def aDisp := @Fx.aDisp
theorem aDisp_eq : @aDisp = @Fx.aDisp := by unfold aDisp; rfl
@[irreducible] def aDispS := @Fx.aDispS
theorem aDispS_eq : @aDispS = @Fx.aDispS := by unfold aDispS; rfl
@[irreducible] def aDef := @Fx.aDef
theorem aDef_eq : @aDef = @Fx.aDef := by unfold aDef; rfl
@[irreducible] def aDefC := @Fx.aDefC
theorem aDefC_eq : @aDefC = @Fx.aDefC := by unfold aDefC; rfl
@[irreducible] def dOp := @Fx.dOp
theorem dOp_eq : @dOp = @Fx.dOp := by unfold dOp; rfl
@[irreducible] def addA := @Fx.addA
theorem addA_eq : @addA = @Fx.addA := by unfold addA; rfl
@[irreducible] def ixA := @Fx.ixA
theorem ixA_eq : @ixA = @Fx.ixA := by unfold ixA; rfl
@[irreducible] def dCB1 := @Fx.dCB1
theorem dCB1_eq : @dCB1 = @Fx.dCB1 := by unfold dCB1; rfl
@[irreducible] def dCB2 := @Fx.dCB2
theorem dCB2_eq : @dCB2 = @Fx.dCB2 := by unfold dCB2; rfl
@[irreducible] def dBM0 := @Fx.dBM0
theorem dBM0_eq : @dBM0 = @Fx.dBM0 := by unfold dBM0; rfl
@[irreducible] def dBM1 := @Fx.dBM1
theorem dBM1_eq : @dBM1 = @Fx.dBM1 := by unfold dBM1; rfl
@[irreducible] def isiA := @Fx.isiA
theorem isiA_eq : @isiA = @Fx.isiA := by unfold isiA; rfl
@[irreducible] def listA := @Fx.listA
theorem listA_eq : @listA = @Fx.listA := by unfold listA; rfl
@[irreducible] def listC := @Fx.listC
theorem listC_eq : @listC = @Fx.listC := by unfold listC; rfl
@[irreducible] def tupleA := @Fx.tupleA
theorem tupleA_eq : @tupleA = @Fx.tupleA := by unfold tupleA; rfl
@[irreducible] def dictC := @Fx.dictC
theorem dictC_eq : @dictC = @Fx.dictC := by unfold dictC; rfl
@[irreducible] def appendA := @Fx.appendA
theorem appendA_eq : @appendA = @Fx.appendA := by unfold appendA; rfl
@[irreducible] def updateA := @Fx.updateA
theorem updateA_eq : @updateA = @Fx.updateA := by unfold updateA; rfl
@[irreducible] def aDnew := @Fx.aDnew
theorem aDnew_eq : @aDnew = @Fx.aDnew := by unfold aDnew; rfl
@[irreducible] def pairsA := @Fx.pairsA
theorem pairsA_eq : @pairsA = @Fx.pairsA := by unfold pairsA; rfl
@[irreducible] def aMethKW := @Fx.aMethKW
theorem aMethKW_eq : @aMethKW = @Fx.aMethKW := by unfold aMethKW; rfl
@[irreducible] def aMakeKW := @Fx.aMakeKW
theorem aMakeKW_eq : @aMakeKW = @Fx.aMakeKW := by unfold aMakeKW; rfl
@[irreducible] def aRaise := @Fx.aRaise
theorem aRaise_eq : @aRaise = @Fx.aRaise := by unfold aRaise; rfl
@[irreducible] def aTry := @Fx.aTry
theorem aTry_eq : @aTry = @Fx.aTry := by unfold aTry; rfl
@[irreducible] def aXF := @Fx.aXF
theorem aXF_eq : @aXF = @Fx.aXF := by unfold aXF; rfl
@[irreducible] def isxA := @Fx.isxA
theorem isxA_eq : @isxA = @Fx.isxA := by unfold isxA; rfl
@[irreducible] def aZip := @Fx.aZip
theorem aZip_eq : @aZip = @Fx.aZip := by unfold aZip; rfl
@[irreducible] def aLcC := @Fx.aLcC
theorem aLcC_eq : @aLcC = @Fx.aLcC := by unfold aLcC; rfl
@[irreducible] def aCall0 := @Fx.aCall0
theorem aCall0_eq : @aCall0 = @Fx.aCall0 := by unfold aCall0; rfl
@[irreducible] def aMeth0 := @Fx.aMeth0
theorem aMeth0_eq : @aMeth0 = @Fx.aMeth0 := by unfold aMeth0; rfl
@[irreducible] def eqX := @Fx.eqX
theorem eqX_eq : @eqX = @Fx.eqX := by unfold eqX; rfl
@[irreducible] def strX := @Fx.strX
theorem strX_eq : @strX = @Fx.strX := by unfold strX; rfl
@[irreducible] def aCM := @Fx.aCM
theorem aCM_eq : @aCM = @Fx.aCM := by unfold aCM; rfl
@[irreducible] def aMakeL := @Fx.aMakeL
theorem aMakeL_eq : @aMakeL = @Fx.aMakeL := by unfold aMakeL; rfl
@[irreducible] def aTryF := @Fx.aTryF
theorem aTryF_eq : @aTryF = @Fx.aTryF := by unfold aTryF; rfl
@[irreducible] def aStar := @Fx.aStar
theorem aStar_eq : @aStar = @Fx.aStar := by unfold aStar; rfl
@[irreducible] def inG := @Fx.inG
theorem inG_eq : @inG = @Fx.inG := by unfold inG; rfl
@[irreducible] def popA := @Fx.popA
theorem popA_eq : @popA = @Fx.popA := by unfold popA; rfl
@[irreducible] def insertA := @Fx.insertA
theorem insertA_eq : @insertA = @Fx.insertA := by unfold insertA; rfl
@[irreducible] def splitC := @Fx.splitC
theorem splitC_eq : @splitC = @Fx.splitC := by unfold splitC; rfl
@[irreducible] def eqK := @Fx.eqK
theorem eqK_eq : @eqK = @Fx.eqK := by unfold eqK; rfl
@[irreducible] def aOwn := @Fx.aOwn
theorem aOwn_eq : @aOwn = @Fx.aOwn := by unfold aOwn; rfl
@[irreducible] def aAugO := @Fx.aAugO
theorem aAugO_eq : @aAugO = @Fx.aAugO := by unfold aAugO; rfl
@[irreducible] def isiT := @Fx.isiT
theorem isiT_eq : @isiT = @Fx.isiT := by unfold isiT; rfl
@[irreducible] def aRaise0 := @Fx.aRaise0
theorem aRaise0_eq : @aRaise0 = @Fx.aRaise0 := by unfold aRaise0; rfl
@[irreducible] def isxZ := @Fx.isxZ
theorem isxZ_eq : @isxZ = @Fx.isxZ := by unfold isxZ; rfl
@[irreducible] def aRev := @Fx.aRev
theorem aRev_eq : @aRev = @Fx.aRev := by unfold aRev; rfl
@[irreducible] def aZipM := @Fx.aZipM
theorem aZipM_eq : @aZipM = @Fx.aZipM := by unfold aZipM; rfl
@[irreducible] def aEnum := @Fx.aEnum
theorem aEnum_eq : @aEnum = @Fx.aEnum := by unfold aEnum; rfl
@[irreducible] def aFmt := @Fx.aFmt
theorem aFmt_eq : @aFmt = @Fx.aFmt := by unfold aFmt; rfl
@[irreducible] def aJoins := @Fx.aJoins
theorem aJoins_eq : @aJoins = @Fx.aJoins := by unfold aJoins; rfl
@[irreducible] def aFstr := @Fx.aFstr
theorem aFstr_eq : @aFstr = @Fx.aFstr := by unfold aFstr; rfl
@[irreducible] def aLcK := @Fx.aLcK
theorem aLcK_eq : @aLcK = @Fx.aLcK := by unfold aLcK; rfl
@[irreducible] def listB := @Fx.listB
theorem listB_eq : @listB = @Fx.listB := by unfold listB; rfl
@[irreducible] def aThaw := @Fx.aThaw
theorem aThaw_eq : @aThaw = @Fx.aThaw := by unfold aThaw; rfl
@[irreducible] def aLcV := @Fx.aLcV
theorem aLcV_eq : @aLcV = @Fx.aLcV := by unfold aLcV; rfl
@[irreducible] def mulA := @Fx.mulA
theorem mulA_eq : @mulA = @Fx.mulA := by unfold mulA; rfl
end Ix
namespace Ix
open PySem L2
open Fx hiding aC aVar aOp aNil aCons aTest aAnd aOr aNot aYes aAndV aOrV aNotV aNeg aIf aChain aLst aLstC aTup aCB aFld aCall aMake aMakeC aMeth aBM aBM0 aBMd aSl aPart aNoPart aNext aSeq aAsg aRet aRetN aExpr aIfS aPar aBreak aCont aNever aDput aFor aForC aWhile aIt aRg1 aRg2 aItems aLstRg aLc aDisp aDispS aDef aDefC dOp addA ixA dCB1 dCB2 dBM0 dBM1 isiA listA listC tupleA dictC appendA updateA aDnew pairsA aMethKW aMakeKW aRaise aTry aXF isxA aZip aLcC aCall0 aMeth0 eqX strX aCM aMakeL aTryF aStar inG popA insertA splitC eqK aOwn aAugO isiT aRaise0 isxZ aRev aZipM aEnum aFmt aJoins aFstr aLcK listB aThaw aLcV mulA
local macro_rules | `(tactic| walk_at "ix") => `(tactic| simp only [aC_eq, aVar_eq, aOp_eq, aNil_eq, aCons_eq, aTest_eq, aAnd_eq, aOr_eq, aNot_eq, aYes_eq, aAndV_eq, aOrV_eq, aNotV_eq, aNeg_eq, aIf_eq, aChain_eq, aLst_eq, aLstC_eq, aTup_eq, aCB_eq, aFld_eq, aCall_eq, aMake_eq, aMakeC_eq, aMeth_eq, aBM_eq, aBM0_eq, aBMd_eq, aSl_eq, aPart_eq, aNoPart_eq, aNext_eq, aSeq_eq, aAsg_eq, aRet_eq, aRetN_eq, aExpr_eq, aIfS_eq, aPar_eq, aBreak_eq, aCont_eq, aNever_eq, aDput_eq, aFor_eq, aForC_eq, aWhile_eq, aIt_eq, aRg1_eq, aRg2_eq, aItems_eq, aLstRg_eq, aLc_eq, aDisp_eq, aDispS_eq, aDef_eq, aDefC_eq, dOp_eq, addA_eq, ixA_eq, dCB1_eq, dCB2_eq, dBM0_eq, dBM1_eq, isiA_eq, listA_eq, listC_eq, tupleA_eq, dictC_eq, appendA_eq, updateA_eq, aDnew_eq, pairsA_eq, aMethKW_eq, aMakeKW_eq, aRaise_eq, aTry_eq, aXF_eq, isxA_eq, aZip_eq, aLcC_eq, aCall0_eq, aMeth0_eq, eqX_eq, strX_eq, aCM_eq, aMakeL_eq, aTryF_eq, aStar_eq, inG_eq, popA_eq, insertA_eq, splitC_eq, eqK_eq, aOwn_eq, aAugO_eq, isiT_eq, aRaise0_eq, isxZ_eq, aRev_eq, aZipM_eq, aEnum_eq, aFmt_eq, aJoins_eq, aFstr_eq, aLcK_eq, listB_eq, aThaw_eq, aLcV_eq, mulA_eq])
section
variable {δ : Sta} {Ψ : SV → Sta → Prop} {Ξ : Xn → Sta → Prop} {Ψb : Bool → Sta → Prop} {Ψl : List SV → Sta → Prop} {Φ : Post} {a b c e : AE} {t u : AT} {r : AA} {p q : AS} {ss : List SV} {ce : List CO} {Ψf : SV → List CO → Prop} {Ξf : Xn → List CO → Prop} {n : Nat}
theorem s_c {d : D} (h : Ψ (.im d) δ) : (aC d δ).sat Ψ Ξ := by first | (walk_at "ix"; apply Fx.s_c <;> assumption) | (simp only [dOp_eq, pairsA_eq, aMake_eq] at h; walk_at "ix"; apply Fx.s_c <;> assumption) | (simp only [dCB1_eq, aJoins_eq, aFstr_eq, aFmt_eq] at h ⊢; apply Fx.s_c <;> assumption)
theorem s_var {i : Nat} {s : SV} (hs : δ.sl[i]? = some s) (hn : s ≠ .no) (h : Ψ (nrm δ.ce s) δ) : (aVar i δ).sat Ψ Ξ := by first | (walk_at "ix"; apply Fx.s_var <;> assumption) | (simp only [dOp_eq, pairsA_eq, aMake_eq] at h; walk_at "ix"; apply Fx.s_var <;> assumption) | (simp only [dCB1_eq, aJoins_eq, aFstr_eq, aFmt_eq] at h ⊢; apply Fx.s_var <;> assumption)
theorem s_varI {i : Nat} {d : D} (hs : δ.sl[i]? = some (.im d)) (h : Ψ (.im d) δ) : (aVar i δ).sat Ψ Ξ := by first | (walk_at "ix"; apply Fx.s_varI <;> assumption) | (simp only [dOp_eq, pairsA_eq, aMake_eq] at h; walk_at "ix"; apply Fx.s_varI <;> assumption) | (simp only [dCB1_eq, aJoins_eq, aFstr_eq, aFmt_eq] at h ⊢; apply Fx.s_varI <;> assumption)
theorem s_varC {i c : Nat} {s : SV} (hs : δ.sl[i]? = some (.cl c)) (hn : nrm δ.ce (.cl c) = s) (h : Ψ s δ) : (aVar i δ).sat Ψ Ξ := by first | (walk_at "ix"; apply Fx.s_varC <;> assumption) | (simp only [dOp_eq, pairsA_eq, aMake_eq] at h; walk_at "ix"; apply Fx.s_varC <;> assumption) | (simp only [dCB1_eq, aJoins_eq, aFstr_eq, aFmt_eq] at h ⊢; apply Fx.s_varC <;> assumption)
theorem s_op {o : AOp} (h : (a δ).sat (fun s δ1 => (b δ1).sat (fun t δ2 => (o s t δ2).sat Ψ Ξ) Ξ) Ξ) : (aOp o a b δ).sat Ψ Ξ := by first | (walk_at "ix"; apply Fx.s_op <;> assumption) | (simp only [dOp_eq, pairsA_eq, aMake_eq] at h; walk_at "ix"; apply Fx.s_op <;> assumption) | (simp only [dCB1_eq, aJoins_eq, aFstr_eq, aFmt_eq] at h ⊢; apply Fx.s_op <;> assumption)
theorem s_dop {f : D → D → Option D} {s t : SV} {x y d : D} (h1 : dv δ.ce s = some x) (h2 : dv δ.ce t = some y) (h3 : f x y = some d) (k : Ψ (.im d) δ) : (dOp f s t δ).sat Ψ Ξ := by first | (walk_at "ix"; apply Fx.s_dop <;> assumption) | (simp only [dOp_eq, pairsA_eq, aMake_eq] at h; walk_at "ix"; apply Fx.s_dop <;> assumption) | (simp only [dCB1_eq, aJoins_eq, aFstr_eq, aFmt_eq] at h ⊢; apply Fx.s_dop <;> assumption)
theorem s_nil (h : Ψl [] δ) : (aNil δ).sat Ψl Ξ := by first | (walk_at "ix"; apply Fx.s_nil <;> assumption) | (simp only [dOp_eq, pairsA_eq, aMake_eq] at h; walk_at "ix"; apply Fx.s_nil <;> assumption) | (simp only [dCB1_eq, aJoins_eq, aFstr_eq, aFmt_eq] at h ⊢; apply Fx.s_nil <;> assumption)
theorem s_cons (h : (a δ).sat (fun s δ1 => (r δ1).sat (fun ss δ2 => Ψl (s :: ss) δ2) Ξ) Ξ) : (aCons a r δ).sat Ψl Ξ := by first | (walk_at "ix"; apply Fx.s_cons <;> assumption) | (simp only [dOp_eq, pairsA_eq, aMake_eq] at h; walk_at "ix"; apply Fx.s_cons <;> assumption) | (simp only [dCB1_eq, aJoins_eq, aFstr_eq, aFmt_eq] at h ⊢; apply Fx.s_cons <;> assumption)
theorem s_test (h : (a δ).sat (fun s δ1 => ∃ b, dv δ1.ce s = some (.bl b) ∧ Ψb b δ1) Ξ) : (aTest a δ).sat Ψb Ξ := by first | (walk_at "ix"; apply Fx.s_test <;> assumption) | (simp only [dOp_eq, pairsA_eq, aMake_eq] at h; walk_at "ix"; apply Fx.s_test <;> assumption) | (simp only [dCB1_eq, aJoins_eq, aFstr_eq, aFmt_eq] at h ⊢; apply Fx.s_test <;> assumption)
theorem s_and (h : (t δ).sat (fun b δ1 => (b = true → (u δ1).sat Ψb Ξ) ∧ (b = false → Ψb false δ1)) Ξ) : (aAnd t u δ).sat Ψb Ξ := by first | (walk_at "ix"; apply Fx.s_and <;> assumption) | (simp only [dOp_eq, pairsA_eq, aMake_eq] at h; walk_at "ix"; apply Fx.s_and <;> assumption) | (simp only [dCB1_eq, aJoins_eq, aFstr_eq, aFmt_eq] at h ⊢; apply Fx.s_and <;> assumption)
theorem s_or (h : (t δ).sat (fun b δ1 => (b = true → Ψb true δ1) ∧ (b = false → (u δ1).sat Ψb Ξ)) Ξ) : (aOr t u δ).sat Ψb Ξ := by first | (walk_at "ix"; apply Fx.s_or <;> assumption) | (simp only [dOp_eq, pairsA_eq, aMake_eq] at h; walk_at "ix"; apply Fx.s_or <;> assumption) | (simp only [dCB1_eq, aJoins_eq, aFstr_eq, aFmt_eq] at h ⊢; apply Fx.s_or <;> assumption)
theorem s_not (h : (t δ).sat (fun b δ1 => Ψb (!b) δ1) Ξ) : (aNot t δ).sat Ψb Ξ := by first | (walk_at "ix"; apply Fx.s_not <;> assumption) | (simp only [dOp_eq, pairsA_eq, aMake_eq] at h; walk_at "ix"; apply Fx.s_not <;> assumption) | (simp only [dCB1_eq, aJoins_eq, aFstr_eq, aFmt_eq] at h ⊢; apply Fx.s_not <;> assumption)
theorem s_yes (h : Ψb true δ) : (aYes δ).sat Ψb Ξ := by first | (walk_at "ix"; apply Fx.s_yes <;> assumption) | (simp only [dOp_eq, pairsA_eq, aMake_eq] at h; walk_at "ix"; apply Fx.s_yes <;> assumption) | (simp only [dCB1_eq, aJoins_eq, aFstr_eq, aFmt_eq] at h ⊢; apply Fx.s_yes <;> assumption)
theorem s_andV (h : (a δ).sat (fun s δ1 => ∃ c, dv δ1.ce s = some (.bl c) ∧ (c = true → (b δ1).sat Ψ Ξ) ∧ (c = false → Ψ (.im (.bl false)) δ1)) Ξ) : (aAndV a b δ).sat Ψ Ξ := by first | (walk_at "ix"; apply Fx.s_andV <;> assumption) | (simp only [dOp_eq, pairsA_eq, aMake_eq] at h; walk_at "ix"; apply Fx.s_andV <;> assumption) | (simp only [dCB1_eq, aJoins_eq, aFstr_eq, aFmt_eq] at h ⊢; apply Fx.s_andV <;> assumption)
theorem s_orV (h : (a δ).sat (fun s δ1 => ∃ c, dv δ1.ce s = some (.bl c) ∧ (c = true → Ψ (.im (.bl true)) δ1) ∧ (c = false → (b δ1).sat Ψ Ξ)) Ξ) : (aOrV a b δ).sat Ψ Ξ := by first | (walk_at "ix"; apply Fx.s_orV <;> assumption) | (simp only [dOp_eq, pairsA_eq, aMake_eq] at h; walk_at "ix"; apply Fx.s_orV <;> assumption) | (simp only [dCB1_eq, aJoins_eq, aFstr_eq, aFmt_eq] at h ⊢; apply Fx.s_orV <;> assumption)
theorem s_notV (h : (a δ).sat (fun s δ1 => ∃ c, dv δ1.ce s = some (.bl c) ∧ Ψ (.im (.bl (!c))) δ1) Ξ) : (aNotV a δ).sat Ψ Ξ := by first | (walk_at "ix"; apply Fx.s_notV <;> assumption) | (simp only [dOp_eq, pairsA_eq, aMake_eq] at h; walk_at "ix"; apply Fx.s_notV <;> assumption) | (simp only [dCB1_eq, aJoins_eq, aFstr_eq, aFmt_eq] at h ⊢; apply Fx.s_notV <;> assumption)
theorem s_neg (h : (a δ).sat (fun s δ1 => ∃ i, dv δ1.ce s = some (.int i) ∧ Ψ (.im (.int (-i))) δ1) Ξ) : (aNeg a δ).sat Ψ Ξ := by first | (walk_at "ix"; apply Fx.s_neg <;> assumption) | (simp only [dOp_eq, pairsA_eq, aMake_eq] at h; walk_at "ix"; apply Fx.s_neg <;> assumption) | (simp only [dCB1_eq, aJoins_eq, aFstr_eq, aFmt_eq] at h ⊢; apply Fx.s_neg <;> assumption)
theorem s_if (h : (t δ).sat (fun c δ1 => (c = true → (a δ1).sat Ψ Ξ) ∧ (c = false → (b δ1).sat Ψ Ξ)) Ξ) : (aIf t a b δ).sat Ψ Ξ := by first | (walk_at "ix"; apply Fx.s_if <;> assumption) | (simp only [dOp_eq, pairsA_eq, aMake_eq] at h; walk_at "ix"; apply Fx.s_if <;> assumption) | (simp only [dCB1_eq, aJoins_eq, aFstr_eq, aFmt_eq] at h ⊢; apply Fx.s_if <;> assumption)
theorem s_lst (h : (r δ).sat (fun ss δ1 => ss.length ≤ 1000 ∧ ∃ ds, imL δ1.ce ss = some ds ∧ Ψ (.im (.lst ds)) δ1) Ξ) : (aLst r δ).sat Ψ Ξ := by first | (walk_at "ix"; apply Fx.s_lst <;> assumption) | (simp only [dOp_eq, pairsA_eq, aMake_eq] at h; walk_at "ix"; apply Fx.s_lst <;> assumption) | (simp only [dCB1_eq, aJoins_eq, aFstr_eq, aFmt_eq] at h ⊢; apply Fx.s_lst <;> assumption)
theorem s_lstC (h : (r δ).sat (fun ss δ1 => ss.length ≤ 1000 ∧ Ψ (.cl δ1.ce.length) ⟨δ1.sl, δ1.ce ++ [.lst ss]⟩) Ξ) : (aLstC r δ).sat Ψ Ξ := by first | (walk_at "ix"; apply Fx.s_lstC <;> assumption) | (simp only [dOp_eq, pairsA_eq, aMake_eq] at h; walk_at "ix"; apply Fx.s_lstC <;> assumption) | (simp only [dCB1_eq, aJoins_eq, aFstr_eq, aFmt_eq] at h ⊢; apply Fx.s_lstC <;> assumption)
theorem s_tup (h : (r δ).sat (fun ss δ1 => ss.length ≤ 1000 ∧ ∃ ds, imL δ1.ce ss = some ds ∧ Ψ (.im (.tup ds)) δ1) Ξ) : (aTup r δ).sat Ψ Ξ := by first | (walk_at "ix"; apply Fx.s_tup <;> assumption) | (simp only [dOp_eq, pairsA_eq, aMake_eq] at h; walk_at "ix"; apply Fx.s_tup <;> assumption) | (simp only [dCB1_eq, aJoins_eq, aFstr_eq, aFmt_eq] at h ⊢; apply Fx.s_tup <;> assumption)
theorem s_cb {f : ACB} (h : (r δ).sat (fun ss δ1 => (f ss δ1).sat Ψ Ξ) Ξ) : (aCB f r δ).sat Ψ Ξ := by first | (walk_at "ix"; apply Fx.s_cb <;> assumption) | (simp only [dOp_eq, pairsA_eq, aMake_eq] at h; walk_at "ix"; apply Fx.s_cb <;> assumption) | (simp only [dCB1_eq, aJoins_eq, aFstr_eq, aFmt_eq] at h ⊢; apply Fx.s_cb <;> assumption)
theorem s_cb1 {f : D → Option D} {s : SV} {x d : D} (h1 : dv δ.ce s = some x) (h2 : f x = some d) (k : Ψ (.im d) δ) : (dCB1 f [s] δ).sat Ψ Ξ := by first | (walk_at "ix"; apply Fx.s_cb1 <;> assumption) | (simp only [dOp_eq, pairsA_eq, aMake_eq] at h; walk_at "ix"; apply Fx.s_cb1 <;> assumption) | (simp only [dCB1_eq, aJoins_eq, aFstr_eq, aFmt_eq] at h ⊢; apply Fx.s_cb1 <;> assumption)
theorem s_cb2 {f : D → D → Option D} {s t : SV} (h : (dOp f s t δ).sat Ψ Ξ) : (dCB2 f [s, t] δ).sat Ψ Ξ := by first | (walk_at "ix"; apply Fx.s_cb2 <;> assumption) | (simp only [dOp_eq, pairsA_eq, aMake_eq] at h; walk_at "ix"; apply Fx.s_cb2 <;> assumption) | (simp only [dCB1_eq, aJoins_eq, aFstr_eq, aFmt_eq] at h ⊢; apply Fx.s_cb2 <;> assumption)
theorem s_fld {ct : CT} {f : Str} (h : (a δ).sat (fun s δ1 => ∃ C fs d, s = .im (.ins C fs) ∧ fs.lookup f = some d ∧ ct.has C f = true ∧ Ψ (.im d) δ1) Ξ) : (aFld ct a f δ).sat Ψ Ξ := by first | (walk_at "ix"; apply Fx.s_fld <;> assumption) | (simp only [dOp_eq, pairsA_eq, aMake_eq] at h; walk_at "ix"; apply Fx.s_fld <;> assumption) | (simp only [dCB1_eq, aJoins_eq, aFstr_eq, aFmt_eq] at h ⊢; apply Fx.s_fld <;> assumption)
theorem s_call {n : Nat} {F : Fn} {dds : List D} (h : (r δ).sat (fun ss δ1 => (ss ++ dds.map SV.im).length = n ∧ (F (ss ++ dds.map SV.im) δ1.ce).sat (fun s ce => Ψ s ⟨δ1.sl, ce⟩) (fun x ce => Ξ x ⟨δ1.sl, ce⟩)) Ξ) : (aCall n F dds r δ).sat Ψ Ξ := by first | (walk_at "ix"; apply Fx.s_call <;> assumption) | (simp only [dOp_eq, pairsA_eq, aMake_eq] at h; walk_at "ix"; apply Fx.s_call <;> assumption) | (simp only [dCB1_eq, aJoins_eq, aFstr_eq, aFmt_eq] at h ⊢; apply Fx.s_call <;> assumption)
theorem s_meth {tab : MTab} {m : Str} (h : (a δ).sat (fun s δ1 => ∃ C n F, clsS δ1 m s = some C ∧ tab.lookup C = some (n, F) ∧ (r δ1).sat (fun ss δ2 => (s :: ss).length = n ∧ (F (s :: ss) δ2.ce).sat (fun s ce => Ψ s ⟨δ2.sl, ce⟩) (fun x ce => Ξ x ⟨δ2.sl, ce⟩)) Ξ) Ξ) : (aMeth tab m a r δ).sat Ψ Ξ := by first | (walk_at "ix"; apply Fx.s_meth <;> assumption) | (simp only [dOp_eq, pairsA_eq, aMake_eq] at h; walk_at "ix"; apply Fx.s_meth <;> assumption) | (simp only [dCB1_eq, aJoins_eq, aFstr_eq, aFmt_eq] at h ⊢; apply Fx.s_meth <;> assumption)
theorem s_bm {T : String} {f : ABM} (h : (a δ).sat (fun s δ1 => tyS T δ1 s = true ∧ (r δ1).sat (fun ss δ2 => (f s ss δ2).sat Ψ Ξ) Ξ) Ξ) : (aBM T f a r δ).sat Ψ Ξ := by first | (walk_at "ix"; apply Fx.s_bm <;> assumption) | (simp only [dOp_eq, pairsA_eq, aMake_eq] at h; walk_at "ix"; apply Fx.s_bm <;> assumption) | (simp only [dCB1_eq, aJoins_eq, aFstr_eq, aFmt_eq] at h ⊢; apply Fx.s_bm <;> assumption)
theorem s_bm0 {T : String} {f : ABM} (h : (a δ).sat (fun s δ1 => tyS T δ1 s = true ∧ (f s [] δ1).sat Ψ Ξ) Ξ) : (aBM0 T f a δ).sat Ψ Ξ := by first | (walk_at "ix"; apply Fx.s_bm0 <;> assumption) | (simp only [dOp_eq, pairsA_eq, aMake_eq] at h; walk_at "ix"; apply Fx.s_bm0 <;> assumption) | (simp only [dCB1_eq, aJoins_eq, aFstr_eq, aFmt_eq] at h ⊢; apply Fx.s_bm0 <;> assumption)
theorem s_bm1 {f : D → D → Option D} {s t : SV} (h : (dOp f s t δ).sat Ψ Ξ) : (dBM1 f s [t] δ).sat Ψ Ξ := by first | (walk_at "ix"; apply Fx.s_bm1 <;> assumption) | (simp only [dOp_eq, pairsA_eq, aMake_eq] at h; walk_at "ix"; apply Fx.s_bm1 <;> assumption) | (simp only [dCB1_eq, aJoins_eq, aFstr_eq, aFmt_eq] at h ⊢; apply Fx.s_bm1 <;> assumption)
theorem s_bmz {f : D → Option D} {s : SV} {x d : D} (h1 : dv δ.ce s = some x) (h2 : f x = some d) (k : Ψ (.im d) δ) : (dBM0 f s [] δ).sat Ψ Ξ := by first | (walk_at "ix"; apply Fx.s_bmz <;> assumption) | (simp only [dOp_eq, pairsA_eq, aMake_eq] at h; walk_at "ix"; apply Fx.s_bmz <;> assumption) | (simp only [dCB1_eq, aJoins_eq, aFstr_eq, aFmt_eq] at h ⊢; apply Fx.s_bmz <;> assumption)
theorem s_isi {isi : Isi} {s t : SV} {k c : XC} {d : D} {b : Bool} (h1 : kindS δ s = some k) (h2 : dv δ.ce t = some d) (h3 : clsD d = some c) (h4 : isi.lookup (k, c) = some b) (h : Ψ (.im (.bl b)) δ) : (isiA isi [s, t] δ).sat Ψ Ξ := by first | (walk_at "ix"; apply Fx.s_isi <;> assumption) | (simp only [dOp_eq, pairsA_eq, aMake_eq] at h; walk_at "ix"; apply Fx.s_isi <;> assumption) | (simp only [dCB1_eq, aJoins_eq, aFstr_eq, aFmt_eq] at h ⊢; apply Fx.s_isi <;> assumption)
theorem s_sl {lo hi : AO} (h : (a δ).sat (fun s δ1 => (lo δ1).sat (fun l δ2 => (hi δ2).sat (fun k δ3 => ∃ x d, dv δ3.ce s = some x ∧ slD x l k = some d ∧ (∀ ds, x ≠ .tup ds) ∧ Ψ (.im d) δ3) Ξ) Ξ) Ξ) : (aSl a lo hi δ).sat Ψ Ξ := by first | (walk_at "ix"; apply Fx.s_sl <;> assumption) | (simp only [dOp_eq, pairsA_eq, aMake_eq] at h; walk_at "ix"; apply Fx.s_sl <;> assumption) | (simp only [dCB1_eq, aJoins_eq, aFstr_eq, aFmt_eq] at h ⊢; apply Fx.s_sl <;> assumption)
theorem s_nopart {Ψo : Option Int → Sta → Prop} (h : Ψo none δ) : (aNoPart δ).sat Ψo Ξ := by first | (walk_at "ix"; apply Fx.s_nopart <;> assumption) | (simp only [dOp_eq, pairsA_eq, aMake_eq] at h; walk_at "ix"; apply Fx.s_nopart <;> assumption) | (simp only [dCB1_eq, aJoins_eq, aFstr_eq, aFmt_eq] at h ⊢; apply Fx.s_nopart <;> assumption)
theorem s_part {Ψo : Option Int → Sta → Prop} (h : (a δ).sat (fun s δ1 => ∃ i, dv δ1.ce s = some (.int i) ∧ Ψo (some i) δ1) Ξ) : (aPart a δ).sat Ψo Ξ := by first | (walk_at "ix"; apply Fx.s_part <;> assumption) | (simp only [dOp_eq, pairsA_eq, aMake_eq] at h; walk_at "ix"; apply Fx.s_part <;> assumption) | (simp only [dCB1_eq, aJoins_eq, aFstr_eq, aFmt_eq] at h ⊢; apply Fx.s_part <;> assumption)
theorem s_next (h : Φ.nx δ) : (aNext δ).sat Φ := by first | (walk_at "ix"; apply Fx.s_next <;> assumption) | (simp only [dOp_eq, pairsA_eq, aMake_eq] at h; walk_at "ix"; apply Fx.s_next <;> assumption) | (simp only [dCB1_eq, aJoins_eq, aFstr_eq, aFmt_eq] at h ⊢; apply Fx.s_next <;> assumption)
theorem s_seq (h : (p δ).sat { Φ with nx := fun δ1 => (q δ1).sat Φ }) : (aSeq p q δ).sat Φ := by first | (walk_at "ix"; apply Fx.s_seq <;> assumption) | (simp only [dOp_eq, pairsA_eq, aMake_eq] at h; walk_at "ix"; apply Fx.s_seq <;> assumption) | (simp only [dCB1_eq, aJoins_eq, aFstr_eq, aFmt_eq] at h ⊢; apply Fx.s_seq <;> assumption)
theorem s_asg {g : AG} (h : (e δ).sat (fun s δ1 => ∃ δ2, g s δ1 = some δ2 ∧ Φ.nx δ2) Φ.ex) : (aAsg e g δ).sat Φ := by first | (walk_at "ix"; apply Fx.s_asg <;> assumption) | (simp only [dOp_eq, pairsA_eq, aMake_eq] at h; walk_at "ix"; apply Fx.s_asg <;> assumption) | (simp only [dCB1_eq, aJoins_eq, aFstr_eq, aFmt_eq] at h ⊢; apply Fx.s_asg <;> assumption)
theorem s_set {i : Nat} (h : (e δ).sat (fun s δ1 => Φ.nx ⟨δ1.sl.set i s, δ1.ce⟩) Φ.ex) : (aAsg e (gNm i) δ).sat Φ := by first | (walk_at "ix"; apply Fx.s_set <;> assumption) | (simp only [dOp_eq, pairsA_eq, aMake_eq] at h; walk_at "ix"; apply Fx.s_set <;> assumption) | (simp only [dCB1_eq, aJoins_eq, aFstr_eq, aFmt_eq] at h ⊢; apply Fx.s_set <;> assumption)
theorem s_ret (h : (e δ).sat Φ.rt Φ.ex) : (aRet e δ).sat Φ := by first | (walk_at "ix"; apply Fx.s_ret <;> assumption) | (simp only [dOp_eq, pairsA_eq, aMake_eq] at h; walk_at "ix"; apply Fx.s_ret <;> assumption) | (simp only [dCB1_eq, aJoins_eq, aFstr_eq, aFmt_eq] at h ⊢; apply Fx.s_ret <;> assumption)
theorem s_retN (h : Φ.rt (.im .non) δ) : (aRetN δ).sat Φ := by first | (walk_at "ix"; apply Fx.s_retN <;> assumption) | (simp only [dOp_eq, pairsA_eq, aMake_eq] at h; walk_at "ix"; apply Fx.s_retN <;> assumption) | (simp only [dCB1_eq, aJoins_eq, aFstr_eq, aFmt_eq] at h ⊢; apply Fx.s_retN <;> assumption)
theorem s_expr (h : (e δ).sat (fun _ δ1 => Φ.nx δ1) Φ.ex) : (aExpr e δ).sat Φ := by first | (walk_at "ix"; apply Fx.s_expr <;> assumption) | (simp only [dOp_eq, pairsA_eq, aMake_eq] at h; walk_at "ix"; apply Fx.s_expr <;> assumption) | (simp only [dCB1_eq, aJoins_eq, aFstr_eq, aFmt_eq] at h ⊢; apply Fx.s_expr <;> assumption)
theorem s_ifS (h : (t δ).sat (fun c δ1 => (c = true → (p δ1).sat Φ) ∧ (c = false → (q δ1).sat Φ)) Φ.ex) : (aIfS t p q δ).sat Φ := by first | (walk_at "ix"; apply Fx.s_ifS <;> assumption) | (simp only [dOp_eq, pairsA_eq, aMake_eq] at h; walk_at "ix"; apply Fx.s_ifS <;> assumption) | (simp only [dCB1_eq, aJoins_eq, aFstr_eq, aFmt_eq] at h ⊢; apply Fx.s_ifS <;> assumption)
theorem s_par {i j : Nat} (h : (r δ).sat (fun ss δ1 => ∃ s t, ss = [s, t] ∧ Φ.nx ⟨(δ1.sl.set i s).set j t, δ1.ce⟩) Φ.ex) : (aPar i j r δ).sat Φ := by first | (walk_at "ix"; apply Fx.s_par <;> assumption) | (simp only [dOp_eq, pairsA_eq, aMake_eq] at h; walk_at "ix"; apply Fx.s_par <;> assumption) | (simp only [dCB1_eq, aJoins_eq, aFstr_eq, aFmt_eq] at h ⊢; apply Fx.s_par <;> assumption)
theorem s_dput {d k v : AE} (h : (v δ).sat (fun s δ1 => (d δ1).sat (fun z δ2 => ∃ c, z = .cl c ∧ (k δ2).sat (fun y δ3 => ∃ kvs kd kk, δ3.ce[c]? = some (.dic kvs) ∧ dv δ3.ce y = some kd ∧ keyOf kd = some kk ∧ kvs.length < 1000 ∧ Φ.nx ⟨δ3.sl, δ3.ce.set c (.dic (putS kvs kk s))⟩) Φ.ex) Φ.ex) Φ.ex) : (aDput d k v δ).sat Φ := by first | (walk_at "ix"; apply Fx.s_dput <;> assumption) | (simp only [dOp_eq, pairsA_eq, aMake_eq] at h; walk_at "ix"; apply Fx.s_dput <;> assumption) | (simp only [dCB1_eq, aJoins_eq, aFstr_eq, aFmt_eq] at h ⊢; apply Fx.s_dput <;> assumption)
theorem s_pairs0 {Ψp : List (Key × SV) → Sta → Prop} (h : Ψp [] δ) : (pairsA [] δ).sat Ψp Ξ := by first | (walk_at "ix"; apply Fx.s_pairs0 <;> assumption) | (simp only [dOp_eq, pairsA_eq, aMake_eq] at h; walk_at "ix"; apply Fx.s_pairs0 <;> assumption) | (simp only [dCB1_eq, aJoins_eq, aFstr_eq, aFmt_eq] at h ⊢; apply Fx.s_pairs0 <;> assumption)
theorem s_pairs {Ψp : List (Key × SV) → Sta → Prop} {k v : AE} {l : List (AE × AE)} (h : (k δ).sat (fun s δ1 => (v δ1).sat (fun t δ2 => (pairsA l δ2).sat (fun ps δ3 => ∃ kd kk, imS δ3.ce s = some kd ∧ keyOf kd = some kk ∧ Ψp ((kk, t) :: ps) δ3) Ξ) Ξ) Ξ) : (pairsA ((k, v) :: l) δ).sat Ψp Ξ := by first | (walk_at "ix"; apply Fx.s_pairs <;> assumption) | (simp only [dOp_eq, pairsA_eq, aMake_eq] at h; walk_at "ix"; apply Fx.s_pairs <;> assumption) | (simp only [dCB1_eq, aJoins_eq, aFstr_eq, aFmt_eq] at h ⊢; apply Fx.s_pairs <;> assumption)
theorem s_disp {l : List (AE × AE)} (h : (pairsA l ⟨δ.sl, δ.ce ++ [.dic []]⟩).sat (fun kvs δ1 => δ1.ce[δ.ce.length]? = some (.dic []) ∧ kvs.length ≤ 15 ∧ Ψ (.cl δ.ce.length) ⟨δ1.sl, δ1.ce.set δ.ce.length (.dic (mergeS [] kvs))⟩) Ξ) : (aDisp l δ).sat Ψ Ξ := by first | (walk_at "ix"; apply Fx.s_disp <;> assumption) | (simp only [dOp_eq, pairsA_eq, aMake_eq] at h; walk_at "ix"; apply Fx.s_disp <;> assumption) | (simp only [dCB1_eq, aJoins_eq, aFstr_eq, aFmt_eq] at h ⊢; apply Fx.s_disp <;> assumption)
theorem s_rg1 {Ψi : List D → Sta → Prop} (h : (r δ).sat (fun ss δ1 => ∃ s n, ss = [s] ∧ dv δ1.ce s = some (.int n) ∧ (-1000000000 ≤ n ∧ n ≤ 1000000000) ∧ Ψi (rgD 0 n.toNat) δ1) Ξ) : (aRg1 r δ).sat Ψi Ξ := by first | (walk_at "ix"; apply Fx.s_rg1 <;> assumption) | (simp only [dOp_eq, pairsA_eq, aMake_eq] at h; walk_at "ix"; apply Fx.s_rg1 <;> assumption) | (simp only [dCB1_eq, aJoins_eq, aFstr_eq, aFmt_eq] at h ⊢; apply Fx.s_rg1 <;> assumption)
theorem s_rg2 {Ψi : List D → Sta → Prop} (h : (r δ).sat (fun ss δ1 => ∃ s t n m, ss = [s, t] ∧ dv δ1.ce s = some (.int n) ∧ dv δ1.ce t = some (.int m) ∧ ((-1000000000 ≤ n ∧ n ≤ 1000000000) ∧ (-1000000000 ≤ m ∧ m ≤ 1000000000)) ∧ Ψi (rgD n (m - n).toNat) δ1) Ξ) : (aRg2 r δ).sat Ψi Ξ := by first | (walk_at "ix"; apply Fx.s_rg2 <;> assumption) | (simp only [dOp_eq, pairsA_eq, aMake_eq] at h; walk_at "ix"; apply Fx.s_rg2 <;> assumption) | (simp only [dCB1_eq, aJoins_eq, aFstr_eq, aFmt_eq] at h ⊢; apply Fx.s_rg2 <;> assumption)
theorem s_it {Ψi : List D → Sta → Prop} (h : (a δ).sat (fun s δ1 => ∃ d ds, s = .im d ∧ itD d = some ds ∧ Ψi ds δ1) Ξ) : (aIt a δ).sat Ψi Ξ := by first | (walk_at "ix"; apply Fx.s_it <;> assumption) | (simp only [dOp_eq, pairsA_eq, aMake_eq] at h; walk_at "ix"; apply Fx.s_it <;> assumption) | (simp only [dCB1_eq, aJoins_eq, aFstr_eq, aFmt_eq] at h ⊢; apply Fx.s_it <;> assumption)
theorem s_for {it : AI} {g : AG} (J : Sta → Prop) (h : (it δ).sat (fun ds δ1 => J δ1 ∧ ∀ d ∈ ds, ∀ δ, J δ → ∃ δ', g (.im d) δ = some δ' ∧ (p δ').sat { Φ with nx := J, ct := J, bk := Φ.nx }) Φ.ex) (h2 : ∀ δ, J δ → Φ.nx δ) : (aFor it g p δ).sat Φ := by first | (walk_at "ix"; apply Fx.s_for <;> assumption) | (simp only [dOp_eq, pairsA_eq, aMake_eq] at h; walk_at "ix"; apply Fx.s_for <;> assumption) | (simp only [dCB1_eq, aJoins_eq, aFstr_eq, aFmt_eq] at h ⊢; apply Fx.s_for <;> assumption)
theorem s_forC {it : AI} {g : AG} (J : Sta → Prop) (h : (it δ).sat (fun ds δ1 => J δ1 ∧ ∀ d ∈ ds, ∀ δ, J δ → ∃ δ', g (.im d) δ = some δ' ∧ (p δ').sat { Φ with nx := fun δ2 => J (cutTurn δ1.ce δ2), ct := fun δ2 => J (cutTurn δ1.ce δ2), bk := Φ.nx }) Φ.ex) (h2 : ∀ δ, J δ → Φ.nx δ) : (aForC it g p δ).sat Φ := by first | (walk_at "ix"; apply Fx.s_forC <;> assumption) | (simp only [dOp_eq, pairsA_eq, aMake_eq] at h; walk_at "ix"; apply Fx.s_forC <;> assumption) | (simp only [dCB1_eq, aJoins_eq, aFstr_eq, aFmt_eq] at h ⊢; apply Fx.s_forC <;> assumption)
theorem s_lc {it : AI} {g : AG} {vs : List Nat} (J : List D → List CO → Prop) (h : (it δ).sat (fun ds δ1 => ds.length ≤ 100000 ∧ J [] δ1.ce ∧ (∀ d ∈ ds, ∀ acc ce, J acc ce → ∃ δ2, g (.im d) ⟨wipeS δ1.sl vs, ce⟩ = some δ2 ∧ (t δ2).sat (fun b δ2 => (b = true → (e δ2).sat (fun s δ3 => ∃ y ce3, toIm δ3.ce s = some (y, ce3) ∧ J (acc ++ [y]) (cutOr ce ce3)) fun _ _ => False) ∧ (b = false → J acc (cutOr ce δ2.ce))) fun _ _ => False) ∧ ∀ acc ce, J acc ce → acc.length ≤ ds.length → Ψ (.im (.lst acc)) ⟨δ1.sl, ce⟩) Ξ) : (aLc it g t e vs δ).sat Ψ Ξ := by first | (walk_at "ix"; apply Fx.s_lc <;> assumption) | (simp only [dOp_eq, pairsA_eq, aMake_eq] at h; walk_at "ix"; apply Fx.s_lc <;> assumption) | (simp only [dCB1_eq, aJoins_eq, aFstr_eq, aFmt_eq] at h ⊢; apply Fx.s_lc <;> assumption)
theorem s_def (h : (p ⟨ss ++ List.replicate (n - ss.length) .no, ce⟩).sat (defP ce Ψf Ξf)) : (aDef n p ss ce).sat Ψf Ξf := by first | (walk_at "ix"; apply Fx.s_def <;> assumption) | (simp only [dOp_eq, pairsA_eq, aMake_eq] at h; walk_at "ix"; apply Fx.s_def <;> assumption) | (simp only [dCB1_eq, aJoins_eq, aFstr_eq, aFmt_eq] at h ⊢; apply Fx.s_def <;> assumption)
theorem s_defC (h : (p ⟨ss ++ List.replicate (n - ss.length) .no, ce⟩).sat (defPC ce Ψf Ξf)) : (aDefC n p ss ce).sat Ψf Ξf := by first | (walk_at "ix"; apply Fx.s_defC <;> assumption) | (simp only [dOp_eq, pairsA_eq, aMake_eq] at h; walk_at "ix"; apply Fx.s_defC <;> assumption) | (simp only [dCB1_eq, aJoins_eq, aFstr_eq, aFmt_eq] at h ⊢; apply Fx.s_defC <;> assumption)
theorem s_make {x : Str} {F : Fn} {dds : List D} (h : (r δ).sat (fun ss δ1 => (SV.cl δ1.ce.length :: (ss ++ dds.map SV.im)).length = n ∧ ∃ ce, F (.cl δ1.ce.length :: (ss ++ dds.map SV.im)) (δ1.ce ++ [.ins x []]) = .ok (.im .non) ce ∧ ∃ d ce1 ce2, frz ce δ1.ce.length = some (d, ce1) ∧ cutTo δ1.ce ce1 = some ce2 ∧ Ψ (.im d) ⟨δ1.sl, ce2⟩) Ξ) : (aMake x n F dds r δ).sat Ψ Ξ := by first | (walk_at "ix"; apply Fx.s_make <;> assumption) | (simp only [dOp_eq, pairsA_eq, aMake_eq] at h; walk_at "ix"; apply Fx.s_make <;> assumption) | (simp only [dCB1_eq, aJoins_eq, aFstr_eq, aFmt_eq] at h ⊢; apply Fx.s_make <;> assumption)
theorem s_varB {i c : Nat} (hs : δ.sl[i]? = some (.cl c)) (hn : notFz δ.ce c = true) (h : Ψ (.cl c) δ) : (aVar i δ).sat Ψ Ξ := by first | (walk_at "ix"; apply Fx.s_varB <;> assumption) | (simp only [dOp_eq, pairsA_eq, aMake_eq] at h; walk_at "ix"; apply Fx.s_varB <;> assumption) | (simp only [dCB1_eq, aJoins_eq, aFstr_eq, aFmt_eq] at h ⊢; apply Fx.s_varB <;> assumption)
theorem s_varF {i c : Nat} {d : D} (hs : δ.sl[i]? = some (.cl c)) (hn : δ.ce[c]? = some (.fz d)) (h : Ψ (.im d) δ) : (aVar i δ).sat Ψ Ξ := by first | (walk_at "ix"; apply Fx.s_varF <;> assumption) | (simp only [dOp_eq, pairsA_eq, aMake_eq] at h; walk_at "ix"; apply Fx.s_varF <;> assumption) | (simp only [dCB1_eq, aJoins_eq, aFstr_eq, aFmt_eq] at h ⊢; apply Fx.s_varF <;> assumption)
theorem s_addI {i j : Int} (h : Ψ (.im (.int (i + j))) δ) : (addA (.im (.int i)) (.im (.int j)) δ).sat Ψ Ξ := by first | (walk_at "ix"; apply Fx.s_addI <;> assumption) | (simp only [dOp_eq, pairsA_eq, aMake_eq] at h; walk_at "ix"; apply Fx.s_addI <;> assumption) | (simp only [dCB1_eq, aJoins_eq, aFstr_eq, aFmt_eq] at h ⊢; apply Fx.s_addI <;> assumption)
theorem s_addS {i j : Str} (hl : i.length + j.length ≤ 1000000) (h : Ψ (.im (.str (i ++ j))) δ) : (addA (.im (.str i)) (.im (.str j)) δ).sat Ψ Ξ := by first | (walk_at "ix"; apply Fx.s_addS <;> assumption) | (simp only [dOp_eq, pairsA_eq, aMake_eq] at h; walk_at "ix"; apply Fx.s_addS <;> assumption) | (simp only [dCB1_eq, aJoins_eq, aFstr_eq, aFmt_eq] at h ⊢; apply Fx.s_addS <;> assumption)
theorem s_addL {i j : List D} (hl : i.length + j.length ≤ 1000000) (h : Ψ (.im (.lst (i ++ j))) δ) : (addA (.im (.lst i)) (.im (.lst j)) δ).sat Ψ Ξ := by first | (walk_at "ix"; apply Fx.s_addL <;> assumption) | (simp only [dOp_eq, pairsA_eq, aMake_eq] at h; walk_at "ix"; apply Fx.s_addL <;> assumption) | (simp only [dCB1_eq, aJoins_eq, aFstr_eq, aFmt_eq] at h ⊢; apply Fx.s_addL <;> assumption)
theorem s_addT {i j : List D} (hl : i.length + j.length ≤ 1000000) (h : Ψ (.im (.tup (i ++ j))) δ) : (addA (.im (.tup i)) (.im (.tup j)) δ).sat Ψ Ξ := by first | (walk_at "ix"; apply Fx.s_addT <;> assumption) | (simp only [dOp_eq, pairsA_eq, aMake_eq] at h; walk_at "ix"; apply Fx.s_addT <;> assumption) | (simp only [dCB1_eq, aJoins_eq, aFstr_eq, aFmt_eq] at h ⊢; apply Fx.s_addT <;> assumption)
theorem s_subI {i j : Int} (h : Ψ (.im (.int (i - j))) δ) : (dOp subD (.im (.int i)) (.im (.int j)) δ).sat Ψ Ξ := by first | (walk_at "ix"; apply Fx.s_subI <;> assumption) | (simp only [dOp_eq, pairsA_eq, aMake_eq] at h; walk_at "ix"; apply Fx.s_subI <;> assumption) | (simp only [dCB1_eq, aJoins_eq, aFstr_eq, aFmt_eq] at h ⊢; apply Fx.s_subI <;> assumption)
theorem s_mulI {i j : Int} (hc : (-18446744073709551616 < i ∧ i < 18446744073709551616) ∨ (-18446744073709551616 < j ∧ j < 18446744073709551616)) (h : Ψ (.im (.int (i * j))) δ) : (dOp mulD (.im (.int i)) (.im (.int j)) δ).sat Ψ Ξ := by first | (walk_at "ix"; apply Fx.s_mulI <;> assumption) | (simp only [dOp_eq, pairsA_eq, aMake_eq] at h; walk_at "ix"; apply Fx.s_mulI <;> assumption) | (simp only [dCB1_eq, aJoins_eq, aFstr_eq, aFmt_eq] at h ⊢; apply Fx.s_mulI <;> assumption)
theorem s_mulS {a : Str} {n : Int} (hc : a.length ≤ 1000 ∧ -1000 ≤ n ∧ n ≤ 1000) (h : Ψ (.im (.str (Txt.mul a n))) δ) : (dOp mulD (.im (.str a)) (.im (.int n)) δ).sat Ψ Ξ := by first | (walk_at "ix"; apply Fx.s_mulS <;> assumption) | (simp only [dOp_eq, pairsA_eq, aMake_eq] at h; walk_at "ix"; apply Fx.s_mulS <;> assumption) | (simp only [dCB1_eq, aJoins_eq, aFstr_eq, aFmt_eq] at h ⊢; apply Fx.s_mulS <;> assumption)
theorem s_fdivI {i j : Int} (hc : 0 < j ∧ j < 1073741824) (h : Ψ (.im (.int (i / j))) δ) : (dOp fdivD (.im (.int i)) (.im (.int j)) δ).sat Ψ Ξ := by first | (walk_at "ix"; apply Fx.s_fdivI <;> assumption) | (simp only [dOp_eq, pairsA_eq, aMake_eq] at h; walk_at "ix"; apply Fx.s_fdivI <;> assumption) | (simp only [dCB1_eq, aJoins_eq, aFstr_eq, aFmt_eq] at h ⊢; apply Fx.s_fdivI <;> assumption)
theorem s_modI {i j : Int} (hc : 0 < j) (h : Ψ (.im (.int (i % j))) δ) : (dOp modD (.im (.int i)) (.im (.int j)) δ).sat Ψ Ξ := by first | (walk_at "ix"; apply Fx.s_modI <;> assumption) | (simp only [dOp_eq, pairsA_eq, aMake_eq] at h; walk_at "ix"; apply Fx.s_modI <;> assumption) | (simp only [dCB1_eq, aJoins_eq, aFstr_eq, aFmt_eq] at h ⊢; apply Fx.s_modI <;> assumption)
theorem s_powI {i j : Int} (hc : 0 ≤ j ∧ j ≤ 1000000 ∧ i.natAbs < 18446744073709551616) (h : Ψ (.im (.int (i ^ j.toNat))) δ) : (dOp powD (.im (.int i)) (.im (.int j)) δ).sat Ψ Ξ := by first | (walk_at "ix"; apply Fx.s_powI <;> assumption) | (simp only [dOp_eq, pairsA_eq, aMake_eq] at h; walk_at "ix"; apply Fx.s_powI <;> assumption) | (simp only [dCB1_eq, aJoins_eq, aFstr_eq, aFmt_eq] at h ⊢; apply Fx.s_powI <;> assumption)
theorem s_ltI {i j : Int} (h : Ψ (.im (.bl (decide (i < j)))) δ) : (dOp ltD (.im (.int i)) (.im (.int j)) δ).sat Ψ Ξ := by first | (walk_at "ix"; apply Fx.s_ltI <;> assumption) | (simp only [dOp_eq, pairsA_eq, aMake_eq] at h; walk_at "ix"; apply Fx.s_ltI <;> assumption) | (simp only [dCB1_eq, aJoins_eq, aFstr_eq, aFmt_eq] at h ⊢; apply Fx.s_ltI <;> assumption)
theorem s_leI {i j : Int} (h : Ψ (.im (.bl (decide (i ≤ j)))) δ) : (dOp leD (.im (.int i)) (.im (.int j)) δ).sat Ψ Ξ := by first | (walk_at "ix"; apply Fx.s_leI <;> assumption) | (simp only [dOp_eq, pairsA_eq, aMake_eq] at h; walk_at "ix"; apply Fx.s_leI <;> assumption) | (simp only [dCB1_eq, aJoins_eq, aFstr_eq, aFmt_eq] at h ⊢; apply Fx.s_leI <;> assumption)
theorem s_gtI {i j : Int} (h : Ψ (.im (.bl (decide (j < i)))) δ) : (dOp gtD (.im (.int i)) (.im (.int j)) δ).sat Ψ Ξ := by first | (walk_at "ix"; apply Fx.s_gtI <;> assumption) | (simp only [dOp_eq, pairsA_eq, aMake_eq] at h; walk_at "ix"; apply Fx.s_gtI <;> assumption) | (simp only [dCB1_eq, aJoins_eq, aFstr_eq, aFmt_eq] at h ⊢; apply Fx.s_gtI <;> assumption)
theorem s_geI {i j : Int} (h : Ψ (.im (.bl (decide (j ≤ i)))) δ) : (dOp geD (.im (.int i)) (.im (.int j)) δ).sat Ψ Ξ := by first | (walk_at "ix"; apply Fx.s_geI <;> assumption) | (simp only [dOp_eq, pairsA_eq, aMake_eq] at h; walk_at "ix"; apply Fx.s_geI <;> assumption) | (simp only [dCB1_eq, aJoins_eq, aFstr_eq, aFmt_eq] at h ⊢; apply Fx.s_geI <;> assumption)
theorem s_ltS {i j : Str} (h : Ψ (.im (.bl (decide (i.cps.toList < j.cps.toList)))) δ) : (dOp ltD (.im (.str i)) (.im (.str j)) δ).sat Ψ Ξ := by first | (walk_at "ix"; apply Fx.s_ltS <;> assumption) | (simp only [dOp_eq, pairsA_eq, aMake_eq] at h; walk_at "ix"; apply Fx.s_ltS <;> assumption) | (simp only [dCB1_eq, aJoins_eq, aFstr_eq, aFmt_eq] at h ⊢; apply Fx.s_ltS <;> assumption)
theorem s_eqI {i j : Int} (h : Ψ (.im (.bl (decide (i = j)))) δ) : (dOp eqD (.im (.int i)) (.im (.int j)) δ).sat Ψ Ξ := by first | (walk_at "ix"; apply Fx.s_eqI <;> assumption) | (simp only [dOp_eq, pairsA_eq, aMake_eq] at h; walk_at "ix"; apply Fx.s_eqI <;> assumption) | (simp only [dCB1_eq, aJoins_eq, aFstr_eq, aFmt_eq] at h ⊢; apply Fx.s_eqI <;> assumption)
theorem s_eqS {i j : Str} (h : Ψ (.im (.bl (decide (i = j)))) δ) : (dOp eqD (.im (.str i)) (.im (.str j)) δ).sat Ψ Ξ := by first | (walk_at "ix"; apply Fx.s_eqS <;> assumption) | (simp only [dOp_eq, pairsA_eq, aMake_eq] at h; walk_at "ix"; apply Fx.s_eqS <;> assumption) | (simp only [dCB1_eq, aJoins_eq, aFstr_eq, aFmt_eq] at h ⊢; apply Fx.s_eqS <;> assumption)
theorem s_neI {i j : Int} (h : Ψ (.im (.bl (!decide (i = j)))) δ) : (dOp neD (.im (.int i)) (.im (.int j)) δ).sat Ψ Ξ := by first | (walk_at "ix"; apply Fx.s_neI <;> assumption) | (simp only [dOp_eq, pairsA_eq, aMake_eq] at h; walk_at "ix"; apply Fx.s_neI <;> assumption) | (simp only [dCB1_eq, aJoins_eq, aFstr_eq, aFmt_eq] at h ⊢; apply Fx.s_neI <;> assumption)
theorem s_neS {i j : Str} (h : Ψ (.im (.bl (!decide (i = j)))) δ) : (dOp neD (.im (.str i)) (.im (.str j)) δ).sat Ψ Ξ := by first | (walk_at "ix"; apply Fx.s_neS <;> assumption) | (simp only [dOp_eq, pairsA_eq, aMake_eq] at h; walk_at "ix"; apply Fx.s_neS <;> assumption) | (simp only [dCB1_eq, aJoins_eq, aFstr_eq, aFmt_eq] at h ⊢; apply Fx.s_neS <;> assumption)
theorem s_eqB' {i j : Bool} (h : Ψ (.im (.bl (i == j))) δ) : (dOp eqD (.im (.bl i)) (.im (.bl j)) δ).sat Ψ Ξ := by first | (walk_at "ix"; apply Fx.s_eqB' <;> assumption) | (simp only [dOp_eq, pairsA_eq, aMake_eq] at h; walk_at "ix"; apply Fx.s_eqB' <;> assumption) | (simp only [dCB1_eq, aJoins_eq, aFstr_eq, aFmt_eq] at h ⊢; apply Fx.s_eqB' <;> assumption)
theorem s_neB {i j : Bool} (h : Ψ (.im (.bl (!(i == j)))) δ) : (dOp neD (.im (.bl i)) (.im (.bl j)) δ).sat Ψ Ξ := by first | (walk_at "ix"; apply Fx.s_neB <;> assumption) | (simp only [dOp_eq, pairsA_eq, aMake_eq] at h; walk_at "ix"; apply Fx.s_neB <;> assumption) | (simp only [dCB1_eq, aJoins_eq, aFstr_eq, aFmt_eq] at h ⊢; apply Fx.s_neB <;> assumption)
theorem s_isN {d : D} (h : Ψ (.im (.bl (isNon d))) δ) : (dOp isD (.im d) (.im .non) δ).sat Ψ Ξ := by first | (walk_at "ix"; apply Fx.s_isN <;> assumption) | (simp only [dOp_eq, pairsA_eq, aMake_eq] at h; walk_at "ix"; apply Fx.s_isN <;> assumption) | (simp only [dCB1_eq, aJoins_eq, aFstr_eq, aFmt_eq] at h ⊢; apply Fx.s_isN <;> assumption)
theorem s_isnotN {d : D} (h : Ψ (.im (.bl (!isNon d))) δ) : (dOp isnotD (.im d) (.im .non) δ).sat Ψ Ξ := by first | (walk_at "ix"; apply Fx.s_isnotN <;> assumption) | (simp only [dOp_eq, pairsA_eq, aMake_eq] at h; walk_at "ix"; apply Fx.s_isnotN <;> assumption) | (simp only [dCB1_eq, aJoins_eq, aFstr_eq, aFmt_eq] at h ⊢; apply Fx.s_isnotN <;> assumption)
theorem s_isB {a b : Bool} (h : Ψ (.im (.bl (decide (a = b)))) δ) : (dOp isD (.im (.bl a)) (.im (.bl b)) δ).sat Ψ Ξ := by first | (walk_at "ix"; apply Fx.s_isB <;> assumption) | (simp only [dOp_eq, pairsA_eq, aMake_eq] at h; walk_at "ix"; apply Fx.s_isB <;> assumption) | (simp only [dCB1_eq, aJoins_eq, aFstr_eq, aFmt_eq] at h ⊢; apply Fx.s_isB <;> assumption)
theorem s_isnotB {a b : Bool} (h : Ψ (.im (.bl (!decide (a = b)))) δ) : (dOp isnotD (.im (.bl a)) (.im (.bl b)) δ).sat Ψ Ξ := by first | (walk_at "ix"; apply Fx.s_isnotB <;> assumption) | (simp only [dOp_eq, pairsA_eq, aMake_eq] at h; walk_at "ix"; apply Fx.s_isnotB <;> assumption) | (simp only [dCB1_eq, aJoins_eq, aFstr_eq, aFmt_eq] at h ⊢; apply Fx.s_isnotB <;> assumption)
theorem s_absI {i : Int} (h : Ψ (.im (.int (if i < 0 then -i else i))) δ) : (dCB1 absD [.im (.int i)] δ).sat Ψ Ξ := by first | (walk_at "ix"; apply Fx.s_absI <;> assumption) | (simp only [dOp_eq, pairsA_eq, aMake_eq] at h; walk_at "ix"; apply Fx.s_absI <;> assumption) | (simp only [dCB1_eq, aJoins_eq, aFstr_eq, aFmt_eq] at h ⊢; apply Fx.s_absI <;> assumption)
theorem s_intI {i : Int} (h : Ψ (.im (.int i)) δ) : (dCB1 intD [.im (.int i)] δ).sat Ψ Ξ := by first | (walk_at "ix"; apply Fx.s_intI <;> assumption) | (simp only [dOp_eq, pairsA_eq, aMake_eq] at h; walk_at "ix"; apply Fx.s_intI <;> assumption) | (simp only [dCB1_eq, aJoins_eq, aFstr_eq, aFmt_eq] at h ⊢; apply Fx.s_intI <;> assumption)
theorem s_intB {b : Bool} (h : Ψ (.im (.int (if b then 1 else 0))) δ) : (dCB1 intD [.im (.bl b)] δ).sat Ψ Ξ := by first | (walk_at "ix"; apply Fx.s_intB <;> assumption) | (simp only [dOp_eq, pairsA_eq, aMake_eq] at h; walk_at "ix"; apply Fx.s_intB <;> assumption) | (simp only [dCB1_eq, aJoins_eq, aFstr_eq, aFmt_eq] at h ⊢; apply Fx.s_intB <;> assumption)
theorem s_lenL {l : List D} (h : Ψ (.im (.int l.length)) δ) : (dCB1 lenD [.im (.lst l)] δ).sat Ψ Ξ := by first | (walk_at "ix"; apply Fx.s_lenL <;> assumption) | (simp only [dOp_eq, pairsA_eq, aMake_eq] at h; walk_at "ix"; apply Fx.s_lenL <;> assumption) | (simp only [dCB1_eq, aJoins_eq, aFstr_eq, aFmt_eq] at h ⊢; apply Fx.s_lenL <;> assumption)
theorem s_lenT {l : List D} (h : Ψ (.im (.int l.length)) δ) : (dCB1 lenD [.im (.tup l)] δ).sat Ψ Ξ := by first | (walk_at "ix"; apply Fx.s_lenT <;> assumption) | (simp only [dOp_eq, pairsA_eq, aMake_eq] at h; walk_at "ix"; apply Fx.s_lenT <;> assumption) | (simp only [dCB1_eq, aJoins_eq, aFstr_eq, aFmt_eq] at h ⊢; apply Fx.s_lenT <;> assumption)
theorem s_lenR {l : List Int} (h : Ψ (.im (.int l.length)) δ) : (dCB1 lenD [.im (.scr l)] δ).sat Ψ Ξ := by first | (walk_at "ix"; apply Fx.s_lenR <;> assumption) | (simp only [dOp_eq, pairsA_eq, aMake_eq] at h; walk_at "ix"; apply Fx.s_lenR <;> assumption) | (simp only [dCB1_eq, aJoins_eq, aFstr_eq, aFmt_eq] at h ⊢; apply Fx.s_lenR <;> assumption)
theorem s_lenS {z : Str} (hz : z.length ≤ 1000000) (h : Ψ (.im (.int z.length)) δ) : (dCB1 lenD [.im (.str z)] δ).sat Ψ Ξ := by first | (walk_at "ix"; apply Fx.s_lenS <;> assumption) | (simp only [dOp_eq, pairsA_eq, aMake_eq] at h; walk_at "ix"; apply Fx.s_lenS <;> assumption) | (simp only [dCB1_eq, aJoins_eq, aFstr_eq, aFmt_eq] at h ⊢; apply Fx.s_lenS <;> assumption)
theorem s_ixC {tabs : Tabs} {c : Nat} {us : List SV} {i : Int} {d : D} (hc : δ.ce[c]? = some (.lst us)) (hi : atI us i = some (.im d)) (h : Ψ (.im d) δ) : (ixA tabs (.cl c) (.im (.int i)) δ).sat Ψ Ξ := by first | (walk_at "ix"; apply Fx.s_ixC <;> assumption) | (simp only [dOp_eq, pairsA_eq, aMake_eq] at h; walk_at "ix"; apply Fx.s_ixC <;> assumption) | (simp only [dCB1_eq, aJoins_eq, aFstr_eq, aFmt_eq] at h ⊢; apply Fx.s_ixC <;> assumption)
theorem s_ixL {tabs : Tabs} {ds : List D} {i : Int} {d : D} (hi : atI ds i = some d) (h : Ψ (.im d) δ) : (ixA tabs (.im (.lst ds)) (.im (.int i)) δ).sat Ψ Ξ := by first | (walk_at "ix"; apply Fx.s_ixL <;> assumption) | (simp only [dOp_eq, pairsA_eq, aMake_eq] at h; walk_at "ix"; apply Fx.s_ixL <;> assumption) | (simp only [dCB1_eq, aJoins_eq, aFstr_eq, aFmt_eq] at h ⊢; apply Fx.s_ixL <;> assumption)
theorem s_ixT {tabs : Tabs} {ds : List D} {i : Int} {d : D} (hi : atI ds i = some d) (h : Ψ (.im d) δ) : (ixA tabs (.im (.tup ds)) (.im (.int i)) δ).sat Ψ Ξ := by first | (walk_at "ix"; apply Fx.s_ixT <;> assumption) | (simp only [dOp_eq, pairsA_eq, aMake_eq] at h; walk_at "ix"; apply Fx.s_ixT <;> assumption) | (simp only [dCB1_eq, aJoins_eq, aFstr_eq, aFmt_eq] at h ⊢; apply Fx.s_ixT <;> assumption)
theorem s_ixR {tabs : Tabs} {ds : List Int} {i d : Int} (hi : atI ds i = some d) (h : Ψ (.im (.int d)) δ) : (ixA tabs (.im (.scr ds)) (.im (.int i)) δ).sat Ψ Ξ := by first | (walk_at "ix"; apply Fx.s_ixR <;> assumption) | (simp only [dOp_eq, pairsA_eq, aMake_eq] at h; walk_at "ix"; apply Fx.s_ixR <;> assumption) | (simp only [dCB1_eq, aJoins_eq, aFstr_eq, aFmt_eq] at h ⊢; apply Fx.s_ixR <;> assumption)
theorem s_ixS {tabs : Tabs} {z : Str} {i : Int} {c : Nat} (hz : z.length ≤ 1000000) (hi : atI z.cps.toList i = some c) (h : Ψ (.im (.str ⟨#[c]⟩)) δ) : (ixA tabs (.im (.str z)) (.im (.int i)) δ).sat Ψ Ξ := by first | (walk_at "ix"; apply Fx.s_ixS <;> assumption) | (simp only [dOp_eq, pairsA_eq, aMake_eq] at h; walk_at "ix"; apply Fx.s_ixS <;> assumption) | (simp only [dCB1_eq, aJoins_eq, aFstr_eq, aFmt_eq] at h ⊢; apply Fx.s_ixS <;> assumption)
theorem s_ixD {tabs : Tabs} {kvs : List (Key × D)} {y d : D} {k : Key} (hk : keyOf y = some k) (hi : lookD kvs k = some d) (h : Ψ (.im d) δ) : (ixA tabs (.im (.dic kvs)) (.im y) δ).sat Ψ Ξ := by first | (walk_at "ix"; apply Fx.s_ixD <;> assumption) | (simp only [dOp_eq, pairsA_eq, aMake_eq] at h; walk_at "ix"; apply Fx.s_ixD <;> assumption) | (simp only [dCB1_eq, aJoins_eq, aFstr_eq, aFmt_eq] at h ⊢; apply Fx.s_ixD <;> assumption)
theorem s_ixG {tabs : Tabs} {x z : Str} {d : D} (hi : tabAt tabs x z = some d) (h : Ψ (.im d) δ) : (ixA tabs (.im (.glo x)) (.im (.str z)) δ).sat Ψ Ξ := by first | (walk_at "ix"; apply Fx.s_ixG <;> assumption) | (simp only [dOp_eq, pairsA_eq, aMake_eq] at h; walk_at "ix"; apply Fx.s_ixG <;> assumption) | (simp only [dCB1_eq, aJoins_eq, aFstr_eq, aFmt_eq] at h ⊢; apply Fx.s_ixG <;> assumption)
theorem s_asgIx {e : AE} {i : Nat} {k : Int} {Φ : Post} (h : (e δ).sat (fun s δ1 => ∃ c us j, δ1.sl[i]? = some (.cl c) ∧ δ1.ce[c]? = some (.lst us) ∧ ixN us.length k = some j ∧ Φ.nx ⟨δ1.sl, δ1.ce.set c (.lst (us.set j s))⟩) Φ.ex) : (aAsg e (gIx (aVar i) (aC (.int k))) δ).sat Φ := by first | (walk_at "ix"; apply Fx.s_asgIx <;> assumption) | (simp only [dOp_eq, pairsA_eq, aMake_eq] at h; walk_at "ix"; apply Fx.s_asgIx <;> assumption) | (simp only [dCB1_eq, aJoins_eq, aFstr_eq, aFmt_eq] at h ⊢; apply Fx.s_asgIx <;> assumption)
theorem s_intB2 {b : Bool} (h : (b = true → Ψ (.im (.int 1)) δ) ∧ (b = false → Ψ (.im (.int 0)) δ)) : (dCB1 intD [.im (.bl b)] δ).sat Ψ Ξ := by first | (walk_at "ix"; apply Fx.s_intB2 <;> assumption) | (simp only [dOp_eq, pairsA_eq, aMake_eq] at h; walk_at "ix"; apply Fx.s_intB2 <;> assumption) | (simp only [dCB1_eq, aJoins_eq, aFstr_eq, aFmt_eq] at h ⊢; apply Fx.s_intB2 <;> assumption)
theorem s_ixR2 {tabs : Tabs} {ds : List Int} {i : Int} (h0 : 0 ≤ i) (h1 : i < ds.length) (h : ∀ d : Int, Ψ (.im (.int d)) δ) : (ixA tabs (.im (.scr ds)) (.im (.int i)) δ).sat Ψ Ξ := by first | (walk_at "ix"; apply Fx.s_ixR2 <;> assumption) | (simp only [dOp_eq, pairsA_eq, aMake_eq] at h; walk_at "ix"; apply Fx.s_ixR2 <;> assumption) | (simp only [dCB1_eq, aJoins_eq, aFstr_eq, aFmt_eq] at h ⊢; apply Fx.s_ixR2 <;> assumption)
theorem s_ixL2 {tabs : Tabs} {ds : List D} {i : Int} (h0 : 0 ≤ i) (h1 : i < ds.length) (h : ∀ d ∈ ds, Ψ (.im d) δ) : (ixA tabs (.im (.lst ds)) (.im (.int i)) δ).sat Ψ Ξ := by first | (walk_at "ix"; apply Fx.s_ixL2 <;> assumption) | (simp only [dOp_eq, pairsA_eq, aMake_eq] at h; walk_at "ix"; apply Fx.s_ixL2 <;> assumption) | (simp only [dCB1_eq, aJoins_eq, aFstr_eq, aFmt_eq] at h ⊢; apply Fx.s_ixL2 <;> assumption)
theorem s_make2 {x : Str} {n : Nat} {r : AA} {F : Fn} {dds : List D} (h : (r δ).sat (fun ss δ1 => (SV.cl δ1.ce.length :: (ss ++ dds.map SV.im)).length = n ∧ (F (.cl δ1.ce.length :: (ss ++ dds.map SV.im)) (δ1.ce ++ [.ins x []])).sat (fun s ce => s = .im .non ∧ ∃ d ce1 ce2, frz ce δ1.ce.length = some (d, ce1) ∧ cutTo δ1.ce ce1 = some ce2 ∧ Ψ (.im d) ⟨δ1.sl, ce2⟩) fun _ _ => False) Ξ) : (aMake x n F dds r δ).sat Ψ Ξ := by first | (walk_at "ix"; apply Fx.s_make2 <;> assumption) | (simp only [dOp_eq, pairsA_eq, aMake_eq] at h; walk_at "ix"; apply Fx.s_make2 <;> assumption) | (simp only [dCB1_eq, aJoins_eq, aFstr_eq, aFmt_eq] at h ⊢; apply Fx.s_make2 <;> assumption)
theorem s_forU {it : AI} {g : AG} {p : AS} {Φ : Post} (h : (it δ).sat (fun ds δ1 => (forL g p ds δ1).sat Φ) Φ.ex) : (aFor it g p δ).sat Φ := by first | (walk_at "ix"; apply Fx.s_forU <;> assumption) | (simp only [dOp_eq, pairsA_eq, aMake_eq] at h; walk_at "ix"; apply Fx.s_forU <;> assumption) | (simp only [dCB1_eq, aJoins_eq, aFstr_eq, aFmt_eq] at h ⊢; apply Fx.s_forU <;> assumption)
theorem s_items {a : AE} {Ψi : List D → Sta → Prop} (h : (a δ).sat (fun s δ1 => ∃ c kvs kds, s = .cl c ∧ δ1.ce[c]? = some (.dic kvs) ∧ imK δ1.ce kvs = some kds ∧ Ψi (pairsD kds) ⟨δ1.sl, δ1.ce.set c (.fz (.dic kds))⟩) Ξ) : (aItems a δ).sat Ψi Ξ := by first | (walk_at "ix"; apply Fx.s_items <;> assumption) | (simp only [dOp_eq, pairsA_eq, aMake_eq] at h; walk_at "ix"; apply Fx.s_items <;> assumption) | (simp only [dCB1_eq, aJoins_eq, aFstr_eq, aFmt_eq] at h ⊢; apply Fx.s_items <;> assumption)
theorem s_inT {x : D} {xs : List D} (hf : flatD x = true ∧ xs.all flatD = true) (h : Ψ (.im (.bl (inF x xs))) δ) : (dOp inD (.im x) (.im (.tup xs)) δ).sat Ψ Ξ := by first | (walk_at "ix"; apply Fx.s_inT <;> assumption) | (simp only [dOp_eq, pairsA_eq, aMake_eq] at h; walk_at "ix"; apply Fx.s_inT <;> assumption) | (simp only [dCB1_eq, aJoins_eq, aFstr_eq, aFmt_eq] at h ⊢; apply Fx.s_inT <;> assumption)
theorem s_inL {x : D} {xs : List D} (hf : flatD x = true ∧ xs.all flatD = true) (h : Ψ (.im (.bl (inF x xs))) δ) : (dOp inD (.im x) (.im (.lst xs)) δ).sat Ψ Ξ := by first | (walk_at "ix"; apply Fx.s_inL <;> assumption) | (simp only [dOp_eq, pairsA_eq, aMake_eq] at h; walk_at "ix"; apply Fx.s_inL <;> assumption) | (simp only [dCB1_eq, aJoins_eq, aFstr_eq, aFmt_eq] at h ⊢; apply Fx.s_inL <;> assumption)
theorem s_dispS {d : AE} {l : List (AE × AE)} (h : (d ⟨δ.sl, δ.ce ++ [.dic []]⟩).sat (fun s δ1 => ∃ kds, dv δ1.ce s = some (.dic kds) ∧ δ1.ce[δ.ce.length]? = some (.dic []) ∧ (kds.length ≤ 1000 ∧ notCl s δ.ce.length = true) ∧
    (pairsA l ⟨δ1.sl, δ1.ce.set δ.ce.length (.dic (mergeS [] (kds.map fun p => (p.1, .im p.2)))) ++ [.dic []]⟩).sat (fun kvs δ2 => ∃ kvs3, δ2.ce[δ.ce.length]? = some (.dic kvs3) ∧ δ2.ce[δ1.ce.length]? = some (.dic []) ∧ (kvs.length ≤ 15 ∧ kvs3 = mergeS [] (kds.map fun p => (p.1, .im p.2))) ∧ Ψ (.cl δ.ce.length) ⟨δ2.sl, (δ2.ce.set δ1.ce.length (.dic (mergeS [] kvs))).set δ.ce.length (.dic (mergeS kvs3 (mergeS [] kvs)))⟩) Ξ) Ξ) : (aDispS d l δ).sat Ψ Ξ := by first | (walk_at "ix"; apply Fx.s_dispS <;> assumption) | (simp only [dOp_eq, pairsA_eq, aMake_eq] at h; walk_at "ix"; apply Fx.s_dispS <;> assumption) | (simp only [dCB1_eq, aJoins_eq, aFstr_eq, aFmt_eq] at h ⊢; apply Fx.s_dispS <;> assumption)
theorem s_fld2 {ct : CT} {a : AE} {f : Str} (h : (a δ).sat (fun s δ1 => ∃ t, fldS ct f δ1 s = some t ∧ Ψ t δ1) Ξ) : (aFld ct a f δ).sat Ψ Ξ := by first | (walk_at "ix"; apply Fx.s_fld2 <;> assumption) | (simp only [dOp_eq, pairsA_eq, aMake_eq] at h; walk_at "ix"; apply Fx.s_fld2 <;> assumption) | (simp only [dCB1_eq, aJoins_eq, aFstr_eq, aFmt_eq] at h ⊢; apply Fx.s_fld2 <;> assumption)
theorem s_bare {s : Str} {ce : List CO} {Φ : Post} (hl : s.length ≤ 100) (h : Φ.nx ⟨[.im (.str (bare s))], ce⟩) : (aWhile 1000 (aTest (aOp (dOp eqD) (aSl (aVar 0) (aPart (aNeg (aC (.int 1)))) aNoPart) (aC (.str " ")))) (aAsg (aSl (aVar 0) aNoPart (aPart (aNeg (aC (.int 1))))) (gNm 0)) ⟨[.im (.str s)], ce⟩).sat Φ := by first | (walk_at "ix"; apply Fx.s_bare <;> assumption) | (simp only [dOp_eq, pairsA_eq, aMake_eq] at h; walk_at "ix"; apply Fx.s_bare <;> assumption) | (simp only [dCB1_eq, aJoins_eq, aFstr_eq, aFmt_eq] at h ⊢; apply Fx.s_bare <;> assumption)
theorem s_lcM {δ : Sta} {Ψ : SV → Sta → Prop} {Ξ : Xn → Sta → Prop} {e : AE} {it : AI} {g : AG} {vs : List Nat} (f : D → D) (h : (it δ).sat (fun ds δ1 => ds.length ≤ 100000 ∧ (∀ d ∈ ds, ∃ δ2, g (.im d) ⟨wipeS δ1.sl vs, δ1.ce⟩ = some δ2 ∧ (e δ2).sat (fun s δ3 => s = .im (f d) ∧ δ3.ce = δ1.ce) fun _ _ => False) ∧ Ψ (.im (.lst (ds.map f))) δ1) Ξ) : (aLc it g aYes e vs δ).sat Ψ Ξ := by first | (walk_at "ix"; apply Fx.s_lcM <;> assumption) | (simp only [dOp_eq, pairsA_eq, aMake_eq] at h; walk_at "ix"; apply Fx.s_lcM <;> assumption) | (simp only [dCB1_eq, aJoins_eq, aFstr_eq, aFmt_eq] at h ⊢; apply Fx.s_lcM <;> assumption)
theorem s_methKW {tab : MTab} {m : Str} {ks : List Str} (h : (a δ).sat (fun s δ1 => ∃ C F, clsS δ1 m s = some C ∧ tab.lookup C = some (2, F) ∧ (r δ1).sat (fun ss δ2 => ss.length = ks.length ∧
    (F [s, .cl δ2.ce.length] (δ2.ce ++ [.dic (mergeS [] (inrs (ks.zip ss)))])).sat (fun s2 ce => ∃ d ce2, s2 = .im d ∧ cutTo δ2.ce ce = some ce2 ∧ Ψ (.im d) ⟨δ2.sl, ce2⟩) (fun x ce => Ξ x ⟨δ2.sl, ce⟩)) Ξ) Ξ) : (aMethKW tab m ks a r δ).sat Ψ Ξ := by first | (walk_at "ix"; apply Fx.s_methKW <;> assumption) | (simp only [dOp_eq, pairsA_eq, aMake_eq] at h; walk_at "ix"; apply Fx.s_methKW <;> assumption) | (simp only [dCB1_eq, aJoins_eq, aFstr_eq, aFmt_eq] at h ⊢; apply Fx.s_methKW <;> assumption)
theorem s_makeKW {x : Str} {n : Nat} {F : Fn} {ks : List Str} (h : (e ⟨δ.sl, δ.ce ++ [.dic []]⟩).sat (fun s δ1 => ∃ kds, dv δ1.ce s = some (.dic kds) ∧ δ1.ce[δ.ce.length]? = some (.dic []) ∧ (kds.length ≤ 1000 ∧ notCl s δ.ce.length = true ∧ kds.map (·.1) = ks.map .inr ∧ kds.length + 1 = n) ∧
    (F (.cl δ1.ce.length :: (kds.map (·.2)).map SV.im) (δ1.ce.set δ.ce.length (.dic (kds.map fun p => (p.1, .im p.2))) ++ [.ins x []])).sat (fun s2 ce => s2 = .im .non ∧ ∃ d ce2, frz ce δ1.ce.length = some (d, ce2) ∧ Ψ (.im d) ⟨δ1.sl, ce2⟩) (fun y ce => Ξ y ⟨δ1.sl, ce⟩)) Ξ) : (aMakeKW x n F ks e δ).sat Ψ Ξ := by first | (walk_at "ix"; apply Fx.s_makeKW <;> assumption) | (simp only [dOp_eq, pairsA_eq, aMake_eq] at h; walk_at "ix"; apply Fx.s_makeKW <;> assumption) | (simp only [dCB1_eq, aJoins_eq, aFstr_eq, aFmt_eq] at h ⊢; apply Fx.s_makeKW <;> assumption)
theorem s_bmd {f : ABM} (h : (a δ).sat (fun s δ1 => tyC δ1 s = true ∧ (r δ1).sat (fun ss δ2 => (f s ss δ2).sat Ψ Ξ) Ξ) Ξ) : (aBMd f a r δ).sat Ψ Ξ := by first | (walk_at "ix"; apply Fx.s_bmd <;> assumption) | (simp only [dOp_eq, pairsA_eq, aMake_eq] at h; walk_at "ix"; apply Fx.s_bmd <;> assumption) | (simp only [dCB1_eq, aJoins_eq, aFstr_eq, aFmt_eq] at h ⊢; apply Fx.s_bmd <;> assumption)
theorem s_update {c : Nat} {t : SV} {kvs : List (Key × SV)} {kds : List (Key × D)} (h1 : δ.ce[c]? = some (.dic kvs)) (h2 : dv δ.ce t = some (.dic kds)) (h3 : kvs.length + kds.length ≤ 1000 ∧ notCl t c = true)
    (h : Ψ (.im .non) ⟨δ.sl, δ.ce.set c (.dic (mergeS kvs (kds.map fun p => (p.1, .im p.2))))⟩) : (updateA (.cl c) [t] δ).sat Ψ Ξ := by first | (walk_at "ix"; apply Fx.s_update <;> assumption) | (simp only [dOp_eq, pairsA_eq, aMake_eq] at h; walk_at "ix"; apply Fx.s_update <;> assumption) | (simp only [dCB1_eq, aJoins_eq, aFstr_eq, aFmt_eq] at h ⊢; apply Fx.s_update <;> assumption)
theorem s_zip {Ψi : List D → Sta → Prop} (h : (r δ).sat (fun ss δ1 => ∃ s t ds ce1 es ce2, ss = [s, t] ∧ toIm δ1.ce s = some (.lst ds, ce1) ∧ toIm ce1 t = some (.lst es, ce2) ∧ Ψi (zipD ds es) ⟨δ1.sl, ce2⟩) Ξ) : (aZip r δ).sat Ψi Ξ := by first | (walk_at "ix"; apply Fx.s_zip <;> assumption) | (simp only [dOp_eq, pairsA_eq, aMake_eq] at h; walk_at "ix"; apply Fx.s_zip <;> assumption) | (simp only [dCB1_eq, aJoins_eq, aFstr_eq, aFmt_eq] at h ⊢; apply Fx.s_zip <;> assumption)
theorem s_raise {x fld : Str} (h : (e δ).sat (fun s δ1 => Φ.ex ⟨.own x, [(fld, s)]⟩ δ1) Φ.ex) : (aRaise x fld e δ).sat Φ := by first | (walk_at "ix"; apply Fx.s_raise <;> assumption) | (simp only [dOp_eq, pairsA_eq, aMake_eq] at h; walk_at "ix"; apply Fx.s_raise <;> assumption) | (simp only [dCB1_eq, aJoins_eq, aFstr_eq, aFmt_eq] at h ⊢; apply Fx.s_raise <;> assumption)
theorem s_try {tab : List (XC × Bool)} {i : Nat} (h : (p δ).sat { Φ with ex := fun x δ1 => (tryX tab i q x δ1).sat Φ }) : (aTry tab i p q δ).sat Φ := by first | (walk_at "ix"; apply Fx.s_try <;> assumption) | (simp only [dOp_eq, pairsA_eq, aMake_eq] at h; walk_at "ix"; apply Fx.s_try <;> assumption) | (simp only [dCB1_eq, aJoins_eq, aFstr_eq, aFmt_eq] at h ⊢; apply Fx.s_try <;> assumption)
theorem s_xf {x fld : Str} (h : (a δ).sat (fun s δ1 => ∃ c t, s = .cl c ∧ δ1.ce[c]? = some (.exc (.own x) [(fld, t)]) ∧ Ψ t δ1) Ξ) : (aXF x fld a δ).sat Ψ Ξ := by first | (walk_at "ix"; apply Fx.s_xf <;> assumption) | (simp only [dOp_eq, pairsA_eq, aMake_eq] at h; walk_at "ix"; apply Fx.s_xf <;> assumption) | (simp only [dCB1_eq, aJoins_eq, aFstr_eq, aFmt_eq] at h ⊢; apply Fx.s_xf <;> assumption)
theorem s_isx {tab : Isi} {c : Nat} {t : SV} {k cc : XC} {p : Str × SV} {fs : List (Str × SV)} {d : D} {b : Bool} (h1 : δ.ce[c]? = some (.exc k (p :: fs))) (h2 : dv δ.ce t = some d) (h3 : clsD d = some cc) (h4 : tab.lookup (k, cc) = some b) (h : Ψ (.im (.bl b)) δ) : (isxA tab [.cl c, t] δ).sat Ψ Ξ := by first | (walk_at "ix"; apply Fx.s_isx <;> assumption) | (simp only [dOp_eq, pairsA_eq, aMake_eq] at h; walk_at "ix"; apply Fx.s_isx <;> assumption) | (simp only [dCB1_eq, aJoins_eq, aFstr_eq, aFmt_eq] at h ⊢; apply Fx.s_isx <;> assumption)
theorem s_lcC {it : AI} {g : AG} {vs : List Nat} (J : List D → List CO → Prop) (h : (it δ).sat (fun ds δ1 => ds.length ≤ 100000 ∧ J [] δ1.ce ∧ (∀ d ∈ ds, ∀ acc ce, J acc ce → ∃ δ2, g (.im d) ⟨wipeS δ1.sl vs, ce⟩ = some δ2 ∧ (t δ2).sat (fun b δ2 => (b = true → (e δ2).sat (fun s δ3 => ∃ y ce3, toIm δ3.ce s = some (y, ce3) ∧ J (acc ++ [y]) (cutOr ce ce3)) fun _ _ => False) ∧ (b = false → J acc (cutOr ce δ2.ce))) fun _ _ => False) ∧ ∀ acc ce, J acc ce → acc.length ≤ ds.length → Ψ (.cl ce.length) ⟨δ1.sl, ce ++ [.lst (acc.map SV.im)]⟩) Ξ) : (aLcC it g t e vs δ).sat Ψ Ξ := by first | (walk_at "ix"; apply Fx.s_lcC <;> assumption) | (simp only [dOp_eq, pairsA_eq, aMake_eq] at h; walk_at "ix"; apply Fx.s_lcC <;> assumption) | (simp only [dCB1_eq, aJoins_eq, aFstr_eq, aFmt_eq] at h ⊢; apply Fx.s_lcC <;> assumption)
theorem s_asgIxG (h : (e δ).sat (fun s δ1 => (a δ1).sat (fun z δ2 => (b δ2).sat (fun t δ3 => ∃ c us k j, z = .cl c ∧ δ3.ce[c]? = some (.lst us) ∧ dv δ3.ce t = some (.int k) ∧ ixN us.length k = some j ∧ Φ.nx ⟨δ3.sl, δ3.ce.set c (.lst (us.set j s))⟩) fun _ _ => False) fun _ _ => False) Φ.ex) : (aAsg e (gIx a b) δ).sat Φ := by first | (walk_at "ix"; apply Fx.s_asgIxG <;> assumption) | (simp only [dOp_eq, pairsA_eq, aMake_eq] at h; walk_at "ix"; apply Fx.s_asgIxG <;> assumption) | (simp only [dCB1_eq, aJoins_eq, aFstr_eq, aFmt_eq] at h ⊢; apply Fx.s_asgIxG <;> assumption)
theorem s_makeX {x : Str} {F : Fn} {dds : List D} (h : (r δ).sat (fun ss δ1 => (SV.cl δ1.ce.length :: (ss ++ dds.map SV.im)).length = n ∧ (F (.cl δ1.ce.length :: (ss ++ dds.map SV.im)) (δ1.ce ++ [.ins x []])).sat (fun s ce => s = .im .non ∧ ∃ d ce1 ce2, frz ce δ1.ce.length = some (d, ce1) ∧ cutTo δ1.ce ce1 = some ce2 ∧ Ψ (.im d) ⟨δ1.sl, ce2⟩) fun y ce => ∃ ce2, cutTo δ1.ce ce = some ce2 ∧ (y.fs.all fun p => p.2.bnd ce2.length) = true ∧ Ξ y ⟨δ1.sl, ce2⟩) Ξ) : (aMake x n F dds r δ).sat Ψ Ξ := by first | (walk_at "ix"; apply Fx.s_makeX <;> assumption) | (simp only [dOp_eq, pairsA_eq, aMake_eq] at h; walk_at "ix"; apply Fx.s_makeX <;> assumption) | (simp only [dCB1_eq, aJoins_eq, aFstr_eq, aFmt_eq] at h ⊢; apply Fx.s_makeX <;> assumption)
theorem s_ixK {tabs : Tabs} {c : Nat} {z : Str} {kvs : List (Key × SV)} {d : D} (hc : δ.ce[c]? = some (.dic kvs)) (hi : lookC kvs (.inr z) = some (.im d)) (h : Ψ (.im d) δ) : (ixA tabs (.cl c) (.im (.str z)) δ).sat Ψ Ξ := by first | (walk_at "ix"; apply Fx.s_ixK <;> assumption) | (simp only [dOp_eq, pairsA_eq, aMake_eq] at h; walk_at "ix"; apply Fx.s_ixK <;> assumption) | (simp only [dCB1_eq, aJoins_eq, aFstr_eq, aFmt_eq] at h ⊢; apply Fx.s_ixK <;> assumption)
theorem s_lcF {it : AI} {g : AG} {t : AT} {vs : List Nat} (p : D → Bool) (f : D → D) (h : (it δ).sat (fun ds δ1 => ds.length ≤ 100000 ∧ (∀ d ∈ ds, ∃ δ2, g (.im d) ⟨wipeS δ1.sl vs, δ1.ce⟩ = some δ2 ∧ (t δ2).sat (fun b δ3 => b = p d ∧ δ3.ce = δ1.ce ∧ (b = true → (e δ3).sat (fun s δ4 => s = .im (f d) ∧ δ4.ce = δ1.ce) fun _ _ => False)) fun _ _ => False) ∧ Ψ (.im (.lst ((ds.filter p).map f))) δ1) Ξ) : (aLc it g t e vs δ).sat Ψ Ξ := by first | (walk_at "ix"; apply Fx.s_lcF <;> assumption) | (simp only [dOp_eq, pairsA_eq, aMake_eq] at h; walk_at "ix"; apply Fx.s_lcF <;> assumption) | (simp only [dCB1_eq, aJoins_eq, aFstr_eq, aFmt_eq] at h ⊢; apply Fx.s_lcF <;> assumption)
theorem s_lcCM {it : AI} {g : AG} {vs : List Nat} (f : D → D) (h : (it δ).sat (fun ds δ1 => ds.length ≤ 100000 ∧ (∀ d ∈ ds, ∃ δ2, g (.im d) ⟨wipeS δ1.sl vs, δ1.ce⟩ = some δ2 ∧ (e δ2).sat (fun s δ3 => s = .im (f d) ∧ δ3.ce = δ1.ce) fun _ _ => False) ∧ Ψ (.cl δ1.ce.length) ⟨δ1.sl, δ1.ce ++ [.lst ((ds.map f).map SV.im)]⟩) Ξ) : (aLcC it g aYes e vs δ).sat Ψ Ξ := by first | (walk_at "ix"; apply Fx.s_lcCM <;> assumption) | (simp only [dOp_eq, pairsA_eq, aMake_eq] at h; walk_at "ix"; apply Fx.s_lcCM <;> assumption) | (simp only [dCB1_eq, aJoins_eq, aFstr_eq, aFmt_eq] at h ⊢; apply Fx.s_lcCM <;> assumption)
theorem s_call0 {F : Fn} {dds : List D} (h : (r δ).sat (fun ss δ1 => (ss ++ dds.map SV.im).length = n ∧ (F (ss ++ dds.map SV.im) δ1.ce).sat (fun s ce => Ψ s ⟨δ1.sl, ce⟩) (fun _ _ => False)) Ξ) : (aCall0 n F dds r δ).sat Ψ Ξ := by first | (walk_at "ix"; apply Fx.s_call0 <;> assumption) | (simp only [dOp_eq, pairsA_eq, aMake_eq] at h; walk_at "ix"; apply Fx.s_call0 <;> assumption) | (simp only [dCB1_eq, aJoins_eq, aFstr_eq, aFmt_eq] at h ⊢; apply Fx.s_call0 <;> assumption)
theorem s_meth0 {tab : MTab} {m : Str} (h : (a δ).sat (fun s δ1 => ∃ C n F, clsS δ1 m s = some C ∧ tab.lookup C = some (n, F) ∧ (r δ1).sat (fun ss δ2 => (s :: ss).length = n ∧ (F (s :: ss) δ2.ce).sat (fun s ce => Ψ s ⟨δ2.sl, ce⟩) (fun _ _ => False)) Ξ) Ξ) : (aMeth0 tab m a r δ).sat Ψ Ξ := by first | (walk_at "ix"; apply Fx.s_meth0 <;> assumption) | (simp only [dOp_eq, pairsA_eq, aMake_eq] at h; walk_at "ix"; apply Fx.s_meth0 <;> assumption) | (simp only [dCB1_eq, aJoins_eq, aFstr_eq, aFmt_eq] at h ⊢; apply Fx.s_meth0 <;> assumption)
theorem s_cm {C : Str} {F : Fn} (h : (r δ).sat (fun ss δ1 => (SV.im (.glo C) :: ss).length = n ∧ (F (.im (.glo C) :: ss) δ1.ce).sat (fun s ce => Ψ s ⟨δ1.sl, ce⟩) (fun x ce => Ξ x ⟨δ1.sl, ce⟩)) Ξ) : (aCM C n F r δ).sat Ψ Ξ := by first | (walk_at "ix"; apply Fx.s_cm <;> assumption) | (simp only [dOp_eq, pairsA_eq, aMake_eq] at h; walk_at "ix"; apply Fx.s_cm <;> assumption) | (simp only [dCB1_eq, aJoins_eq, aFstr_eq, aFmt_eq] at h ⊢; apply Fx.s_cm <;> assumption)
theorem s_makeL {i : Nat} {x : Str} {F : Fn} {dds : List D} (hi : δ.sl[i]? = some (.im (.glo x))) (h : (aMake x n F dds r δ).sat Ψ Ξ) : (aMakeL i x n F dds r δ).sat Ψ Ξ := by first | (walk_at "ix"; apply Fx.s_makeL <;> assumption) | (simp only [dOp_eq, pairsA_eq, aMake_eq] at h; walk_at "ix"; apply Fx.s_makeL <;> assumption) | (simp only [dCB1_eq, aJoins_eq, aFstr_eq, aFmt_eq] at h ⊢; apply Fx.s_makeL <;> assumption)
theorem s_tryF {tab : List (XC × Bool)} {Y fld : Str} {dc : D} (h : (p δ).sat { Φ with ex := fun x δ1 => (tab.lookup x.cls = some true ∧ Φ.ex ⟨.own Y, [(fld, .im dc)]⟩ δ1) ∨ (tab.lookup x.cls = some false ∧ Φ.ex x δ1) }) : (aTryF tab Y fld dc p δ).sat Φ := by first | (walk_at "ix"; apply Fx.s_tryF <;> assumption) | (simp only [dOp_eq, pairsA_eq, aMake_eq] at h; walk_at "ix"; apply Fx.s_tryF <;> assumption) | (simp only [dCB1_eq, aJoins_eq, aFstr_eq, aFmt_eq] at h ⊢; apply Fx.s_tryF <;> assumption)
theorem s_eqXo {tab : MTab} {isi : Isi} {nf : List XC} {neg : Bool} {f : D → D → Option D} {s t : SV} {C : Str} {F : Fn} {k : XC} (h1 : clsS δ "__eq__" s = some C) (h2 : tab.lookup C = some (2, F)) (h3 : kindS δ t = some k) (h4 : nf.contains k = true) (h5 : (isi.lookup (k, .blt "int")).isSome = true)
    (h : (F [s, t] δ.ce).sat (fun z ce => ∃ c, z = .im (.bl c) ∧ Ψ (.im (.bl (c != neg))) ⟨δ.sl, ce⟩) fun _ _ => False) : (eqX tab isi nf neg f s t δ).sat Ψ Ξ := by first | (walk_at "ix"; apply Fx.s_eqXo <;> assumption) | (simp only [dOp_eq, pairsA_eq, aMake_eq] at h; walk_at "ix"; apply Fx.s_eqXo <;> assumption) | (simp only [dCB1_eq, aJoins_eq, aFstr_eq, aFmt_eq] at h ⊢; apply Fx.s_eqXo <;> assumption)
theorem s_eqXd {tab : MTab} {isi : Isi} {nf : List XC} {neg : Bool} {f : D → D → Option D} {s t : SV} (h1 : clsS δ "__eq__" s = none) (h : (dOp f s t δ).sat Ψ Ξ) : (eqX tab isi nf neg f s t δ).sat Ψ Ξ := by first | (walk_at "ix"; apply Fx.s_eqXd <;> assumption) | (simp only [dOp_eq, pairsA_eq, aMake_eq] at h; walk_at "ix"; apply Fx.s_eqXd <;> assumption) | (simp only [dCB1_eq, aJoins_eq, aFstr_eq, aFmt_eq] at h ⊢; apply Fx.s_eqXd <;> assumption)
theorem s_strXo {tab : MTab} {s : SV} {C : Str} {F : Fn} (h1 : clsS δ "__str__" s = some C) (h2 : tab.lookup C = some (1, F)) (h : (F [s] δ.ce).sat (fun z ce => ∃ c, z = .im (.str c) ∧ Ψ (.im (.str c)) ⟨δ.sl, ce⟩) fun _ _ => False) : (strX tab [s] δ).sat Ψ Ξ := by first | (walk_at "ix"; apply Fx.s_strXo <;> assumption) | (simp only [dOp_eq, pairsA_eq, aMake_eq] at h; walk_at "ix"; apply Fx.s_strXo <;> assumption) | (simp only [dCB1_eq, aJoins_eq, aFstr_eq, aFmt_eq] at h ⊢; apply Fx.s_strXo <;> assumption)
theorem s_star (h : (a δ).sat (fun s δ1 => ∃ ds, (s = .im (.lst ds) ∨ s = .im (.tup ds)) ∧ (r δ1).sat (fun ss δ2 => Ψl (ds.map SV.im ++ ss) δ2) Ξ) Ξ) : (aStar a r δ).sat Ψl Ξ := by first | (walk_at "ix"; apply Fx.s_star <;> assumption) | (simp only [dOp_eq, pairsA_eq, aMake_eq] at h; walk_at "ix"; apply Fx.s_star <;> assumption) | (simp only [dCB1_eq, aJoins_eq, aFstr_eq, aFmt_eq] at h ⊢; apply Fx.s_star <;> assumption)
theorem s_inG {tabs : Tabs} {neg : Bool} {f : D → D → Option D} {x z : Str} {kvs : List (Str × D)} (h1 : tabs.lookup x = some kvs) (h : Ψ (.im (.bl ((kvs.lookup z).isSome != neg))) δ) : (inG tabs neg f (.im (.str z)) (.im (.glo x)) δ).sat Ψ Ξ := by first | (walk_at "ix"; apply Fx.s_inG <;> assumption) | (simp only [dOp_eq, pairsA_eq, aMake_eq] at h; walk_at "ix"; apply Fx.s_inG <;> assumption) | (simp only [dCB1_eq, aJoins_eq, aFstr_eq, aFmt_eq] at h ⊢; apply Fx.s_inG <;> assumption)
theorem s_pop {c : Nat} {us : List SV} {i : Int} {u : SV} (hc : δ.ce[c]? = some (.lst us)) (hi : 0 ≤ i ∧ i < us.length ∧ us.length < 1000000) (hu : us[i.toNat]? = some u) (h : Ψ (nrm δ.ce u) ⟨δ.sl, δ.ce.set c (.lst (us.eraseIdx i.toNat))⟩) : (popA (.cl c) [.im (.int i)] δ).sat Ψ Ξ := by first | (walk_at "ix"; apply Fx.s_pop <;> assumption) | (simp only [dOp_eq, pairsA_eq, aMake_eq] at h; walk_at "ix"; apply Fx.s_pop <;> assumption) | (simp only [dCB1_eq, aJoins_eq, aFstr_eq, aFmt_eq] at h ⊢; apply Fx.s_pop <;> assumption)
theorem s_insert {c : Nat} {us : List SV} {i : Int} {u : SV} (hc : δ.ce[c]? = some (.lst us)) (hi : 0 ≤ i ∧ i < 1000000 ∧ us.length < 100000) (h : Ψ (.im .non) ⟨δ.sl, δ.ce.set c (.lst (us.take i.toNat ++ [u] ++ us.drop i.toNat))⟩) : (insertA (.cl c) [.im (.int i), u] δ).sat Ψ Ξ := by first | (walk_at "ix"; apply Fx.s_insert <;> assumption) | (simp only [dOp_eq, pairsA_eq, aMake_eq] at h; walk_at "ix"; apply Fx.s_insert <;> assumption) | (simp only [dCB1_eq, aJoins_eq, aFstr_eq, aFmt_eq] at h ⊢; apply Fx.s_insert <;> assumption)
theorem s_splitC {x y : Str} (hx : x.length ≤ 1000000) (hy : (y.length == 0) = false) (h : Ψ (.cl δ.ce.length) ⟨δ.sl, δ.ce ++ [.lst ((Txt.split x y).map fun z => .im (.str z))]⟩) : (splitC (.im (.str x)) [.im (.str y)] δ).sat Ψ Ξ := by first | (walk_at "ix"; apply Fx.s_splitC <;> assumption) | (simp only [dOp_eq, pairsA_eq, aMake_eq] at h; walk_at "ix"; apply Fx.s_splitC <;> assumption) | (simp only [dCB1_eq, aJoins_eq, aFstr_eq, aFmt_eq] at h ⊢; apply Fx.s_splitC <;> assumption)
theorem s_eqK {neg : Bool} {f : D → D → Option D} {s t : SV} {ks ls : List (Key × D)} (h1 : dv δ.ce s = some (.dic ks)) (h2 : dv δ.ce t = some (.dic ls)) (h3 : ks.length = ls.length ∧ flatK ls ks = true) (h : Ψ (.im (.bl (allD' ls ks != neg))) δ) : (eqK neg f s t δ).sat Ψ Ξ := by first | (walk_at "ix"; apply Fx.s_eqK <;> assumption) | (simp only [dOp_eq, pairsA_eq, aMake_eq] at h; walk_at "ix"; apply Fx.s_eqK <;> assumption) | (simp only [dCB1_eq, aJoins_eq, aFstr_eq, aFmt_eq] at h ⊢; apply Fx.s_eqK <;> assumption)
theorem s_isiT {isi : Isi} {s : SV} {k : XC} {d : D} {ds : List D} {c : Bool} (h1 : kindS δ s = some k) (h2 : isiL isi k (d :: ds) = some c) (h : Ψ (.im (.bl c)) δ) : (isiT isi [s, .im (.tup (d :: ds))] δ).sat Ψ Ξ := by first | (walk_at "ix"; apply Fx.s_isiT <;> assumption) | (simp only [dOp_eq, pairsA_eq, aMake_eq] at h; walk_at "ix"; apply Fx.s_isiT <;> assumption) | (simp only [dCB1_eq, aJoins_eq, aFstr_eq, aFmt_eq] at h ⊢; apply Fx.s_isiT <;> assumption)
theorem s_own {isi : Isi} {tab : MTab} {m : Str} {f : AOp} (h : (a δ).sat (fun s δ1 => (b δ1).sat (fun t δ2 => (∃ C F, clsS δ2 m s = some C ∧ tab.lookup C = some (2, F) ∧ kindS δ2 t = some (.own C) ∧ (isi.lookup (.own C, .blt "int")).isSome = true ∧ (F [s, t] δ2.ce).sat (fun z ce => Ψ z ⟨δ2.sl, ce⟩) fun x ce => Ξ x ⟨δ2.sl, ce⟩) ∨ (clsS δ2 m s = none ∧ (f s t δ2).sat Ψ Ξ)) Ξ) Ξ) : (aOwn isi tab m f a b δ).sat Ψ Ξ := by first | (walk_at "ix"; apply Fx.s_own <;> assumption) | (simp only [dOp_eq, pairsA_eq, aMake_eq] at h; walk_at "ix"; apply Fx.s_own <;> assumption) | (simp only [dCB1_eq, aJoins_eq, aFstr_eq, aFmt_eq] at h ⊢; apply Fx.s_own <;> assumption)
theorem s_augO {isi : Isi} {tab : MTab} {m : Str} {i : Nat} {s : SV} (hs : δ.sl[i]? = some s) (hn : s ≠ .no) (h : (e δ).sat (fun t δ1 => ∃ C F, clsS δ1 m s = some C ∧ tab.lookup C = some (2, F) ∧ kindS δ1 t = some (.own C) ∧ (isi.lookup (.own C, .blt "int")).isSome = true ∧ (F [s, t] δ1.ce).sat (fun z ce => Φ.nx ⟨δ1.sl.set i z, ce⟩) fun _ _ => False) fun _ _ => False) : (aAugO isi tab m i e δ).sat Φ := by first | (walk_at "ix"; apply Fx.s_augO <;> assumption) | (simp only [dOp_eq, pairsA_eq, aMake_eq] at h; walk_at "ix"; apply Fx.s_augO <;> assumption) | (simp only [dCB1_eq, aJoins_eq, aFstr_eq, aFmt_eq] at h ⊢; apply Fx.s_augO <;> assumption)
theorem s_raise0 {x : Str} (h : Φ.ex ⟨.own x, []⟩ δ) : (aRaise0 x δ).sat Φ := by first | (walk_at "ix"; apply Fx.s_raise0 <;> assumption) | (simp only [dOp_eq, pairsA_eq, aMake_eq] at h; walk_at "ix"; apply Fx.s_raise0 <;> assumption) | (simp only [dCB1_eq, aJoins_eq, aFstr_eq, aFmt_eq] at h ⊢; apply Fx.s_raise0 <;> assumption)
theorem s_isz {tab : Isi} {c : Nat} {t : SV} {k cc : XC} {fs : List (Str × SV)} {d : D} {z : Bool} (h1 : δ.ce[c]? = some (.exc k fs)) (h2 : dv δ.ce t = some d) (h3 : clsD d = some cc) (h4 : tab.lookup (k, cc) = some z) (h : Ψ (.im (.bl z)) δ) : (isxZ tab [.cl c, t] δ).sat Ψ Ξ := by first | (walk_at "ix"; apply Fx.s_isz <;> assumption) | (simp only [dOp_eq, pairsA_eq, aMake_eq] at h; walk_at "ix"; apply Fx.s_isz <;> assumption) | (simp only [dCB1_eq, aJoins_eq, aFstr_eq, aFmt_eq] at h ⊢; apply Fx.s_isz <;> assumption)
theorem s_rev (h : (a δ).sat (fun s δ1 => ∃ ds, dv δ1.ce s = some (.lst ds) ∧ Ψ (.im (.lst ds.reverse)) δ1) Ξ) : (aRev a δ).sat Ψ Ξ := by first | (walk_at "ix"; apply Fx.s_rev <;> assumption) | (simp only [dOp_eq, pairsA_eq, aMake_eq] at h; walk_at "ix"; apply Fx.s_rev <;> assumption) | (simp only [dCB1_eq, aJoins_eq, aFstr_eq, aFmt_eq] at h ⊢; apply Fx.s_rev <;> assumption)
theorem s_append {c : Nat} {us : List SV} {t : SV} (hc : δ.ce[c]? = some (.lst us)) (hl : us.length < 100000) (h : Ψ (.im .non) ⟨δ.sl, δ.ce.set c (.lst (us ++ [t]))⟩) : (appendA (.cl c) [t] δ).sat Ψ Ξ := by first | (walk_at "ix"; apply Fx.s_append <;> assumption) | (simp only [dOp_eq, pairsA_eq, aMake_eq] at h; walk_at "ix"; apply Fx.s_append <;> assumption) | (simp only [dCB1_eq, aJoins_eq, aFstr_eq, aFmt_eq] at h ⊢; apply Fx.s_append <;> assumption)
theorem s_zipM {Ψi : List D → Sta → Prop} (h : (r δ).sat (fun ss δ1 => ∃ s t x ce1 y ce2 k ds j es, ss = [s, t] ∧ toIm δ1.ce s = some (x, ce1) ∧ toIm ce1 t = some (y, ce2) ∧ seqD x = some (k, ds) ∧ seqD y = some (j, es) ∧ Ψi (zipD ds es) ⟨δ1.sl, ce2⟩) Ξ) : (aZipM r δ).sat Ψi Ξ := by first | (walk_at "ix"; apply Fx.s_zipM <;> assumption) | (simp only [dOp_eq, pairsA_eq, aMake_eq] at h; walk_at "ix"; apply Fx.s_zipM <;> assumption) | (simp only [dCB1_eq, aJoins_eq, aFstr_eq, aFmt_eq] at h ⊢; apply Fx.s_zipM <;> assumption)
theorem s_chain {o o' : AOp} (h : (a δ).sat (fun s δ1 => (b δ1).sat (fun t δ2 => (o s t δ2).sat (fun z δ3 => ∃ k, dv δ3.ce z = some (.bl k) ∧ (k = true → (c δ3).sat (fun u δ4 => (o' t u δ4).sat Ψ Ξ) Ξ) ∧ (k = false → Ψ (.im (.bl false)) δ3)) Ξ) Ξ) Ξ) : (aChain o o' a b c δ).sat Ψ Ξ := by first | (walk_at "ix"; apply Fx.s_chain <;> assumption) | (simp only [dOp_eq, pairsA_eq, aMake_eq] at h; walk_at "ix"; apply Fx.s_chain <;> assumption) | (simp only [dCB1_eq, aJoins_eq, aFstr_eq, aFmt_eq] at h ⊢; apply Fx.s_chain <;> assumption)
theorem s_lcP {it : AI} {g : AG} {vs : List Nat} (f : D → D) (h : (it δ).sat (fun ds δ1 => ds.length ≤ 100000 ∧ (∀ d ∈ ds, ∃ δ2, g (.im d) ⟨wipeS δ1.sl vs, δ1.ce⟩ = some δ2 ∧ (e δ2).sat (fun s δ4 => s = .im (f d) ∧ δ4.ce = δ2.ce) (fun _ _ => False) ∧ δ2.ce = δ1.ce) ∧ Ψ (.im (.lst (ds.map f))) δ1) Ξ) : (aLc it g aYes e vs δ).sat Ψ Ξ := by first | (walk_at "ix"; apply Fx.s_lcP <;> assumption) | (simp only [dOp_eq, pairsA_eq, aMake_eq] at h; walk_at "ix"; apply Fx.s_lcP <;> assumption) | (simp only [dCB1_eq, aJoins_eq, aFstr_eq, aFmt_eq] at h ⊢; apply Fx.s_lcP <;> assumption)
theorem s_tupI {d : D} {k : Bool} {ds : List D} (e : seqD d = some (k, ds)) (h : Ψ (.im (.tup ds)) δ) : (tupleA [.im d] δ).sat Ψ Ξ := by first | (walk_at "ix"; apply Fx.s_tupI <;> assumption) | (simp only [dOp_eq, pairsA_eq, aMake_eq] at h; walk_at "ix"; apply Fx.s_tupI <;> assumption) | (simp only [dCB1_eq, aJoins_eq, aFstr_eq, aFmt_eq] at h ⊢; apply Fx.s_tupI <;> assumption)
theorem s_lcR {it : AI} {g : AG} {vs : List Nat} (J : List D → List D → List CO → Prop) (h : (it δ).sat (fun ds δ1 => ds.length ≤ 100000 ∧ J ds [] δ1.ce ∧ (∀ d ds acc ce, J (d :: ds) acc ce → ∃ δ2, g (.im d) ⟨wipeS δ1.sl vs, ce⟩ = some δ2 ∧ (t δ2).sat (fun b δ2 => (b = true → (e δ2).sat (fun s δ3 => ∃ y ce3, toIm δ3.ce s = some (y, ce3) ∧ J ds (acc ++ [y]) (cutOr ce ce3)) fun _ _ => False) ∧ (b = false → J ds acc (cutOr ce δ2.ce))) fun _ _ => False) ∧ ∀ acc ce, J [] acc ce → Ψ (.im (.lst acc)) ⟨δ1.sl, ce⟩) Ξ) : (aLc it g t e vs δ).sat Ψ Ξ := by first | (walk_at "ix"; apply Fx.s_lcR <;> assumption) | (simp only [dOp_eq, pairsA_eq, aMake_eq] at h; walk_at "ix"; apply Fx.s_lcR <;> assumption) | (simp only [dCB1_eq, aJoins_eq, aFstr_eq, aFmt_eq] at h ⊢; apply Fx.s_lcR <;> assumption)
theorem s_enum {Ψi : List D → Sta → Prop} (h : (r δ).sat (fun ss δ1 => ∃ s x ce1 k ds, ss = [s] ∧ toIm δ1.ce s = some (x, ce1) ∧ seqD x = some (k, ds) ∧ Ψi (enumD ds) ⟨δ1.sl, ce1⟩) Ξ) : (aEnum r δ).sat Ψi Ξ := by first | (walk_at "ix"; apply Fx.s_enum <;> assumption) | (simp only [dOp_eq, pairsA_eq, aMake_eq] at h; walk_at "ix"; apply Fx.s_enum <;> assumption) | (simp only [dCB1_eq, aJoins_eq, aFstr_eq, aFmt_eq] at h ⊢; apply Fx.s_enum <;> assumption)
theorem s_fmt (h : (a δ).sat (fun s δ1 => (dCB1 fmtD [s] δ1).sat Ψ Ξ) Ξ) : (aFmt a δ).sat Ψ Ξ := by first | (walk_at "ix"; apply Fx.s_fmt <;> assumption) | (simp only [dOp_eq, pairsA_eq, aMake_eq] at h; walk_at "ix"; apply Fx.s_fmt <;> assumption) | (simp only [dCB1_eq, aJoins_eq, aFstr_eq, aFmt_eq] at h ⊢; apply Fx.s_fmt <;> assumption)
theorem s_fmtS {y : Str} (hl : y.length ≤ 1000000) (h : Ψ (.im (.str y)) δ) : (dCB1 fmtD [.im (.str y)] δ).sat Ψ Ξ := by first | (walk_at "ix"; apply Fx.s_fmtS <;> assumption) | (simp only [dOp_eq, pairsA_eq, aMake_eq] at h; walk_at "ix"; apply Fx.s_fmtS <;> assumption) | (simp only [dCB1_eq, aJoins_eq, aFstr_eq, aFmt_eq] at h ⊢; apply Fx.s_fmtS <;> assumption)
theorem s_fmtI {i : Int} (hl : i.natAbs.log2 < 1920) (h : Ψ (.im (.str (Str.ofString (toString i)))) δ) : (dCB1 fmtD [.im (.int i)] δ).sat Ψ Ξ := by first | (walk_at "ix"; apply Fx.s_fmtI <;> assumption) | (simp only [dOp_eq, pairsA_eq, aMake_eq] at h; walk_at "ix"; apply Fx.s_fmtI <;> assumption) | (simp only [dCB1_eq, aJoins_eq, aFstr_eq, aFmt_eq] at h ⊢; apply Fx.s_fmtI <;> assumption)
theorem s_joins0 {acc : Str} (h : Ψ (.im (.str acc)) δ) : (aJoins [] acc δ).sat Ψ Ξ := by first | (walk_at "ix"; apply Fx.s_joins0 <;> assumption) | (simp only [dOp_eq, pairsA_eq, aMake_eq] at h; walk_at "ix"; apply Fx.s_joins0 <;> assumption) | (simp only [dCB1_eq, aJoins_eq, aFstr_eq, aFmt_eq] at h ⊢; apply Fx.s_joins0 <;> assumption)
theorem s_joins {as : List AE} {acc : Str} (h : (a δ).sat (fun s δ1 => ∃ y, imS δ1.ce s = some (.str y) ∧ (acc ++ y).length ≤ 1000000 ∧ (aJoins as (acc ++ y) δ1).sat Ψ Ξ) Ξ) : (aJoins (a :: as) acc δ).sat Ψ Ξ := by first | (walk_at "ix"; apply Fx.s_joins <;> assumption) | (simp only [dOp_eq, pairsA_eq, aMake_eq] at h; walk_at "ix"; apply Fx.s_joins <;> assumption) | (simp only [dCB1_eq, aJoins_eq, aFstr_eq, aFmt_eq] at h ⊢; apply Fx.s_joins <;> assumption)
theorem s_fstr {as : List AE} (h : (aJoins as Str.empty δ).sat Ψ Ξ) : (aFstr as δ).sat Ψ Ξ := by first | (walk_at "ix"; apply Fx.s_fstr <;> assumption) | (simp only [dOp_eq, pairsA_eq, aMake_eq] at h; walk_at "ix"; apply Fx.s_fstr <;> assumption) | (simp only [dCB1_eq, aJoins_eq, aFstr_eq, aFmt_eq] at h ⊢; apply Fx.s_fstr <;> assumption)
theorem s_lcKP {g : AG} {vs : List Nat} (f : SV → D) (h : (a δ).sat (fun s δ1 => ∃ c us, s = .cl c ∧ δ1.ce[c]? = some (.lst us) ∧ us.length ≤ 100000 ∧ (∀ u ∈ us, ∃ δ2, g u ⟨wipeS δ1.sl vs, δ1.ce⟩ = some δ2 ∧ (e δ2).sat (fun s δ4 => s = .im (f u) ∧ δ4.ce = δ1.ce) (fun _ _ => False) ∧ δ2.ce = δ1.ce) ∧ Ψ (.im (.lst (us.map f))) δ1) Ξ) : (aLcK a g aYes e vs δ).sat Ψ Ξ := by first | (walk_at "ix"; apply Fx.s_lcKP <;> assumption) | (simp only [dOp_eq, pairsA_eq, aMake_eq] at h; walk_at "ix"; apply Fx.s_lcKP <;> assumption) | (simp only [dCB1_eq, aJoins_eq, aFstr_eq, aFmt_eq] at h ⊢; apply Fx.s_lcKP <;> assumption)
theorem s_bareW {s : Str} {ce : List CO} {Φ : Post} (hl : s.length ≤ 999) (h : Φ.nx ⟨[.im (.str (bare s))], ce⟩) : (aWhile 1000 (aTest (aOp (dOp eqD) (aSl (aVar 0) (aPart (aNeg (aC (.int 1)))) aNoPart) (aC (.str " ")))) (aAsg (aSl (aVar 0) aNoPart (aPart (aNeg (aC (.int 1))))) (gNm 0)) ⟨[.im (.str s)], ce⟩).sat Φ := by first | (walk_at "ix"; apply Fx.s_bareW <;> assumption) | (simp only [dOp_eq, pairsA_eq, aMake_eq] at h; walk_at "ix"; apply Fx.s_bareW <;> assumption) | (simp only [dCB1_eq, aJoins_eq, aFstr_eq, aFmt_eq] at h ⊢; apply Fx.s_bareW <;> assumption)
theorem s_listS {δ : Sta} {Ψ : SV → Sta → Prop} {Ξ : Xn → Sta → Prop} {z : Str} (hl : z.length ≤ 100000) (h : Ψ (.im (.lst (chsD z))) δ) : (listB [.im (.str z)] δ).sat Ψ Ξ := by first | (walk_at "ix"; apply Fx.s_listS <;> assumption) | (simp only [dOp_eq, pairsA_eq, aMake_eq] at h; walk_at "ix"; apply Fx.s_listS <;> assumption) | (simp only [dCB1_eq, aJoins_eq, aFstr_eq, aFmt_eq] at h ⊢; apply Fx.s_listS <;> assumption)
theorem s_listT {δ : Sta} {Ψ : SV → Sta → Prop} {Ξ : Xn → Sta → Prop} {x : D} {k : Bool} {ds : List D} (e : seqD x = some (k, ds)) (h : Ψ (.im (.lst ds)) δ) : (listB [.im x] δ).sat Ψ Ξ := by first | (walk_at "ix"; apply Fx.s_listT <;> assumption) | (simp only [dOp_eq, pairsA_eq, aMake_eq] at h; walk_at "ix"; apply Fx.s_listT <;> assumption) | (simp only [dCB1_eq, aJoins_eq, aFstr_eq, aFmt_eq] at h ⊢; apply Fx.s_listT <;> assumption)
theorem s_thaw0 {is : List Nat} (hn : noCl is δ.sl = true) (h : (a δ).sat Ψ Ξ) : (aThaw is a δ).sat Ψ Ξ := by first | (walk_at "ix"; apply Fx.s_thaw0 <;> assumption) | (simp only [dOp_eq, pairsA_eq, aMake_eq] at h; walk_at "ix"; apply Fx.s_thaw0 <;> assumption) | (simp only [dCB1_eq, aJoins_eq, aFstr_eq, aFmt_eq] at h ⊢; apply Fx.s_thaw0 <;> assumption)
theorem s_thaw {is : List Nat} (hn : noCl is δ.sl = false) (h : ∃ ce1, frzV is δ.sl δ.ce = some ce1 ∧ (a ⟨δ.sl, ce1⟩).sat (fun s δ2 => scalS s = true ∧ thawL δ.ce ce1 δ2.ce = true ∧ Ψ s δ) fun _ _ => False) : (aThaw is a δ).sat Ψ Ξ := by first | (walk_at "ix"; apply Fx.s_thaw <;> assumption) | (simp only [dOp_eq, pairsA_eq, aMake_eq] at h; walk_at "ix"; apply Fx.s_thaw <;> assumption) | (simp only [dCB1_eq, aJoins_eq, aFstr_eq, aFmt_eq] at h ⊢; apply Fx.s_thaw <;> assumption)
theorem s_lcV {it : AI} {g : AG} {e : AE} {vs : List Nat} (J : List D → List SV → List CO → Prop) (h : (it δ).sat (fun ds δ1 => ds.length ≤ 100000 ∧ J ds [] δ1.ce ∧ (∀ d ds acc ce, J (d :: ds) acc ce → ∃ δ2, g (.im d) ⟨wipeS δ1.sl vs, ce⟩ = some δ2 ∧ (e δ2).sat (fun s δ3 => J ds (acc ++ [s]) δ3.ce) fun _ _ => False) ∧ ∀ acc ce, J [] acc ce → Ψ (.cl ce.length) ⟨δ1.sl, ce ++ [.lst acc]⟩) Ξ) : (aLcV it g aYes e vs δ).sat Ψ Ξ := by first | (walk_at "ix"; apply Fx.s_lcV <;> assumption) | (simp only [dOp_eq, pairsA_eq, aMake_eq] at h; walk_at "ix"; apply Fx.s_lcV <;> assumption) | (simp only [dCB1_eq, aJoins_eq, aFstr_eq, aFmt_eq] at h ⊢; apply Fx.s_lcV <;> assumption)
theorem s_mulL {xs : List D} {n : Int} (hc : xs.length ≤ 1000 ∧ -1000 ≤ n ∧ n ≤ 1000) (h : Ψ (.im (.lst (repD n.toNat xs))) δ) : (mulA (.im (.lst xs)) (.im (.int n)) δ).sat Ψ Ξ := by first | (walk_at "ix"; apply Fx.s_mulL <;> assumption) | (simp only [dOp_eq, pairsA_eq, aMake_eq] at h; walk_at "ix"; apply Fx.s_mulL <;> assumption) | (simp only [dCB1_eq, aJoins_eq, aFstr_eq, aFmt_eq] at h ⊢; apply Fx.s_mulL <;> assumption)
end
end Ix

set_option Elab.async false
set_option linter.all false
set_option autoImplicit false
set_option maxRecDepth 100000
set_option maxHeartbeats 0
namespace K10.G
open PySem L2
open Fx hiding aC aVar aOp aNil aCons aTest aAnd aOr aNot aYes aAndV aOrV aNotV aNeg aIf aChain aLst aLstC aTup aCB aFld aCall aMake aMakeC aMeth aBM aBM0 aBMd aSl aPart aNoPart aNext aSeq aAsg aRet aRetN aExpr aIfS aPar aBreak aCont aNever aDput aFor aForC aWhile aIt aRg1 aRg2 aItems aLstRg aLc aDisp aDispS aDef aDefC dOp addA ixA dCB1 dCB2 dBM0 dBM1 isiA listA listC tupleA dictC appendA updateA aDnew pairsA aMethKW aMakeKW aRaise aTry aXF isxA aZip aLcC aCall0 aMeth0 eqX strX aCM aMakeL aTryF aStar inG popA insertA splitC eqK aOwn aAugO isiT aRaise0 isxZ aRev aZipM aEnum aFmt aJoins aFstr aLcK listB aThaw aLcV mulA s_c s_var s_varI s_varC s_op s_dop s_nil s_cons s_test s_and s_or s_not s_yes s_andV s_orV s_notV s_neg s_if s_lst s_lstC s_tup s_cb s_cb1 s_cb2 s_fld s_call s_meth s_bm s_bm0 s_bm1 s_bmz s_isi s_sl s_nopart s_part s_next s_seq s_asg s_set s_ret s_retN s_expr s_ifS s_par s_dput s_pairs0 s_pairs s_disp s_rg1 s_rg2 s_it s_for s_forC s_lc s_def s_defC s_make s_varB s_varF s_addI s_addS s_addL s_addT s_subI s_mulI s_mulS s_fdivI s_modI s_powI s_ltI s_leI s_gtI s_geI s_ltS s_eqI s_eqS s_neI s_neS s_eqB' s_neB s_isN s_isnotN s_isB s_isnotB s_absI s_intI s_intB s_lenL s_lenT s_lenR s_lenS s_ixC s_ixL s_ixT s_ixR s_ixS s_ixD s_ixG s_asgIx s_intB2 s_ixR2 s_ixL2 s_make2 s_forU s_items s_inT s_inL s_dispS s_fld2 s_bare s_lcM s_methKW s_makeKW s_bmd s_update s_zip s_raise s_try s_xf s_isx s_lcC s_asgIxG s_makeX s_ixK s_lcF s_lcCM s_call0 s_meth0 s_cm s_makeL s_tryF s_eqXo s_eqXd s_strXo s_star s_inG s_pop s_insert s_splitC s_eqK s_isiT s_own s_augO s_raise0 s_isz s_rev s_append s_zipM s_chain s_lcP s_tupI s_lcR s_enum s_fmt s_fmtS s_fmtI s_joins0 s_joins s_fstr s_lcKP s_bareW s_listS s_listT s_thaw0 s_thaw s_lcV s_mulL
open Ix
local macro_rules | `(tactic| walk_at "ix") => `(tactic| simp only [Ix.aC_eq, Ix.aVar_eq, Ix.aOp_eq, Ix.aNil_eq, Ix.aCons_eq, Ix.aTest_eq, Ix.aAnd_eq, Ix.aOr_eq, Ix.aNot_eq, Ix.aYes_eq, Ix.aAndV_eq, Ix.aOrV_eq, Ix.aNotV_eq, Ix.aNeg_eq, Ix.aIf_eq, Ix.aChain_eq, Ix.aLst_eq, Ix.aLstC_eq, Ix.aTup_eq, Ix.aCB_eq, Ix.aFld_eq, Ix.aCall_eq, Ix.aMake_eq, Ix.aMakeC_eq, Ix.aMeth_eq, Ix.aBM_eq, Ix.aBM0_eq, Ix.aBMd_eq, Ix.aSl_eq, Ix.aPart_eq, Ix.aNoPart_eq, Ix.aNext_eq, Ix.aSeq_eq, Ix.aAsg_eq, Ix.aRet_eq, Ix.aRetN_eq, Ix.aExpr_eq, Ix.aIfS_eq, Ix.aPar_eq, Ix.aBreak_eq, Ix.aCont_eq, Ix.aNever_eq, Ix.aDput_eq, Ix.aFor_eq, Ix.aForC_eq, Ix.aWhile_eq, Ix.aIt_eq, Ix.aRg1_eq, Ix.aRg2_eq, Ix.aItems_eq, Ix.aLstRg_eq, Ix.aLc_eq, Ix.aDisp_eq, Ix.aDispS_eq, Ix.aDef_eq, Ix.aDefC_eq, Ix.dOp_eq, Ix.addA_eq, Ix.ixA_eq, Ix.dCB1_eq, Ix.dCB2_eq, Ix.dBM0_eq, Ix.dBM1_eq, Ix.isiA_eq, Ix.listA_eq, Ix.listC_eq, Ix.tupleA_eq, Ix.dictC_eq, Ix.appendA_eq, Ix.updateA_eq, Ix.aDnew_eq, Ix.pairsA_eq, Ix.aMethKW_eq, Ix.aMakeKW_eq, Ix.aRaise_eq, Ix.aTry_eq, Ix.aXF_eq, Ix.isxA_eq, Ix.aZip_eq, Ix.aLcC_eq, Ix.aCall0_eq, Ix.aMeth0_eq, Ix.eqX_eq, Ix.strX_eq, Ix.aCM_eq, Ix.aMakeL_eq, Ix.aTryF_eq, Ix.aStar_eq, Ix.inG_eq, Ix.popA_eq, Ix.insertA_eq, Ix.splitC_eq, Ix.eqK_eq, Ix.aOwn_eq, Ix.aAugO_eq, Ix.isiT_eq, Ix.aRaise0_eq, Ix.isxZ_eq, Ix.aRev_eq, Ix.aZipM_eq, Ix.aEnum_eq, Ix.aFmt_eq, Ix.aJoins_eq, Ix.aFstr_eq, Ix.aLcK_eq, Ix.listB_eq, Ix.aThaw_eq, Ix.aLcV_eq, Ix.mulA_eq])
def t__law_box : Fn := aDefC 4
    (aSeq (aAsg (aOp addA (aOp (dOp mulD) (aC (.int 6701)) (aVar 1)) (aC (.int 47))) (gNm 2))
    (aSeq (aIfS (aTest (aOp (dOp ltD) (aVar 1) (aCB (dCB1 lenD) (aCons (aVar 0) aNil)))) (aAsg (aCB (dCB1 absD) (aCons (aCB (dCB1 intD) (aCons (aOp (ixA tabs) (aVar 0) (aVar 1)) aNil)) aNil)) (gNm 2)) (aIfS (aTest (aOp (dOp gtD) (aCB (dCB1 lenD) (aCons (aVar 0) aNil)) (aC (.int 0)))) (aAsg (aOp addA (aVar 2) (aOp (dOp mulD) (aOp (dOp modD) (aCB (dCB1 intD) (aCons (aOp (ixA tabs) (aVar 0) (aOp (dOp modD) (aCB (dCB1 intD) (aCons (aVar 1) aNil)) (aCB (dCB1 lenD) (aCons (aVar 0) aNil)))) aNil)) (aC (.int 2147483629))) (aC (.int 69539)))) (gNm 2)) aNext))
    (aSeq (aAsg (aOp addA (aOp (dOp modD) (aCB (dCB1 intD) (aCons (aOp addA (aOp addA (aOp (dOp mulD) (aOp (dOp modD) (aCB (dCB1 intD) (aCons (aVar 2) aNil)) (aC (.int 2147483629))) (aC (.int 48281))) (aOp (dOp mulD) (aC (.int 40847)) (aVar 1))) (aC (.int 7))) aNil)) (aC (.int 2147483629))) (aC (.int 1))) (gNm 3))
    (aRet (aLstC (aCons (aOp (ixA tabs) (aLst (aCons (aC (.int 0)) (aCons (aVar 2) aNil))) (aCB (dCB1 intD) (aCons (aOp (dOp geD) (aVar 2) (aOp (dOp powD) (aC (.int 10)) (aC (.int 18)))) aNil))) (aCons (aVar 3) (aCons (aC (.int 0)) aNil))))))))
theorem t__law_box_eq : K10.G.t__law_box = K10.t__law_box := by
  unfold K10.G.t__law_box K10.t__law_box
  walk_at "ix"
@[reducible] def f__law_box : Fn := loc t__law_box
theorem f__law_box_eq : K10.G.f__law_box = K10.f__law_box := by
  unfold K10.G.f__law_box K10.f__law_box
  rw [t__law_box_eq]
def t__law_take : Fn := aDef 4
    (aSeq (aIfS (aTest (aOp (dOp gtD) (aOp (ixA tabs) (aVar 0) (aC (.int 0))) (aC (.int 0)))) (aSeq (aAsg (aOp (dOp modD) (aCB (dCB1 intD) (aCons (aOp (ixA tabs) (aVar 0) (aC (.int 0))) aNil)) (aVar 1)) (gNm 2))
    (aSeq (aAsg (aOp (dOp fdivD) (aOp (ixA tabs) (aVar 0) (aC (.int 0))) (aVar 1)) (gIx (aVar 0) (aC (.int 0))))
    (aRet (aVar 2)))) aNext)
    (aSeq (aAsg (aOp addA (aOp (ixA tabs) (aVar 0) (aC (.int 2))) (aC (.int 1))) (gIx (aVar 0) (aC (.int 2))))
    (aSeq (aAsg (aOp (dOp modD) (aCB (dCB1 intD) (aCons (aOp (dOp mulD) (aOp addA (aOp (ixA tabs) (aVar 0) (aC (.int 1))) (aOp (dOp mulD) (aC (.int 104773)) (aOp (ixA tabs) (aVar 0) (aC (.int 2))))) (aC (.int 69661))) aNil)) (aC (.int 2147483647))) (gNm 3))
    (aSeq (aAsg (aOp addA (aOp (dOp modD) (aCB (dCB1 intD) (aCons (aOp addA (aOp (dOp mulD) (aVar 3) (aC (.int 48299))) (aC (.int 30137))) aNil)) (aC (.int 2147483629))) (aC (.int 1))) (gIx (aVar 0) (aC (.int 1))))
    (aRet (aOp (dOp modD) (aCB (dCB1 intD) (aCons (aOp (dOp fdivD) (aOp addA (aOp (dOp mulD) (aVar 3) (aC (.int 2147483647))) (aOp (ixA tabs) (aVar 0) (aC (.int 1)))) (aC (.int 8191))) aNil)) (aVar 1)))))))
theorem t__law_take_eq : K10.G.t__law_take = K10.t__law_take := by
  unfold K10.G.t__law_take K10.t__law_take
  walk_at "ix"
@[reducible] def f__law_take : Fn := loc t__law_take
theorem f__law_take_eq : K10.G.f__law_take = K10.f__law_take := by
  unfold K10.G.f__law_take K10.f__law_take
  rw [t__law_take_eq]
def t__law_pick : Fn := aDef 2
    (aRet (aOp (ixA tabs) (aVar 1) (aCall 2 f__law_take [] (aCons (aVar 0) (aCons (aThaw [1] (aCB (dCB1 lenD) (aCons (aVar 1) aNil))) aNil)))))
theorem t__law_pick_eq : K10.G.t__law_pick = K10.t__law_pick := by
  unfold K10.G.t__law_pick K10.t__law_pick
  try simp only [f__law_take_eq]
  walk_at "ix"
@[reducible] def f__law_pick : Fn := loc t__law_pick
theorem f__law_pick_eq : K10.G.f__law_pick = K10.f__law_pick := by
  unfold K10.G.f__law_pick K10.f__law_pick
  rw [t__law_pick_eq]
def t__law_shuffled : Fn := aDef 5
    (aSeq (aPar 2 3 (aCons (aCB listC (aCons (aVar 1) aNil)) (aCons (aLstC aNil) aNil)))
    (aSeq (aFor (aRg1 (aCons (aCB (dCB1 lenD) (aCons (aVar 2) aNil)) aNil)) (gNm 4) (aExpr (aBM "list" appendA (aVar 3) (aCons (aBM "list" popA (aVar 2) (aCons (aCall 2 f__law_take [] (aCons (aVar 0) (aCons (aCB (dCB1 lenD) (aCons (aVar 2) aNil)) aNil))) aNil)) aNil))))
    (aRet (aVar 3))))
theorem t__law_shuffled_eq : K10.G.t__law_shuffled = K10.t__law_shuffled := by
  unfold K10.G.t__law_shuffled K10.t__law_shuffled
  try simp only [f__law_take_eq]
  walk_at "ix"
@[reducible] def f__law_shuffled : Fn := loc t__law_shuffled
theorem f__law_shuffled_eq : K10.G.f__law_shuffled = K10.f__law_shuffled := by
  unfold K10.G.f__law_shuffled K10.f__law_shuffled
  rw [t__law_shuffled_eq]
def t__law_names : Fn := aDef 7
    (aSeq (aAsg (aLst (aCons (aC (.str "pick")) (aCons (aC (.str "fill")) (aCons (aC (.str "trim")) (aCons (aC (.str "text")) (aCons (aC (.str "home")) (aCons (aC (.str "far")) (aCons (aC (.str "a")) (aCons (aC (.str "ab")) (aCons (aC (.str "zzzz")) (aCons (aC (.str "n")) (aCons (aC (.str "cuts")) (aCons (aC (.str "undo")) aNil))))))))))))) (gNm 2))
    (aSeq (aAsg (aTup (aCons (aC (.str "abcdefghijklmnopqrstuvwxyz")) (aCons (aCall 2 f__law_take [] (aCons (aVar 0) (aCons (aC (.int 3)) aNil))) (aCons (aCall 2 f__law_take [] (aCons (aVar 0) (aCons (aC (.int 26)) aNil))) aNil)))) (gTp [(gNm 3), (gNm 4), (gNm 5)]))
    (aSeq (aIfS (aTest (aOp (dOp eqD) (aVar 4) (aC (.int 0)))) (aRet (aLc (aRg1 (aCons (aVar 1) aNil)) (gNm 6) aYes (aOp (ixA tabs) (aVar 2) (aOp (dOp modD) (aCB (dCB1 intD) (aCons (aOp addA (aVar 5) (aOp (dOp mulD) (aC (.int 5)) (aVar 6))) aNil)) (aC (.int 12)))) [6])) aNext)
    (aSeq (aIfS (aAnd (aTest (aOp (dOp eqD) (aVar 4) (aC (.int 1)))) (aTest (aOp (dOp ltD) (aVar 1) (aC (.int 5))))) (aRet (aCall 2 f__law_shuffled [] (aCons (aVar 0) (aCons (aLc (aRg1 (aCons (aVar 1) aNil)) (gNm 6) aYes (aSl (aC (.str "nnnn")) aNoPart (aPart (aOp addA (aVar 6) (aC (.int 1))))) [6]) aNil)))) aNext)
    (aRet (aLc (aRg1 (aCons (aVar 1) aNil)) (gNm 6) aYes (aOp addA (aOp (ixA tabs) (aVar 3) (aOp (dOp modD) (aCB (dCB1 intD) (aCons (aOp addA (aVar 5) (aOp (dOp mulD) (aC (.int 7)) (aVar 6))) aNil)) (aC (.int 26)))) (aOp (dOp mulD) (aC (.str "q")) (aOp (dOp modD) (aCB (dCB1 intD) (aCons (aVar 5) aNil)) (aC (.int 4))))) [6]))))))
theorem t__law_names_eq : K10.G.t__law_names = K10.t__law_names := by
  unfold K10.G.t__law_names K10.t__law_names
  try simp only [f__law_take_eq, f__law_shuffled_eq]
  walk_at "ix"
@[reducible] def f__law_names : Fn := loc t__law_names
theorem f__law_names_eq : K10.G.f__law_names = K10.f__law_names := by
  unfold K10.G.f__law_names K10.f__law_names
  rw [t__law_names_eq]
def t__law_columns : Fn := aDef 3
    (aRet (aLc (aIt (aCall 2 f__law_names [] (aCons (aVar 0) (aCons (aVar 1) aNil)))) (gNm 2) aYes (aTup (aCons (aVar 2) (aCons (aCall 2 f__law_pick [] (aCons (aVar 0) (aCons (aLst (aCons (aC (.str "text")) (aCons (aC (.str "text")) (aCons (aC (.str "number")) aNil)))) aNil))) aNil))) [2]))
theorem t__law_columns_eq : K10.G.t__law_columns = K10.t__law_columns := by
  unfold K10.G.t__law_columns K10.t__law_columns
  try simp only [f__law_pick_eq, f__law_names_eq]
  walk_at "ix"
@[reducible] def f__law_columns : Fn := loc t__law_columns
theorem f__law_columns_eq : K10.G.f__law_columns = K10.f__law_columns := by
  unfold K10.G.f__law_columns K10.f__law_columns
  rw [t__law_columns_eq]
def t_is_sequence : Fn := aDef 1
    (aRet (aCB (isiT isi) (aCons (aVar 0) (aCons (aTup (aCons (aC (.ty "list")) (aCons (aC (.ty "tuple")) aNil))) aNil))))
theorem t_is_sequence_eq : K10.G.t_is_sequence = K10.t_is_sequence := by
  unfold K10.G.t_is_sequence K10.t_is_sequence
  walk_at "ix"
@[reducible] def f_is_sequence : Fn := loc t_is_sequence
theorem f_is_sequence_eq : K10.G.f_is_sequence = K10.f_is_sequence := by
  unfold K10.G.f_is_sequence K10.f_is_sequence
  rw [t_is_sequence_eq]
def t_is_text : Fn := aDef 2
    (aSeq (aIfS (aOr (aNot (aTest (aCB (isiA isi) (aCons (aVar 0) (aCons (aC (.ty "str")) aNil))))) (aTest (aOp (dOp gtD) (aCB (dCB1 lenD) (aCons (aVar 0) aNil)) (aC (.int 10))))) (aRet (aC (.bl false))) aNext)
    (aRet (aCB (dCB1 allD) (aCons (aLc (aIt (aBM "str" (dBM1 rstripD) (aVar 0) (aCons (aC (.str " ")) aNil))) (gNm 1) aYes (aOp (dOp inD) (aVar 1) (aC (.str "abcdefghijklmnopqrstuvwxyzABCDEFGHIJKLMNOPQRSTUVWXYZ"))) [1]) aNil))))
theorem t_is_text_eq : K10.G.t_is_text = K10.t_is_text := by
  unfold K10.G.t_is_text K10.t_is_text
  walk_at "ix"
@[reducible] def f_is_text : Fn := loc t_is_text
theorem f_is_text_eq : K10.G.f_is_text = K10.f_is_text := by
  unfold K10.G.f_is_text K10.f_is_text
  rw [t_is_text_eq]
def t_is_integer : Fn := aDef 1
    (aRet (aAndV (aCB (isiA isi) (aCons (aVar 0) (aCons (aC (.ty "int")) aNil))) (aNotV (aCB (isiA isi) (aCons (aVar 0) (aCons (aC (.ty "bool")) aNil))))))
theorem t_is_integer_eq : K10.G.t_is_integer = K10.t_is_integer := by
  unfold K10.G.t_is_integer K10.t_is_integer
  walk_at "ix"
@[reducible] def f_is_integer : Fn := loc t_is_integer
theorem f_is_integer_eq : K10.G.f_is_integer = K10.f_is_integer := by
  unfold K10.G.f_is_integer K10.f_is_integer
  rw [t_is_integer_eq]
def t_is_number : Fn := aDef 1
    (aRet (aAndV (aCall 1 f_is_integer [] (aCons (aVar 0) aNil)) (aChain (dOp leD) (dOp leD) (aNeg (aC (.int 1000000))) (aVar 0) (aC (.int 1000000)))))
theorem t_is_number_eq : K10.G.t_is_number = K10.t_is_number := by
  unfold K10.G.t_is_number K10.t_is_number
  try simp only [f_is_integer_eq]
  walk_at "ix"
@[reducible] def f_is_number : Fn := loc t_is_number
theorem f_is_number_eq : K10.G.f_is_number = K10.f_is_number := by
  unfold K10.G.f_is_number K10.f_is_number
  rw [t_is_number_eq]
def t_is_of_sort : Fn := aDef 2
    (aRet (aIf (aTest (aOp (dOp eqD) (aVar 1) (aC (.str "text")))) (aCall 1 f_is_text [] (aCons (aVar 0) aNil)) (aCall 1 f_is_number [] (aCons (aVar 0) aNil))))
theorem t_is_of_sort_eq : K10.G.t_is_of_sort = K10.t_is_of_sort := by
  unfold K10.G.t_is_of_sort K10.t_is_of_sort
  try simp only [f_is_text_eq, f_is_number_eq]
  walk_at "ix"
@[reducible] def f_is_of_sort : Fn := loc t_is_of_sort
theorem f_is_of_sort_eq : K10.G.f_is_of_sort = K10.f_is_of_sort := by
  unfold K10.G.f_is_of_sort K10.f_is_of_sort
  rw [t_is_of_sort_eq]
def t_is_row : Fn := aDef 5
    (aRet (aCB (dCB1 allD) (aCons (aLc (aZipM (aCons (aVar 1) (aCons (aVar 0) aNil))) (gTp [(gNm 2), (gTp [(gNm 3), (gNm 4)])]) aYes (aOrV (aOp (dOp isD) (aVar 2) (aC .non)) (aCall 2 f_is_of_sort [] (aCons (aVar 2) (aCons (aVar 4) aNil)))) [2, 3, 4]) aNil)))
theorem t_is_row_eq : K10.G.t_is_row = K10.t_is_row := by
  unfold K10.G.t_is_row K10.t_is_row
  try simp only [f_is_of_sort_eq]
  walk_at "ix"
@[reducible] def f_is_row : Fn := loc t_is_row
theorem f_is_row_eq : K10.G.f_is_row = K10.f_is_row := by
  unfold K10.G.f_is_row K10.f_is_row
  rw [t_is_row_eq]
def t_need_rows : Fn := aDef 3
    (aSeq (aIfS (aNot (aTest (aCall 1 f_is_sequence [] (aCons (aVar 1) aNil)))) (aRaise "InvalidTable" "word" (aC (.str "rows"))) aNext)
    (aSeq (aIfS (aNot (aTest (aCB (dCB1 allD) (aCons (aLc (aIt (aVar 1)) (gNm 2) aYes (aAndV (aCall 1 f_is_sequence [] (aCons (aVar 2) aNil)) (aOp (dOp eqD) (aCB (dCB1 lenD) (aCons (aVar 2) aNil)) (aCB (dCB1 lenD) (aCons (aVar 0) aNil)))) [2]) aNil)))) (aRaise "InvalidTable" "word" (aC (.str "row"))) aNext)
    (aIfS (aNot (aTest (aCB (dCB1 allD) (aCons (aLc (aIt (aVar 1)) (gNm 2) aYes (aCall 2 f_is_row [] (aCons (aVar 0) (aCons (aVar 2) aNil))) [2]) aNil)))) (aRaise "InvalidTable" "word" (aC (.str "cell"))) aNext)))
theorem t_need_rows_eq : K10.G.t_need_rows = K10.t_need_rows := by
  unfold K10.G.t_need_rows K10.t_need_rows
  try simp only [f_is_sequence_eq, f_is_row_eq]
  walk_at "ix"
@[reducible] def f_need_rows : Fn := loc t_need_rows
theorem f_need_rows_eq : K10.G.f_need_rows = K10.f_need_rows := by
  unfold K10.G.f_need_rows K10.f_need_rows
  rw [t_need_rows_eq]
def t_columns_of : Fn := aDef 2
    (aRet (aCB tupleA (aCons (aLc (aIt (aVar 0)) (gNm 1) aYes (aTup (aCons (aOp (ixA tabs) (aVar 1) (aC (.int 0))) (aCons (aOp (ixA tabs) (aVar 1) (aC (.int 1))) aNil))) [1]) aNil)))
theorem t_columns_of_eq : K10.G.t_columns_of = K10.t_columns_of := by
  unfold K10.G.t_columns_of K10.t_columns_of
  walk_at "ix"
@[reducible] def f_columns_of : Fn := loc t_columns_of
theorem f_columns_of_eq : K10.G.f_columns_of = K10.f_columns_of := by
  unfold K10.G.f_columns_of K10.f_columns_of
  rw [t_columns_of_eq]
def t_is_name : Fn := aDef 2
    (aSeq (aIfS (aOr (aNot (aTest (aCB (isiA isi) (aCons (aVar 0) (aCons (aC (.ty "str")) aNil))))) (aOr (aNot (aTest (aChain (dOp leD) (dOp leD) (aC (.int 1)) (aCB (dCB1 lenD) (aCons (aVar 0) aNil)) (aC (.int 4))))) (aTest (aOp (dOp inD) (aVar 0) (aC (.tup [(.str "is"), (.str "and"), (.str "or"), (.str "not"), (.str "as"), (.str "up"), (.str "down")])))))) (aRet (aC (.bl false))) aNext)
    (aRet (aCB (dCB1 allD) (aCons (aLc (aIt (aVar 0)) (gNm 1) aYes (aOp (dOp inD) (aVar 1) (aC (.str "abcdefghijklmnopqrstuvwxyz"))) [1]) aNil))))
theorem t_is_name_eq : K10.G.t_is_name = K10.t_is_name := by
  unfold K10.G.t_is_name K10.t_is_name
  walk_at "ix"
@[reducible] def f_is_name : Fn := loc t_is_name
theorem f_is_name_eq : K10.G.f_is_name = K10.f_is_name := by
  unfold K10.G.f_is_name K10.f_is_name
  rw [t_is_name_eq]
def t_are_columns : Fn := aDef 3
    (aSeq (aIfS (aOr (aNot (aTest (aCall 1 f_is_sequence [] (aCons (aVar 0) aNil)))) (aTest (aOp (dOp eqD) (aCB (dCB1 lenD) (aCons (aVar 0) aNil)) (aC (.int 0))))) (aRet (aC (.bl false))) aNext)
    (aSeq (aAsg (aLstC aNil) (gNm 1))
    (aSeq (aFor (aIt (aVar 0)) (gNm 2) (aSeq (aIfS (aOr (aNot (aTest (aCB (isiA isi) (aCons (aVar 2) (aCons (aC (.ty "tuple")) aNil))))) (aOr (aTest (aOp (dOp neD) (aCB (dCB1 lenD) (aCons (aVar 2) aNil)) (aC (.int 2)))) (aOr (aNot (aTest (aCall 1 f_is_name [] (aCons (aOp (ixA tabs) (aVar 2) (aC (.int 0))) aNil)))) (aTest (aOp (dOp inD) (aOp (ixA tabs) (aVar 2) (aC (.int 0))) (aVar 1)))))) (aRet (aC (.bl false))) aNext)
    (aSeq (aIfS (aOr (aNot (aTest (aCB (isiA isi) (aCons (aOp (ixA tabs) (aVar 2) (aC (.int 1))) (aCons (aC (.ty "str")) aNil))))) (aTest (aOp (dOp notinD) (aOp (ixA tabs) (aVar 2) (aC (.int 1))) (aC (.tup [(.str "text"), (.str "number")]))))) (aRet (aC (.bl false))) aNext)
    (aExpr (aBM "list" appendA (aVar 1) (aCons (aOp (ixA tabs) (aVar 2) (aC (.int 0))) aNil))))))
    (aRet (aC (.bl true))))))
theorem t_are_columns_eq : K10.G.t_are_columns = K10.t_are_columns := by
  unfold K10.G.t_are_columns K10.t_are_columns
  try simp only [f_is_sequence_eq, f_is_name_eq]
  walk_at "ix"
@[reducible] def f_are_columns : Fn := loc t_are_columns
theorem f_are_columns_eq : K10.G.f_are_columns = K10.f_are_columns := by
  unfold K10.G.f_are_columns K10.f_are_columns
  rw [t_are_columns_eq]
def t_Table___init__ : Fn := aDef 4
    (aSeq (aIfS (aNot (aTest (aCall 1 f_are_columns [] (aCons (aVar 1) aNil)))) (aRaise "InvalidTable" "word" (aC (.str "columns"))) aNext)
    (aSeq (aExpr (aCall 2 f_need_rows [] (aCons (aVar 1) (aCons (aVar 2) aNil))))
    (aSeq (aAsg (aCall 1 f_columns_of [] (aCons (aVar 1) aNil)) (gFl ct 0 "columns"))
    (aAsg (aCB tupleA (aCons (aLc (aIt (aVar 2)) (gNm 3) aYes (aCB tupleA (aCons (aVar 3) aNil)) [3]) aNil)) (gFl ct 0 "rows")))))
theorem t_Table___init___eq : K10.G.t_Table___init__ = K10.t_Table___init__ := by
  unfold K10.G.t_Table___init__ K10.t_Table___init__
  try simp only [f_need_rows_eq, f_columns_of_eq, f_are_columns_eq]
  walk_at "ix"
@[reducible] def f_Table___init__ : Fn := loc t_Table___init__
theorem f_Table___init___eq : K10.G.f_Table___init__ = K10.f_Table___init__ := by
  unfold K10.G.f_Table___init__ K10.f_Table___init__
  rw [t_Table___init___eq]
def t__law_told : Fn := aDef 4
    (aSeq (aAsg (aC .non) (gNm 2))
    (aSeq (aTry tabx_InvalidTable 3 (aExpr (aMake "Table" 3 f_Table___init__ [] (aCons (aVar 0) (aCons (aVar 1) aNil)))) (aAsg (aIf (aAnd (aTest (aCB (isxA isx) (aCons (aVar 3) (aCons (aC (.glo "PartError")) aNil)))) (aNot (aTest (aCB (isxA isx) (aCons (aVar 3) (aCons (aC (.glo "InvalidWays")) aNil)))))) (aXF "InvalidTable" "word" (aVar 3)) (aC (.str "other"))) (gNm 2)))
    (aRet (aVar 2))))
theorem t__law_told_eq : K10.G.t__law_told = K10.t__law_told := by
  unfold K10.G.t__law_told K10.t__law_told
  try simp only [f_Table___init___eq]
  walk_at "ix"
@[reducible] def f__law_told : Fn := loc t__law_told
theorem f__law_told_eq : K10.G.f__law_told = K10.f__law_told := by
  unfold K10.G.f__law_told K10.f__law_told
  rw [t__law_told_eq]
def t__law_odd_cell : Fn := aDef 3
    (aSeq (aAsg (aLst (aCons (aC (.bl true)) (aCons (aC (.bl false)) (aCons (aLst aNil) (aCons (aTup (aCons (aC (.str "a")) aNil)) (aCons (aC (.str "a1")) (aCons (aC (.str "a b")) (aCons (aC (.str " a")) (aCons (aC (.str "abcdefghijk")) (aCons (aOp addA (aC (.str "a")) (aOp (dOp mulD) (aC (.str " ")) (aC (.int 10)))) (aCons (aOp addA (aOp (dOp powD) (aC (.int 10)) (aC (.int 6))) (aC (.int 1))) aNil))))))))))) (gNm 2))
    (aSeq (aAsg (aOp addA (aVar 2) (aLst (aCons (aOp (dOp subD) (aOp (dOp subD) (aC (.int 0)) (aOp (dOp powD) (aC (.int 10)) (aC (.int 6)))) (aC (.int 1))) (aCons (aC (.str "-")) (aCons (aC (.str "\"")) (aCons (aC (.str "a\n")) (aCons (aLst (aCons (aTup (aCons (aLst (aCons (aTup (aCons (aLst (aCons (aC .non) aNil)) aNil)) aNil)) aNil)) aNil)) aNil))))))) (gNm 2))
    (aRet (aCall 2 f__law_pick [] (aCons (aVar 0) (aCons (aOp addA (aVar 2) (aOp (ixA tabs) (aLst (aCons (aLst (aCons (aC (.int 3)) (aCons (aC (.int 0)) (aCons (aOp (dOp subD) (aC (.int 0)) (aC (.int 7))) aNil)))) (aCons (aLst (aCons (aC (.str "")) (aCons (aC (.str "x")) (aCons (aC (.str "B ")) aNil)))) aNil))) (aCB (dCB1 intD) (aCons (aOp (dOp eqD) (aVar 1) (aC (.str "number"))) aNil)))) aNil))))))
theorem t__law_odd_cell_eq : K10.G.t__law_odd_cell = K10.t__law_odd_cell := by
  unfold K10.G.t__law_odd_cell K10.t__law_odd_cell
  try simp only [f__law_pick_eq]
  walk_at "ix"
@[reducible] def f__law_odd_cell : Fn := loc t__law_odd_cell
theorem f__law_odd_cell_eq : K10.G.f__law_odd_cell = K10.f__law_odd_cell := by
  unfold K10.G.f__law_odd_cell K10.f__law_odd_cell
  rw [t__law_odd_cell_eq]
def t__law_word : Fn := aDef 3
    (aSeq (aIfS (aTest (aOp (dOp eqD) (aCall 2 f__law_take [] (aCons (aVar 0) (aCons (aC (.int 12)) aNil))) (aC (.int 0)))) (aRet (aSl (aOp addA (aSl (aC (.str "aBcDeFgHiZ")) (aPart (aCall 2 f__law_take [] (aCons (aVar 0) (aCons (aC (.int 5)) aNil)))) aNoPart) (aC (.str "   "))) aNoPart (aPart (aC (.int 10))))) aNext)
    (aSeq (aAsg (aBM "str" (dBM1 joinD) (aC (.str "")) (aCons (aLc (aRg1 (aCons (aCall 2 f__law_take [] (aCons (aVar 0) (aCons (aC (.int 4)) aNil))) aNil)) (gNm 2) aYes (aCall 2 f__law_pick [] (aCons (aVar 0) (aCons (aC (.str "aAbBxz")) aNil))) [2]) aNil)) (gNm 1))
    (aRet (aOp addA (aVar 1) (aOp (dOp mulD) (aC (.str " ")) (aOp (ixA tabs) (aLst (aCons (aC (.int 0)) (aCons (aC (.int 0)) (aCons (aC (.int 0)) (aCons (aC (.int 1)) (aCons (aC (.int 1)) (aCons (aC (.int 2)) aNil))))))) (aCall 2 f__law_take [] (aCons (aVar 0) (aCons (aC (.int 6)) aNil)))))))))
theorem t__law_word_eq : K10.G.t__law_word = K10.t__law_word := by
  unfold K10.G.t__law_word K10.t__law_word
  try simp only [f__law_take_eq, f__law_pick_eq]
  walk_at "ix"
@[reducible] def f__law_word : Fn := loc t__law_word
theorem f__law_word_eq : K10.G.f__law_word = K10.f__law_word := by
  unfold K10.G.f__law_word K10.f__law_word
  rw [t__law_word_eq]
def t__law_number : Fn := aDef 1
    (aSeq (aIfS (aTest (aOp (dOp eqD) (aCall 2 f__law_take [] (aCons (aVar 0) (aCons (aC (.int 8)) aNil))) (aC (.int 0)))) (aRet (aOp (dOp mulD) (aOp (ixA tabs) (aLst (aCons (aC (.int 1)) (aCons (aOp (dOp subD) (aC (.int 0)) (aC (.int 1))) aNil))) (aCall 2 f__law_take [] (aCons (aVar 0) (aCons (aC (.int 2)) aNil)))) (aOp (dOp subD) (aOp (dOp powD) (aC (.int 10)) (aC (.int 6))) (aCall 2 f__law_take [] (aCons (aVar 0) (aCons (aC (.int 40)) aNil)))))) aNext)
    (aRet (aOp (dOp subD) (aOp addA (aOp (dOp mulD) (aC (.int 5)) (aOp (dOp subD) (aCall 2 f__law_take [] (aCons (aVar 0) (aCons (aC (.int 9)) aNil))) (aC (.int 4)))) (aCall 2 f__law_take [] (aCons (aVar 0) (aCons (aC (.int 5)) aNil)))) (aC (.int 2)))))
theorem t__law_number_eq : K10.G.t__law_number = K10.t__law_number := by
  unfold K10.G.t__law_number K10.t__law_number
  try simp only [f__law_take_eq]
  walk_at "ix"
@[reducible] def f__law_number : Fn := loc t__law_number
theorem f__law_number_eq : K10.G.f__law_number = K10.f__law_number := by
  unfold K10.G.f__law_number K10.f__law_number
  rw [t__law_number_eq]
def t__law_cell : Fn := aDef 2
    (aSeq (aIfS (aTest (aOp (dOp eqD) (aCall 2 f__law_take [] (aCons (aVar 0) (aCons (aC (.int 6)) aNil))) (aC (.int 0)))) (aRet (aC .non)) aNext)
    (aRet (aIf (aTest (aOp (dOp eqD) (aVar 1) (aC (.str "text")))) (aCall 1 f__law_word [] (aCons (aVar 0) aNil)) (aCall 1 f__law_number [] (aCons (aVar 0) aNil)))))
theorem t__law_cell_eq : K10.G.t__law_cell = K10.t__law_cell := by
  unfold K10.G.t__law_cell K10.t__law_cell
  try simp only [f__law_take_eq, f__law_word_eq, f__law_number_eq]
  walk_at "ix"
@[reducible] def f__law_cell : Fn := loc t__law_cell
theorem f__law_cell_eq : K10.G.f__law_cell = K10.f__law_cell := by
  unfold K10.G.f__law_cell K10.f__law_cell
  rw [t__law_cell_eq]
def t__law_row : Fn := aDef 4
    (aRet (aCB tupleA (aCons (aLc (aIt (aVar 1)) (gTp [(gNm 2), (gNm 3)]) aYes (aCall 2 f__law_cell [] (aCons (aVar 0) (aCons (aVar 3) aNil))) [2, 3]) aNil)))
theorem t__law_row_eq : K10.G.t__law_row = K10.t__law_row := by
  unfold K10.G.t__law_row K10.t__law_row
  try simp only [f__law_cell_eq]
  walk_at "ix"
@[reducible] def f__law_row : Fn := loc t__law_row
theorem f__law_row_eq : K10.G.f__law_row = K10.f__law_row := by
  unfold K10.G.f__law_row K10.f__law_row
  rw [t__law_row_eq]
def t__law_nested : Fn := aDef 2
    (aSeq (aFor (aRg1 (aCons (aC (.int 4)) aNil)) (gNm 1) (aAsg (aTup (aCons (aLst (aCons (aVar 0) aNil)) aNil)) (gNm 0)))
    (aRet (aVar 0)))
theorem t__law_nested_eq : K10.G.t__law_nested = K10.t__law_nested := by
  unfold K10.G.t__law_nested K10.t__law_nested
  walk_at "ix"
@[reducible] def f__law_nested : Fn := loc t__law_nested
theorem f__law_nested_eq : K10.G.f__law_nested = K10.f__law_nested := by
  unfold K10.G.f__law_nested K10.f__law_nested
  rw [t__law_nested_eq]
def t__law_odd_columns : Fn := aDef 3
    (aSeq (aAsg (aLst (aCons (aC .non) (aCons (aLst aNil) (aCons (aTup aNil) (aCons (aC (.str "a text")) (aCons (aC (.int 5)) (aCons (aC (.bl true)) (aCons (aOp addA (aVar 1) (aLst (aCons (aOp (ixA tabs) (aVar 1) (aC (.int 0))) aNil))) (aCons (aOp addA (aVar 1) (aLst (aCons (aTup (aCons (aC (.str "a1")) (aCons (aC (.str "text")) aNil))) aNil))) (aCons (aOp addA (aVar 1) (aLst (aCons (aC .non) aNil))) aNil)))))))))) (gNm 2))
    (aSeq (aAsg (aOp addA (aVar 2) (aLst (aCons (aOp addA (aVar 1) (aLst (aCons (aTup (aCons (aC (.str "zz")) (aCons (aC (.str "Text")) aNil))) aNil))) (aCons (aOp addA (aVar 1) (aLst (aCons (aLst (aCons (aC (.str "zz")) (aCons (aC (.str "text")) aNil))) aNil))) (aCons (aOp addA (aVar 1) (aLst (aCons (aTup (aCons (aC (.str "zz")) (aCons (aC (.str "text")) (aCons (aC (.int 1)) aNil)))) aNil))) (aCons (aLst (aCons (aTup (aCons (aC (.str "zz")) aNil)) aNil)) aNil)))))) (gNm 2))
    (aSeq (aAsg (aOp addA (aVar 2) (aLst (aCons (aOp addA (aVar 1) (aLst (aCons (aTup (aCons (aC (.str "not")) (aCons (aC (.str "text")) aNil))) aNil))) (aCons (aOp addA (aVar 1) (aLst (aCons (aTup (aCons (aC (.str "abcde")) (aCons (aC (.str "number")) aNil))) aNil))) (aCons (aOp addA (aVar 1) (aLst (aCons (aTup (aCons (aC (.str "zz")) (aCons (aC .non) aNil))) aNil))) (aCons (aLst (aCons (aC (.str "zz")) aNil)) aNil)))))) (gNm 2))
    (aRet (aCall 2 f__law_pick [] (aCons (aVar 0) (aCons (aOp addA (aVar 2) (aLst (aCons (aLst (aCons (aTup (aCons (aC (.str "")) (aCons (aC (.str "text")) aNil))) aNil)) (aCons (aLst (aCons (aTup (aCons (aC (.int 1)) (aCons (aC (.str "text")) aNil))) aNil)) (aCons (aOp addA (aVar 1) (aLst (aCons (aTup (aCons (aC (.str "up")) (aCons (aC (.str "number")) aNil))) aNil))) (aCons (aCall 1 f__law_nested [] (aCons (aC (.int 3)) aNil)) aNil)))))) aNil)))))))
theorem t__law_odd_columns_eq : K10.G.t__law_odd_columns = K10.t__law_odd_columns := by
  unfold K10.G.t__law_odd_columns K10.t__law_odd_columns
  try simp only [f__law_pick_eq, f__law_nested_eq]
  walk_at "ix"
@[reducible] def f__law_odd_columns : Fn := loc t__law_odd_columns
theorem f__law_odd_columns_eq : K10.G.f__law_odd_columns = K10.f__law_odd_columns := by
  unfold K10.G.f__law_odd_columns K10.f__law_odd_columns
  rw [t__law_odd_columns_eq]
def t__law_rows : Fn := aDef 6
    (aSeq (aAsg (aLstC aNil) (gNm 3))
    (aSeq (aFor (aRg1 (aCons (aCall 2 f__law_take [] (aCons (aVar 0) (aCons (aOp addA (aVar 2) (aC (.int 1))) aNil))) aNil)) (gNm 4) (aSeq (aAsg (aAndV (aOp (dOp neD) (aVar 3) (aLst aNil)) (aOp (dOp eqD) (aCall 2 f__law_take [] (aCons (aVar 0) (aCons (aC (.int 4)) aNil))) (aC (.int 0)))) (gNm 5))
    (aExpr (aBM "list" appendA (aVar 3) (aCons (aIf (aTest (aVar 5)) (aCall 2 f__law_pick [] (aCons (aVar 0) (aCons (aVar 3) aNil))) (aCall 2 f__law_row [] (aCons (aVar 0) (aCons (aVar 1) aNil)))) aNil)))))
    (aRet (aVar 3))))
theorem t__law_rows_eq : K10.G.t__law_rows = K10.t__law_rows := by
  unfold K10.G.t__law_rows K10.t__law_rows
  try simp only [f__law_take_eq, f__law_pick_eq, f__law_row_eq]
  walk_at "ix"
@[reducible] def f__law_rows : Fn := loc t__law_rows
theorem f__law_rows_eq : K10.G.f__law_rows = K10.f__law_rows := by
  unfold K10.G.f__law_rows K10.f__law_rows
  rw [t__law_rows_eq]
def f_law : Fn := aDef 15
    (aSeq (aForC (aRg1 (aCons (aCB (dCB2 maxD) (aCons (aC (.int 1)) (aCons (aCB (dCB2 minD) (aCons (aC (.int 4)) (aCons (aCB (dCB1 lenD) (aCons (aVar 0) aNil)) aNil))) aNil))) aNil)) (gNm 1) (aSeq (aAsg (aCall 2 f__law_box [] (aCons (aVar 0) (aCons (aVar 1) aNil))) (gNm 2))
    (aForC (aRg1 (aCons (aC (.int 6)) aNil)) (gNm 3) (aSeq (aAsg (aCall 2 f__law_columns [] (aCons (aVar 2) (aCons (aOp addA (aC (.int 1)) (aCall 2 f__law_take [] (aCons (aVar 2) (aCons (aC (.int 3)) aNil)))) aNil))) (gNm 4))
    (aSeq (aAsg (aLcV (aIt (aCall 3 f__law_rows [] (aCons (aVar 2) (aCons (aVar 4) (aCons (aC (.int 5)) aNil))))) (gNm 6) aYes (aCB listC (aCons (aVar 6) aNil)) [6]) (gNm 5))
    (aSeq (aIfS (aTest (aOp (dOp isnotD) (aThaw [5] (aCall 2 f__law_told [] (aCons (aVar 4) (aCons (aVar 5) aNil)))) (aC .non))) (aRet (aC (.bl false))) aNext)
    (aSeq (aAsg (aLc (aRg1 (aCons (aC (.int 4)) aNil)) (gNm 8) aYes (aOp (dOp eqD) (aCall 2 f__law_take [] (aCons (aVar 2) (aCons (aC (.int 4)) aNil))) (aC (.int 0))) [8]) (gNm 7))
    (aSeq (aIfS (aAnd (aTest (aOp (ixA tabs) (aVar 7) (aC (.int 3)))) (aTest (aThaw [5] (aOp (dOp neD) (aVar 5) (aLst aNil))))) (aSeq (aPar 6 9 (aCons (aCall 2 t__law_pick [] (aCons (aVar 2) (aCons (aVar 5) aNil))) (aCons (aCall 2 f__law_take [] (aCons (aVar 2) (aCons (aCB (dCB1 lenD) (aCons (aVar 4) aNil)) aNil))) aNil)))
    (aAsg (aCall 2 f__law_odd_cell [] (aCons (aVar 2) (aCons (aOp (ixA tabs) (aOp (ixA tabs) (aVar 4) (aVar 9)) (aC (.int 1))) aNil))) (gIx (aVar 6) (aVar 9)))) aNext)
    (aSeq (aIfS (aTest (aOp (ixA tabs) (aVar 7) (aC (.int 2)))) (aSeq (aAsg (aCall 2 f__law_row [] (aCons (aVar 2) (aCons (aVar 4) aNil))) (gNm 6))
    (aSeq (aAsg (aCall 2 f__law_pick [] (aCons (aVar 2) (aCons (aLst (aCons (aOp addA (aVar 6) (aTup (aCons (aC .non) aNil))) (aCons (aSl (aVar 6) (aPart (aC (.int 1))) aNoPart) (aCons (aC .non) (aCons (aC (.int 5)) (aCons (aC (.str "a")) (aCons (aC (.bl true)) (aCons (aTup aNil) aNil)))))))) aNil))) (gNm 10))
    (aExpr (aBM "list" insertA (aVar 5) (aCons (aCall 2 f__law_take [] (aCons (aVar 2) (aCons (aOp addA (aThaw [5] (aCB (dCB1 lenD) (aCons (aVar 5) aNil))) (aC (.int 1))) aNil))) (aCons (aVar 10) aNil)))))) aNext)
    (aSeq (aAsg (aIf (aTest (aOp (ixA tabs) (aVar 7) (aC (.int 1)))) (aCall 2 f__law_pick [] (aCons (aVar 2) (aCons (aLst (aCons (aC .non) (aCons (aC (.str "rows")) (aCons (aC (.int 7)) (aCons (aC (.bl true)) (aCons (aOp (ixA tabs) (aOp (ixA tabs) (aVar 4) (aC (.int 0))) (aC (.int 0))) aNil)))))) aNil))) (aVar 5)) (gNm 11))
    (aSeq (aAsg (aIf (aTest (aOp (ixA tabs) (aVar 7) (aC (.int 0)))) (aCall 2 f__law_odd_columns [] (aCons (aVar 2) (aCons (aVar 4) aNil))) (aVar 4)) (gNm 12))
    (aSeq (aAsg (aLc (aZipM (aCons (aTup (aCons (aC (.str "columns")) (aCons (aC (.str "rows")) (aCons (aC (.str "row")) aNil)))) (aCons (aVar 7) aNil))) (gTp [(gNm 8), (gNm 14)]) (aTest (aVar 14)) (aVar 8) [8, 14]) (gNm 13))
    (aSeq (aAsg (aOp addA (aVar 13) (aOp mulA (aLst (aCons (aC (.str "cell")) aNil)) (aCB (dCB1 intD) (aCons (aAndV (aOp (ixA tabs) (aVar 7) (aC (.int 3))) (aAndV (aThaw [5] (aOp (dOp neD) (aVar 5) (aLst aNil))) (aOp (dOp eqD) (aVar 13) (aLst aNil)))) aNil)))) (gNm 13))
    (aIfS (aTest (aOp (dOp neD) (aThaw [11] (aCall 2 f__law_told [] (aCons (aVar 12) (aCons (aVar 11) aNil)))) (aOp (ixA tabs) (aOp addA (aVar 13) (aLst (aCons (aC .non) aNil))) (aC (.int 0))))) (aRet (aC (.bl false))) aNext))))))))))))))
    (aRet (aC (.bl true))))
theorem f_law_eq : K10.G.f_law = K10.f_law := by
  unfold K10.G.f_law K10.f_law
  try simp only [f__law_box_eq, f__law_take_eq, t__law_pick_eq, f__law_pick_eq, f__law_columns_eq, f__law_told_eq, f__law_odd_cell_eq, f__law_row_eq, f__law_odd_columns_eq, f__law_rows_eq]
  walk_at "ix"
end K10.G

set_option Elab.async false
set_option linter.all false
set_option autoImplicit false
set_option maxRecDepth 100000
set_option maxHeartbeats 2000000
namespace Fx
open PySem L2 PyProof.Rows
/-! ## what repr tells of cells -/
/-- what repr tells -/
def tx : D → Str
  | .non => "None"
  | .int i => Str.ofString (toString i)
  | .str s => reprText s
  | _ => ""
/-! ## ahead -/
/-! ## signs in both cases -/
end Fx

set_option Elab.async false
set_option linter.all false
set_option autoImplicit false
set_option maxRecDepth 100000
set_option maxHeartbeats 2000000
namespace Fx
open PySem PySem.Spec PyProof.Rows L2
/-! ## numbers as texts -/
end Fx

set_option Elab.async false
set_option linter.all false
set_option autoImplicit false
set_option maxRecDepth 100000
set_option maxHeartbeats 2000000
namespace Fx
open PySem PySem.Spec PyProof.Rows L2
/-! ## repr of nested data has a text -/
end Fx
namespace Fx
open PySem L2
end Fx

set_option Elab.async false
set_option linter.all false
set_option autoImplicit false
set_option maxRecDepth 100000
set_option maxHeartbeats 2000000
namespace Fx
open PySem PySem.Spec PyProof.Rows L2
/-! ## any text split and joined -/
/-! ## letters, then blanks -/
end Fx

set_option Elab.async false
set_option linter.all false
set_option autoImplicit false
set_option maxRecDepth 100000
set_option maxHeartbeats 0
namespace K10.G
open PySem L2
open Fx hiding aC aVar aOp aNil aCons aTest aAnd aOr aNot aYes aAndV aOrV aNotV aNeg aIf aChain aLst aLstC aTup aCB aFld aCall aMake aMakeC aMeth aBM aBM0 aBMd aSl aPart aNoPart aNext aSeq aAsg aRet aRetN aExpr aIfS aPar aBreak aCont aNever aDput aFor aForC aWhile aIt aRg1 aRg2 aItems aLstRg aLc aDisp aDispS aDef aDefC dOp addA ixA dCB1 dCB2 dBM0 dBM1 isiA listA listC tupleA dictC appendA updateA aDnew pairsA aMethKW aMakeKW aRaise aTry aXF isxA aZip aLcC aCall0 aMeth0 eqX strX aCM aMakeL aTryF aStar inG popA insertA splitC eqK aOwn aAugO isiT aRaise0 isxZ aRev aZipM aEnum aFmt aJoins aFstr aLcK listB aThaw aLcV mulA s_c s_var s_varI s_varC s_op s_dop s_nil s_cons s_test s_and s_or s_not s_yes s_andV s_orV s_notV s_neg s_if s_lst s_lstC s_tup s_cb s_cb1 s_cb2 s_fld s_call s_meth s_bm s_bm0 s_bm1 s_bmz s_isi s_sl s_nopart s_part s_next s_seq s_asg s_set s_ret s_retN s_expr s_ifS s_par s_dput s_pairs0 s_pairs s_disp s_rg1 s_rg2 s_it s_for s_forC s_lc s_def s_defC s_make s_varB s_varF s_addI s_addS s_addL s_addT s_subI s_mulI s_mulS s_fdivI s_modI s_powI s_ltI s_leI s_gtI s_geI s_ltS s_eqI s_eqS s_neI s_neS s_eqB' s_neB s_isN s_isnotN s_isB s_isnotB s_absI s_intI s_intB s_lenL s_lenT s_lenR s_lenS s_ixC s_ixL s_ixT s_ixR s_ixS s_ixD s_ixG s_asgIx s_intB2 s_ixR2 s_ixL2 s_make2 s_forU s_items s_inT s_inL s_dispS s_fld2 s_bare s_lcM s_methKW s_makeKW s_bmd s_update s_zip s_raise s_try s_xf s_isx s_lcC s_asgIxG s_makeX s_ixK s_lcF s_lcCM s_call0 s_meth0 s_cm s_makeL s_tryF s_eqXo s_eqXd s_strXo s_star s_inG s_pop s_insert s_splitC s_eqK s_isiT s_own s_augO s_raise0 s_isz s_rev s_append s_zipM s_chain s_lcP s_tupI s_lcR s_enum s_fmt s_fmtS s_fmtI s_joins0 s_joins s_fstr s_lcKP s_bareW s_listS s_listT s_thaw0 s_thaw s_lcV s_mulL
open Ix
theorem guardEx {α : Type} {p : α → Prop} (h : ∃ x, p x) : ∃ x, p x := h
theorem guardAnd {p q : Prop} (h : p ∧ q) : p ∧ q := h
theorem gVar {δ : Sta} {Ψ : SV → Sta → Prop} {Ξ : Xn → Sta → Prop} {i : Nat} (h : (aVar i δ).sat Ψ Ξ) : (aVar i δ).sat Ψ Ξ := h
theorem gInG {δ : Sta} {Ψ : SV → Sta → Prop} {Ξ : Xn → Sta → Prop} {tabs : Tabs} {neg : Bool} {f : D → D → Option D} {s u : SV} (h : (inG tabs neg f s u δ).sat Ψ Ξ) : (inG tabs neg f s u δ).sat Ψ Ξ := h
theorem gEqK {δ : Sta} {Ψ : SV → Sta → Prop} {Ξ : Xn → Sta → Prop} {neg : Bool} {f : D → D → Option D} {s u : SV} (h : (eqK neg f s u δ).sat Ψ Ξ) : (eqK neg f s u δ).sat Ψ Ξ := h
theorem gIsx {δ : Sta} {Ψ : SV → Sta → Prop} {Ξ : Xn → Sta → Prop} {tab : Isi} {ss : List SV} (h : (isxA tab ss δ).sat Ψ Ξ) : (isxA tab ss δ).sat Ψ Ξ := h
theorem gIxA {δ : Sta} {Ψ : SV → Sta → Prop} {Ξ : Xn → Sta → Prop} {tabs : Tabs} {s u : SV} (h : (ixA tabs s u δ).sat Ψ Ξ) : (ixA tabs s u δ).sat Ψ Ξ := h
theorem gIsi {δ : Sta} {Ψ : SV → Sta → Prop} {Ξ : Xn → Sta → Prop} {isi : Isi} {ss : List SV} (h : (isiA isi ss δ).sat Ψ Ξ) : (isiA isi ss δ).sat Ψ Ξ := h
theorem gDop {δ : Sta} {Ψ : SV → Sta → Prop} {Ξ : Xn → Sta → Prop} {f : D → D → Option D} {s u : SV} (h : (dOp f s u δ).sat Ψ Ξ) : (dOp f s u δ).sat Ψ Ξ := h
theorem gBmz {δ : Sta} {Ψ : SV → Sta → Prop} {Ξ : Xn → Sta → Prop} {f : D → Option D} {s : SV} {ss : List SV} (h : (dBM0 f s ss δ).sat Ψ Ξ) : (dBM0 f s ss δ).sat Ψ Ξ := h
theorem gCb1 {δ : Sta} {Ψ : SV → Sta → Prop} {Ξ : Xn → Sta → Prop} {f : D → Option D} {ss : List SV} (h : (dCB1 f ss δ).sat Ψ Ξ) : (dCB1 f ss δ).sat Ψ Ξ := h
theorem gIsT {δ : Sta} {Ψ : SV → Sta → Prop} {Ξ : Xn → Sta → Prop} {isi : Isi} {ss : List SV} (h : (isiT isi ss δ).sat Ψ Ξ) : (isiT isi ss δ).sat Ψ Ξ := h
theorem gIsZ {δ : Sta} {Ψ : SV → Sta → Prop} {Ξ : Xn → Sta → Prop} {tab : Isi} {ss : List SV} (h : (isxZ tab ss δ).sat Ψ Ξ) : (isxZ tab ss δ).sat Ψ Ξ := h
theorem bool_and {b : Bool} {P Q : Prop} (h1 : b = true → P) (h2 : b = false → Q) : (b = true → P) ∧ (b = false → Q) := ⟨h1, h2⟩
theorem gRetF {ce c : List CO} {s : SV} {Ψ : SV → List CO → Prop} {Ξ : Xn → List CO → Prop} (h : (retF ce s c).sat Ψ Ξ) : (retF ce s c).sat Ψ Ξ := h
local macro_rules | `(tactic| walk_at "nm") => `(tactic| try (conv => arg 1; arg -1; dsimp only [List.set, List.cons_append, List.nil_append, List.append, List.replicate, List.length_cons, List.length_nil, Nat.reduceAdd, Nat.reduceSub, List.map]))
local macro_rules | `(tactic| walk_at "nc") => `(tactic| try (conv => arg 1; dsimp only [List.set, List.cons_append, List.nil_append, List.append, List.replicate, List.length_cons, List.length_nil, Nat.reduceAdd, Nat.reduceSub, List.map]))
local macro_rules | `(tactic| walk_at "s") => `(tactic| first
  | with_reducible refine s_c ?_
  | ((with_reducible refine gVar ?_); (with_reducible apply s_varI); rfl)
  | ((with_reducible refine gVar ?_); (with_reducible apply s_varB); rfl; rfl)
  | ((with_reducible refine gVar ?_); (with_reducible apply s_varF); rfl; rfl)
  | with_reducible refine s_op ?_
  | with_reducible refine s_nil ?_
  | ((with_reducible refine s_thaw0 ?_ ?_); rfl)
  | with_reducible refine s_chain ?_
  | with_reducible refine s_raise0 ?_
  | with_reducible refine s_rev ?_
  | with_reducible refine s_zipM ?_
  | with_reducible refine s_enum ?_
  | with_reducible refine s_fmt ?_
  | with_reducible refine s_fstr ?_
  | with_reducible refine s_joins0 ?_
  | with_reducible refine s_joins ?_
  | ((with_reducible refine gIsT ?_); (with_reducible apply s_isiT); rfl; rfl)
  | ((with_reducible refine gIsZ ?_); (with_reducible apply s_isz); rfl; rfl; rfl; rfl)
  | with_reducible refine s_cons ?_
  | with_reducible refine s_star ?_
  | with_reducible refine s_test ?_
  | with_reducible refine s_and ?_
  | with_reducible refine s_or ?_
  | with_reducible refine s_not ?_
  | with_reducible refine s_yes ?_
  | with_reducible refine s_andV ?_
  | with_reducible refine s_orV ?_
  | with_reducible refine s_notV ?_
  | with_reducible refine s_neg ?_
  | with_reducible refine s_if ?_
  | with_reducible refine s_lst ?_
  | with_reducible refine s_lstC ?_
  | with_reducible refine s_tup ?_
  | with_reducible refine s_cb ?_
  | with_reducible refine s_fld2 ?_
  | with_reducible refine s_call ?_
  | with_reducible refine s_meth ?_
  | with_reducible refine s_bm ?_
  | with_reducible refine s_bm0 ?_
  | with_reducible refine s_bmd ?_
  | with_reducible refine s_methKW ?_
  | with_reducible refine s_makeKW ?_
  | with_reducible refine s_bm1 ?_
  | with_reducible refine s_sl ?_
  | with_reducible refine s_part ?_
  | with_reducible refine s_nopart ?_
  | with_reducible refine s_next ?_
  | ((with_reducible refine s_seq ?_); walk_at "nm")
  | ((with_reducible refine s_set ?_); walk_at "nm")
  | ((with_reducible refine s_ret ?_); walk_at "nm")
  | ((with_reducible refine s_ifS ?_); walk_at "nm")
  | with_reducible refine s_asgIx ?_
  | with_reducible refine s_call0 ?_
  | with_reducible refine s_meth0 ?_
  | with_reducible refine s_cm ?_
  | ((with_reducible refine s_makeL ?_ ?_); rfl)
  | ((with_reducible refine s_eqXd ?_ ?_); rfl)
  | ((with_reducible refine gInG ?_); (with_reducible apply s_inG); rfl)
  | ((with_reducible refine gEqK ?_); (with_reducible apply s_eqK); rfl; rfl; exact ⟨rfl, rfl⟩)
  | with_reducible refine s_asgIxG ?_
  | with_reducible refine s_raise ?_
  | with_reducible refine s_try ?_
  | with_reducible refine s_tryF ?_
  | with_reducible refine s_xf ?_
  | with_reducible refine s_zip ?_
  | ((with_reducible refine s_addL ?_ ?_); exact Nat.le_of_ble_eq_true rfl)
  | ((with_reducible refine gIsx ?_); (with_reducible apply s_isx); rfl; rfl; rfl; rfl)
  | ((with_reducible refine s_asg ?_); walk_at "nm")
  | with_reducible refine s_retN ?_
  | with_reducible refine s_expr ?_
  | with_reducible refine s_par ?_
  | with_reducible refine s_dput ?_
  | with_reducible refine s_disp ?_
  | with_reducible refine s_pairs ?_
  | with_reducible refine s_pairs0 ?_
  | with_reducible refine s_rg1 ?_
  | with_reducible refine s_rg2 ?_
  | with_reducible refine s_it ?_
  | with_reducible refine s_addI ?_
  | with_reducible refine s_subI ?_
  | with_reducible refine s_ltI ?_
  | with_reducible refine s_leI ?_
  | with_reducible refine s_gtI ?_
  | with_reducible refine s_geI ?_
  | with_reducible refine s_eqI ?_
  | with_reducible refine s_eqS ?_
  | with_reducible refine s_neI ?_
  | with_reducible refine s_neS ?_
  | with_reducible refine s_eqB' ?_
  | with_reducible refine s_neB ?_
  | with_reducible refine s_isN ?_
  | with_reducible refine s_isnotN ?_
  | with_reducible refine s_isB ?_
  | with_reducible refine s_isnotB ?_
  | with_reducible refine s_absI ?_
  | with_reducible refine s_intI ?_
  | with_reducible refine s_intB2 ?_
  | with_reducible refine s_lenL ?_
  | with_reducible refine s_lenT ?_
  | with_reducible refine s_lenR ?_
  | with_reducible refine s_cb2 ?_
  | with_reducible refine s_dispS ?_
  | with_reducible refine s_items ?_
  | with_reducible refine s_makeX ?_
  | ((with_reducible refine s_mulI ?_ ?_); first | exact .inr (by decide) | exact .inl (by decide) | omega)
  | ((with_reducible refine s_fdivI ?_ ?_); first | decide | omega | assumption)
  | ((with_reducible refine s_modI ?_ ?_); first | decide | omega)
  | ((with_reducible refine s_powI ?_ ?_); decide)
  | ((with_reducible refine gIxA ?_); (with_reducible apply s_ixC); rfl; rfl)
  | ((with_reducible refine gIxA ?_); (with_reducible apply s_ixK); rfl; rfl)
  | ((with_reducible refine s_ixR2 ?_ ?_ (fun _ => ?_)); (first | omega | exact Int.emod_nonneg _ (by omega)); (first | omega | exact Int.emod_lt_of_pos _ (by omega)))
  | ((with_reducible refine gIxA ?_); (with_reducible apply s_ixL); rfl)
  | ((with_reducible refine gIxA ?_); (with_reducible apply s_ixT); rfl)
  | ((with_reducible refine gIxA ?_); (with_reducible apply s_ixD); rfl; rfl)
  | ((with_reducible refine gIxA ?_); (with_reducible apply s_ixG); rfl)
  | ((with_reducible refine guardEx ?_); first | refine ⟨_, rfl, ?_⟩ | refine ⟨_, _, _, _, _, _, _, _, _, _, rfl, rfl, rfl, rfl, rfl, ?_⟩ | refine ⟨_, .inl rfl, ?_⟩ | refine ⟨_, .inr rfl, ?_⟩ | refine ⟨_, _, rfl, ?_⟩ | refine ⟨_, _, rfl, rfl, ?_⟩ | refine ⟨_, _, _, rfl, rfl, rfl, Nat.le_of_ble_eq_true rfl, ?_⟩ | refine ⟨_, _, _, rfl, rfl, rfl, ?_⟩ | refine ⟨_, _, rfl, rfl, by decide, ?_⟩ | refine ⟨_, _, _, rfl, rfl, ?_⟩)
  | ((with_reducible refine guardAnd ?_); first | refine ⟨rfl, ?_⟩ | refine ⟨rfl, Nat.le_of_ble_eq_true rfl, ?_⟩ | refine ⟨Nat.le_of_ble_eq_true rfl, _, rfl, ?_⟩ | refine ⟨Nat.le_of_ble_eq_true rfl, ?_⟩ | refine ⟨⟨Nat.le_of_ble_eq_true rfl, rfl⟩, ?_⟩ | refine ⟨fun _ z => D.noConfusion z, ?_⟩ | refine ⟨⟨by omega, by omega⟩, ?_⟩)
  | ((with_reducible refine gIsi ?_); (with_reducible apply s_isi); rfl; rfl; rfl; rfl)
  | ((with_reducible refine s_inT ?_ ?_); exact ⟨rfl, rfl⟩)
  | ((with_reducible refine s_inL ?_ ?_); exact ⟨rfl, rfl⟩)
  | ((with_reducible refine gDop ?_); (with_reducible apply s_dop); rfl; rfl; assumption)
  | ((with_reducible refine gBmz ?_); (with_reducible apply s_bmz); rfl; assumption)
  | ((with_reducible refine gCb1 ?_); (with_reducible apply s_cb1); rfl; assumption)
  | ((with_reducible refine gRetF ?_); (with_reducible apply s_retFz); exact Nat.lt_irrefl _; rfl; first | exact cutTo_box (fun _ => rfl) | exact cutTo_last (pre := [_]) (fun _ => rfl))
  | ((with_reducible refine gRetF ?_); (with_reducible apply s_retF); exact cutTo_same (Nat.le_of_ble_eq_true rfl))
  | ((with_reducible refine gRetF ?_); (with_reducible apply s_retF); exact cutTo_same (Nat.le_refl _)))
local macro_rules | `(tactic| walk_at "b") => `(tactic| first | ((with_reducible refine tr_and ?_ ?_); assumption) | ((with_reducible refine fl_and ?_ ?_); assumption) | ((with_reducible refine ntr_and ?_ ?_); assumption) | ((with_reducible refine nfl_and ?_ ?_); assumption) | with_reducible refine dec_andN (fun hno => absurd rfl hno) (fun _ => ?_) | ((with_reducible refine tr_and ?_ ?_); rfl) | ((with_reducible refine fl_and ?_ ?_); rfl) | with_reducible refine dec_and (fun hyes => ?_) (fun hno => ?_) | with_reducible refine dec_andN (fun hno => ?_) (fun hyes => ?_) | with_reducible refine bool_and (fun hyes => ?_) (fun hno => ?_))
local macro_rules | `(tactic| walk_at "w") => `(tactic| try dsimp only [outS, wrB, setAll, outO, outK, bkI, List.set, List.cons_append, List.nil_append, List.append, List.replicate, List.length_cons, List.length_nil, Nat.reduceAdd, Nat.reduceSub, List.map, List.getElem?_cons_zero, List.getElem?_cons_succ, List.getElem?_nil, Nat.add_zero, Nat.zero_add])
local macro_rules | `(tactic| walk_at "go") => `(tactic| (walk_at "w"; (repeat' (first | walk_at "s" | walk_at "b")) <;> walk_at "nc"))
/-- the box -/
abbrev bx (a b n : Int) : CO := .lst [.im (.int a), .im (.int b), .im (.int n)]
theorem p_take {a b n m : Int} {Ψ : SV → List CO → Prop} {Ξ : Xn → List CO → Prop} (h0 : 0 < m) (h1 : m < 1073741824)
    (h : ∀ k a' b' n' : Int, 0 ≤ k → k < m → Ψ (.im (.int k)) [bx a' b' n']) : (t__law_take [.cl 0, .im (.int m)] [bx a b n]).sat Ψ Ξ := by
  refine s_def ?_
  walk_at "go"
  all_goals exact h _ _ _ _ (Int.emod_nonneg _ (by omega)) (Int.emod_lt_of_pos _ h0)
theorem p_pick {a b n : Int} {ds : List D} {Ψ : SV → List CO → Prop} {Ξ : Xn → List CO → Prop} (h0 : 0 < ds.length) (h1 : ds.length < 1000)
    (h : ∀ (d : D) (a' b' n' : Int), d ∈ ds → Ψ (.im d) [bx a' b' n']) : (t__law_pick [.cl 0, .im (.lst ds)] [bx a b n]).sat Ψ Ξ := by
  refine s_def ?_
  walk_at "go"
  refine lq [0] rfl rfl rfl (p_take (by omega) (by omega) fun k a' b' n' k0 k1 => ?_)
  obtain ⟨x, hx, hm⟩ := atI_get k0 k1
  walk_at "go"
  refine s_ixL hx ?_
  walk_at "go"
  exact h _ _ _ _ hm
theorem p_box {ns : List Int} {k : Int} {Ψ : SV → List CO → Prop} {Ξ : Xn → List CO → Prop} (hk : 0 ≤ k)
    (h : ∀ a' b' n' : Int, Ψ (.cl 0) [bx a' b' n']) : (t__law_box [.im (.scr ns), .im (.int k)] []).sat Ψ Ξ := by
  refine s_defC ?_
  walk_at "go"
  all_goals (show (retC [] (SV.cl 0) [bx _ _ _]).sat Ψ Ξ; exact s_retC (Nat.le_refl 0) rfl rfl rfl (h _ _ _))
theorem eq_sat {F : Fn} {ss : List SV} {ce : List CO} {v : SV} (h : (F ss ce).sat (fun s c => s = v ∧ c = ce) fun _ _ => False) : F ss ce = .ok v ce := by
  obtain ⟨c, e, rfl⟩ := eq_of_sat h
  exact e
/-- one of the kinds of values at hand -/
def kindV : D → Bool
  | .non => true | .bl _ => true | .int _ => true | .str s => decide (s.length ≤ 100000) | .lst _ => true | .tup _ => true | _ => false
theorem kind_str {s : Str} (h : kindV (.str s) = true) : s.length ≤ 100000 := of_decide_eq_true h
def isSeqV : D → Bool
  | .lst _ => true | .tup _ => true | _ => false
def isIntV : D → Bool
  | .int _ => true
  | _ => false
def isNumV : D → Bool
  | .int i => decide (-1000000 ≤ i) && decide (i ≤ 1000000)
  | _ => false
theorem is_sequence_eq {v : D} (hv : kindV v = true) (ce : List CO) : f_is_sequence [.im v] ce = .ok (.im (.bl (isSeqV v))) ce := loc_im (eq_sat (by
  cases v <;> first | exact Bool.noConfusion (show false = true from hv) | (refine s_def ?_; walk_at "go"; try exact ⟨rfl, rfl⟩)))
theorem is_integer_eq {v : D} (hv : kindV v = true) (ce : List CO) : f_is_integer [.im v] ce = .ok (.im (.bl (isIntV v))) ce := loc_im (eq_sat (by
  cases v <;> first | exact Bool.noConfusion (show false = true from hv) | (refine s_def ?_; walk_at "go"; try exact ⟨rfl, rfl⟩)))
theorem is_number_eq {v : D} (hv : kindV v = true) (ce : List CO) : f_is_number [.im v] ce = .ok (.im (.bl (isNumV v))) ce := loc_im (eq_sat (by
  refine s_def ?_
  walk_at "go"
  refine sat_of_eq (is_integer_eq hv _) ?_
  cases v <;> first
    | exact Bool.noConfusion (show false = true from hv)
    | (walk_at "go"; all_goals first | done | exact ⟨rfl, rfl⟩ | (refine ⟨?_, rfl⟩; simp [isNumV, *]))))
theorem wipe_len : ∀ (vs : List Nat) (sl : List SV), (wipeS sl vs).length = sl.length
  | [], sl => rfl
  | v :: vs, sl => by
    show ((wipeS sl vs).set v .no).length = _
    rw [List.length_set, wipe_len vs]
theorem set_at {l : List SV} {i : Nat} {x : SV} (h : i < l.length) : (l.set i x)[i]? = some x := by rw [List.getElem?_set_self h]
/-- [c in t for c in a] -/
theorem p_allIn {δ : Sta} {a : AE} {i : Nat} {t : Str} {Ψ : SV → Sta → Prop} {Ξ : Xn → Sta → Prop} (h : (a δ).sat (fun s δ1 => ∃ z : Str, s = .im (.str z) ∧ z.length ≤ 100000 ∧ i < δ1.sl.length ∧ Ψ (.im (.lst (z.cps.toList.map fun c => .bl (decide (c ∈ t.cps.toList))))) δ1) Ξ) : (aLc (aIt a) (gNm i) aYes (aOp (dOp inD) (aVar i) (aC (.str t))) [i] δ).sat Ψ Ξ := by
  refine s_lcP (fun d => match inD d (.str t) with | some x => x | none => .non) (s_it (Out.sat_mono h (fun s δ1 ⟨z, e, hz, hi, h1⟩ => ⟨.str z, _, e, rfl, ?_, fun d hd => ?_, ?_⟩) fun _ _ z => z))
  · show (z.cps.toList.map _).length ≤ _
    rw [List.length_map]
    exact hz
  · obtain ⟨c, _, rfl⟩ := List.mem_map.mp (show d ∈ z.cps.toList.map fun c => D.str ⟨#[c]⟩ from hd)
    refine ⟨_, rfl, ?_, rfl⟩
    refine s_op (s_varI (set_at (by rw [wipe_len]; exact hi)) (s_c (s_dop rfl rfl (inD_one c t) ⟨?_, rfl⟩)))
    rw [inD_one]
  · have e2 : (chsD z).map (fun d => match inD d (.str t) with | some x => x | none => .non) = z.cps.toList.map fun c => .bl (decide (c ∈ t.cps.toList)) := by
      unfold chsD
      rw [List.map_map]
      refine List.map_congr_left fun c _ => ?_
      show (match inD (.str ⟨#[c]⟩) (.str t) with | some x => x | none => .non) = _
      rw [inD_one]
    rw [e2]
    exact h1
def lettersS : Str := "abcdefghijklmnopqrstuvwxyzABCDEFGHIJKLMNOPQRSTUVWXYZ"
def smallS : Str := "abcdefghijklmnopqrstuvwxyz"
def allIn (z t : Str) : Bool := z.cps.toList.all fun c => decide (c ∈ t.cps.toList)
def isTextS (s : Str) : Bool := decide (s.length ≤ 10) && allIn (Txt.rstripChars s " ") lettersS
def isTextV : D → Bool
  | .str s => isTextS s
  | _ => false
def barD : List D := [.str "is", .str "and", .str "or", .str "not", .str "as", .str "up", .str "down"]
def isNameS (s : Str) : Bool := decide (1 ≤ s.length) && decide (s.length ≤ 4) && !inF (.str s) barD && allIn s smallS
def isNameV : D → Bool
  | .str s => isNameS s
  | _ => false
theorem rstrip_len (s : Str) : (Txt.rstripChars s " ").length ≤ s.length := by
  rw [rstrip_bare]
  exact bare_len s
theorem is_text_eq {v : D} (hv : kindV v = true) (ce : List CO) : f_is_text [.im v] ce = .ok (.im (.bl (isTextV v))) ce := loc_im (eq_sat (by
  refine s_def ?_
  cases v <;> first
    | exact Bool.noConfusion (show false = true from hv)
    | (walk_at "go"; done)
    | (walk_at "go"; exact ⟨rfl, rfl⟩)
    | skip
  rename_i s
  have hl := kind_str hv
  have hr := rstrip_len s
  walk_at "go"
  refine s_lenS (by omega) ?_
  walk_at "go"
  · rename_i hy
    refine ⟨?_, rfl⟩
    have : ¬ s.length ≤ 10 := by omega
    simp [isTextV, isTextS, this]
  · rename_i hn
    refine p_allIn ?_
    walk_at "go"
    refine s_dop (d := .str (Txt.rstripChars s " ")) rfl rfl (if_pos ?_) ?_
    · omega
    · refine ⟨_, rfl, by omega, Nat.le_of_ble_eq_true rfl, ?_⟩
      walk_at "go"
      refine s_cb1 rfl (all_map _ _) ?_
      walk_at "go"
      refine ⟨?_, rfl⟩
      have : s.length ≤ 10 := by omega
      simp only [isTextV, isTextS, this, decide_true, Bool.true_and]
      rfl))
theorem is_name_eq {v : D} (hv : kindV v = true) (ce : List CO) : f_is_name [.im v] ce = .ok (.im (.bl (isNameV v))) ce := loc_im (eq_sat (by
  refine s_def ?_
  cases v <;> first
    | exact Bool.noConfusion (show false = true from hv)
    | (walk_at "go"; done)
    | (walk_at "go"; exact ⟨rfl, rfl⟩)
    | skip
  rename_i s
  have hl := kind_str hv
  walk_at "go"
  refine s_lenS (by omega) ?_
  walk_at "go"
  · rename_i h4
    refine ⟨?_, rfl⟩
    have h4' : ¬ s.length ≤ 4 := by omega
    simp [isNameV, isNameS, h4']
  · rename_i hb
    refine ⟨?_, rfl⟩
    simp [isNameV, isNameS, barD, hb]
  · rename_i h1 h4 hb
    refine p_allIn ?_
    walk_at "go"
    refine ⟨hl, Nat.le_of_ble_eq_true rfl, ?_⟩
    walk_at "go"
    refine s_cb1 rfl (all_map _ _) ?_
    walk_at "go"
    refine ⟨?_, rfl⟩
    have h1' : 1 ≤ s.length := by omega
    have h4' : s.length ≤ 4 := by omega
    simp only [isNameV, isNameS, barD, hb, h1', h4', decide_true, Bool.true_and, Bool.not_false, Bool.and_true]
    rfl
  · rename_i h1
    refine ⟨?_, rfl⟩
    have h1' : ¬ 1 ≤ s.length := by omega
    simp [isNameV, isNameS, h1']))
def isOfSort (v : D) (t : Str) : Bool := if t = "text" then isTextV v else isNumV v
theorem is_of_sort_eq {v : D} {t : Str} (hv : kindV v = true) (ce : List CO) : f_is_of_sort [.im v, .im (.str t)] ce = .ok (.im (.bl (isOfSort v t))) ce := loc_im (eq_sat (by
  refine s_def ?_
  walk_at "go"
  · rename_i e
    refine sat_of_eq (is_text_eq hv _) ?_
    walk_at "go"
    exact ⟨by simp [isOfSort, e], rfl⟩
  · rename_i e
    refine sat_of_eq (is_number_eq hv _) ?_
    walk_at "go"
    exact ⟨by simp [isOfSort, e], rfl⟩))
/-- a column -/
structure Col where
  name : Str
  sort : Str
@[reducible] def colD (c : Col) : D := .tup [.str c.name, .str c.sort]
def cellOk (c : Col) (d : D) : Bool := match d with
  | .non => true
  | d => isOfSort d c.sort
def rowOk : List Col → List D → Bool
  | c :: cs, d :: ds => cellOk c d && rowOk cs ds
  | _, _ => true
theorem isNon_eq {d : D} (h : Fx.isNon d = true) : d = .non := by
  cases d <;> first | rfl | exact Bool.noConfusion (show false = true from h)
theorem zip_cols : ∀ (ds : List D) (cs : List Col), zipD ds (cs.map colD) = (ds.zip cs).map fun p => D.tup [p.1, colD p.2]
  | [], _ => rfl
  | _ :: _, [] => rfl
  | d :: ds, c :: cs => by
    show D.tup [d, colD c] :: zipD ds (cs.map colD) = _
    rw [zip_cols ds cs]
    rfl
theorem rowOk_zip : ∀ (cs : List Col) (ds : List D), rowOk cs ds = (ds.zip cs).all fun p => cellOk p.2 p.1
  | [], ds => by cases ds <;> rfl
  | c :: cs, [] => rfl
  | c :: cs, d :: ds => by
    show (cellOk c d && rowOk cs ds) = _
    rw [rowOk_zip cs ds]
    rfl
theorem is_row_eq {x y : D} {k j : Bool} {cs : List Col} {ds : List D} (hx : seqD x = some (k, cs.map colD)) (hy : seqD y = some (j, ds)) (hk : ∀ d ∈ ds, kindV d = true) (hl : ds.length ≤ 100000) (ce : List CO) : f_is_row [.im x, .im y] ce = .ok (.im (.bl (rowOk cs ds))) ce := loc_im (eq_sat (by
  refine s_def ?_
  walk_at "go"
  refine s_lcP (fun d => match d with | .tup [d, .tup [.str n, .str t]] => .bl (cellOk ⟨n, t⟩ d) | _ => .non) ?_
  walk_at "go"
  refine ⟨_, _, _, _, _, _, j, ds, k, cs.map colD, rfl, rfl, rfl, hy, hx, ?_, fun d hd => ?_, ?_⟩
  · rw [zipD_len]; omega
  · rw [zip_cols] at hd
    obtain ⟨⟨v, c⟩, hp, rfl⟩ := List.mem_map.mp hd
    have hv := hk v (List.of_mem_zip hp).1
    refine ⟨_, rfl, ?_, rfl⟩
    walk_at "go"
    · rename_i hn
      rw [isNon_eq hn]
      exact ⟨rfl, rfl⟩
    · rename_i hn
      refine sat_of_eq (is_of_sort_eq hv _) ?_
      refine ⟨?_, rfl⟩
      cases v <;> first | exact Bool.noConfusion (show true = false from hn) | rfl
  · walk_at "go"
    rw [zip_cols, List.map_map]
    refine s_cb1 rfl (all_map (fun (p : D × Col) => cellOk p.2 p.1) (ds.zip cs)) ?_
    walk_at "go"
    exact ⟨by rw [rowOk_zip], rfl⟩))
abbrev xTab (w : Str) : Xn := ⟨.own "InvalidTable", [("word", .im (.str w))]⟩
def rowLen (n : Nat) (r : D) : Bool := match seqD r with
  | some (_, ds) => decide (ds.length = n)
  | none => false
def rowV (cs : List Col) (r : D) : Bool := match seqD r with
  | some (_, ds) => rowOk cs ds
  | none => false
/-- what is at hand is of the known kinds, two deep -/
structure Deep (y : D) : Prop where
  kind : kindV y = true
  rows : ∀ j rs, seqD y = some (j, rs) → rs.length ≤ 1000 ∧ ∀ r ∈ rs, kindV r = true ∧ ∀ i ds, seqD r = some (i, ds) → ds.length ≤ 1000 ∧ ∀ d ∈ ds, kindV d = true
theorem seq_kind {x : D} {k : Bool} {l : List D} (h : seqD x = some (k, l)) : kindV x = true ∧ isSeqV x = true ∧ lenD x = some (.int l.length) ∧ itD x = some l := by
  cases x with
  | lst _ => cases h; exact ⟨rfl, rfl, rfl, rfl⟩
  | tup _ => cases h; exact ⟨rfl, rfl, rfl, rfl⟩
  | _ => cases h
theorem seq_none {x : D} (h : seqD x = none) : isSeqV x = false := by cases x <;> first | rfl | cases h
theorem p_need_rows {x y : D} {k : Bool} {cs : List Col} (hx : seqD x = some (k, cs.map colD)) (hd : Deep y) {Ψ : SV → List CO → Prop} {Ξ : Xn → List CO → Prop}
    (h0 : ∀ j rs, seqD y = some (j, rs) → rs.all (rowLen cs.length) = true → rs.all (rowV cs) = true → Ψ (.im .non) [])
    (h1 : seqD y = none → Ξ (xTab "rows") []) (h2 : ∀ j rs, seqD y = some (j, rs) → rs.all (rowLen cs.length) = false → Ξ (xTab "row") [])
    (h3 : ∀ j rs, seqD y = some (j, rs) → rs.all (rowLen cs.length) = true → rs.all (rowV cs) = false → Ξ (xTab "cell") []) : (t_need_rows [.im x, .im y] []).sat Ψ Ξ := by
  obtain ⟨_, _, xl, _⟩ := seq_kind hx
  refine s_def ?_
  walk_at "go"
  refine sat_of_eq (is_sequence_eq hd.kind _) ?_
  cases hy : seqD y with
  | none =>
    rw [seq_none hy]
    walk_at "go"
    dsimp only
    exact exF_sat (cutTo_pre rfl) rfl (h1 hy)
  | some p =>
    obtain ⟨j, rs⟩ := p
    obtain ⟨yk, ys, yl, yi⟩ := seq_kind hy
    obtain ⟨hrl, hrs⟩ := hd.rows j rs hy
    rw [ys]
    walk_at "go"
    refine s_lcP (fun r => .bl (rowLen cs.length r)) ?_
    walk_at "go"
    refine ⟨_, rs, rfl, yi, by omega, fun r hr => ?_, ?_⟩
    · obtain ⟨rk, rd⟩ := hrs r hr
      refine ⟨_, rfl, ?_, rfl⟩
      walk_at "go"
      refine sat_of_eq (is_sequence_eq rk _) ?_
      cases hq : seqD r with
      | none =>
        rw [seq_none hq]
        walk_at "go"
        exact ⟨by simp [rowLen, hq], rfl⟩
      | some q =>
        obtain ⟨i, ds⟩ := q
        obtain ⟨_, rs', rl, _⟩ := seq_kind hq
        rw [rs']
        walk_at "go"
        refine ⟨?_, rfl⟩
        simp only [rowLen, hq, List.length_map]
        congr 2
        exact decide_eq_decide.mpr Int.ofNat_inj
    · walk_at "go"
      refine s_cb1 rfl (all_map _ _) ?_
      cases e1 : rs.all (rowLen cs.length) with
      | false =>
        walk_at "go"
        dsimp only
        exact exF_sat (cutTo_pre rfl) rfl (h2 j rs hy e1)
      | true =>
        walk_at "go"
        refine s_lcP (fun r => .bl (rowV cs r)) ?_
        walk_at "go"
        refine ⟨_, rs, rfl, yi, by omega, fun r hr => ?_, ?_⟩
        · obtain ⟨rk, rd⟩ := hrs r hr
          have hrow := List.all_eq_true.mp e1 r hr
          unfold rowLen at hrow
          cases hq : seqD r with
          | none => rw [hq] at hrow; cases hrow
          | some q =>
            obtain ⟨i, ds⟩ := q
            obtain ⟨hl, hds⟩ := rd i ds hq
            refine ⟨_, rfl, ?_, rfl⟩
            walk_at "go"
            refine sat_of_eq (is_row_eq hx hq hds (by omega) _) ?_
            exact ⟨by simp [rowV, hq], rfl⟩
        · walk_at "go"
          refine s_cb1 rfl (all_map _ _) ?_
          cases e2 : rs.all (rowV cs) with
          | false =>
            walk_at "go"
            dsimp only
            exact exF_sat (cutTo_pre rfl) rfl (h3 j rs hy e1 e2)
          | true =>
            walk_at "go"
            exact h0 j rs hy e1 e2
theorem columns_of_eq {x : D} {k : Bool} {cs : List Col} (hx : seqD x = some (k, cs.map colD)) (hl : cs.length ≤ 1000) (ce : List CO) : f_columns_of [.im x] ce = .ok (.im (.tup (cs.map colD))) ce := loc_im (eq_sat (by
  obtain ⟨_, _, _, xi⟩ := seq_kind hx
  refine s_def ?_
  walk_at "go"
  refine s_lcP (fun d => d) ?_
  walk_at "go"
  refine ⟨_, cs.map colD, rfl, xi, by rw [List.length_map]; omega, fun d hd => ?_, ?_⟩
  · obtain ⟨c, _, rfl⟩ := List.mem_map.mp hd
    refine ⟨_, rfl, ?_, rfl⟩
    walk_at "go"
    try exact ⟨rfl, rfl⟩
  · walk_at "go"
    refine s_tupI (k := true) rfl ?_
    walk_at "go"
    rw [List.map_id']
    exact ⟨rfl, rfl⟩))
/-- one pair is a column, beside those names that were met -/
def colV (met : List D) : D → Bool
  | .tup [a, b] => isNameV a && (!inF a met && (match b with | .str t => inF (.str t) [.str "text", .str "number"] | _ => false))
  | _ => false
def fstD : D → D
  | .tup (a :: _) => a
  | d => d
def colsL : List D → List D → Bool
  | _, [] => true
  | met, p :: ps => colV met p && colsL (met ++ [fstD p]) ps
def areCols (v : D) : Bool := match seqD v with
  | some (_, p :: ps) => colsL [] (p :: ps)
  | _ => false
/-- what is at hand is of the known kinds, two deep, for columns -/
structure DeepC (v : D) : Prop where
  kind : kindV v = true
  pairs : ∀ j ps, seqD v = some (j, ps) → ps.length ≤ 1000 ∧ ∀ p ∈ ps, kindV p = true ∧ ∀ l, p = .tup l → ∀ d ∈ l, kindV d = true
theorem imL_im {ce : List CO} (ds : List D) : imL ce (ds.map SV.im) = some ds := imL_map ds
theorem dv_lst {ce : List CO} {c : Nat} {ds : List D} (h : ce[c]? = some (.lst (ds.map SV.im))) : dv ce (.cl c) = some (.lst ds) := by
  simp only [dv, h, imL_im, Option.map_some]
theorem name_flat {a : D} (h : isNameV a = true) : ∃ s, a = .str s := by
  cases a with
  | str s => exact ⟨s, rfl⟩
  | _ => cases h
theorem inD_lst {x : D} {ds : List D} (h1 : flatD x = true) (h2 : ds.all flatD = true) : inD x (.lst ds) = some (.bl (inF x ds)) := by
  unfold inD inB
  dsimp only
  rw [if_pos ⟨h1, h2⟩]
  rfl
theorem are_columns_eq {v : D} (hd : DeepC v) (ce : List CO) : f_are_columns [.im v] ce = .ok (.im (.bl (areCols v))) ce := loc_im (eq_sat (by
  refine s_def ?_
  walk_at "go"
  refine sat_of_eq (is_sequence_eq hd.kind _) ?_
  cases hy : seqD v with
  | none =>
    rw [seq_none hy]
    walk_at "go"
    exact ⟨by simp [areCols, hy], rfl⟩
  | some p =>
    obtain ⟨j, ps⟩ := p
    obtain ⟨yk, ys, yl, yi⟩ := seq_kind hy
    obtain ⟨hl, hps⟩ := hd.pairs j ps hy
    rw [ys]
    walk_at "go"
    · rename_i h0
      have e : ps = [] := List.length_eq_zero_iff.mp (by omega)
      subst e
      exact ⟨by simp [areCols, hy], rfl⟩
    · rename_i h0
      have ea : areCols v = colsL [] ps := by
        unfold areCols
        rw [hy]
        cases ps with
        | nil => exact absurd rfl h0
        | cons p ps => rfl
      rw [ea]
      refine s_forU ?_
      walk_at "go"
      refine ⟨_, ps, rfl, yi, ?_⟩
      refine s_forLR (fun rest δ => ∃ (x2 : SV) (met : List D), (∀ d ∈ met, ∃ s, d = .str s) ∧ met.length + rest.length ≤ 1000 ∧ colsL [] ps = colsL met rest ∧ (∀ p ∈ rest, p ∈ ps) ∧ δ = ⟨[.im v, .cl 0, x2], [.lst (met.map SV.im)]⟩) _ _ ⟨_, [], (fun _ z => by cases z), by simpa using hl, rfl, (fun _ h => h), rfl⟩ ?_ ?_
      · rintro p rest δ ⟨x2, met, hm, hlen, hc, hsub, rfl⟩
        obtain ⟨pk, pl⟩ := hps p (hsub p List.mem_cons_self)
        have hfl : met.all flatD = true := List.all_eq_true.mpr fun d hd => by obtain ⟨s, rfl⟩ := hm d hd; rfl
        refine ⟨_, rfl, ?_⟩
        have out : colV met p = false → colsL [] ps = false := fun h => by rw [hc]; show (colV met p && _) = _; rw [h]; rfl
        have no : ∀ {x : SV}, colV met p = false → (retF [] (SV.im (D.bl false)) [CO.lst (met.map SV.im)]).sat (fun s c => s = .im (.bl (colsL [] ps)) ∧ c = []) fun _ _ => False := fun h => s_retF (cutTo_pre rfl) ⟨by rw [out h], rfl⟩
        by_cases h2 : ∃ a b, p = .tup [a, b]
        · obtain ⟨a, b, rfl⟩ := h2
          have ka := pl _ rfl a (by simp)
          have kb := pl _ rfl b (by simp)
          walk_at "go"
          refine sat_of_eq (is_name_eq ka _) ?_
          cases ea : isNameV a with
          | false =>
            walk_at "go"
            exact no (x := .no) (by simp [colV, ea])
          | true =>
            obtain ⟨s, rfl⟩ := name_flat ea
            walk_at "go"
            refine s_dop rfl (dv_lst rfl) (inD_lst (x := .str s) rfl hfl) ?_
            cases em : inF (.str s) met with
            | true =>
              walk_at "go"
              exact no (x := .no) (by simp [colV, em])
            | false =>
              cases b with
              | str tt =>
                walk_at "go"
                have hn : notinD (.str tt) (.tup [.str "text", .str "number"]) = some (.bl (!inF (.str tt) [.str "text", .str "number"])) := rfl
                refine s_dop rfl rfl hn ?_
                cases et : inF (.str tt) [.str "text", .str "number"] with
                | false =>
                  walk_at "go"
                  exact no (x := .no) (by simp [colV, et])
                | true =>
                  walk_at "go"
                  rw [List.length_cons] at hlen
                  refine s_append rfl (by rw [List.length_map]; omega) ?_
                  refine ⟨.im (.tup [.str s, .str tt]), met ++ [.str s], fun d hd => ?_, ?_, ?_, fun p hp => hsub p (List.mem_cons_of_mem _ hp), ?_⟩
                  · rcases List.mem_append.mp hd with hd | hd
                    · exact hm d hd
                    · rw [List.mem_singleton.mp hd]; exact ⟨s, rfl⟩
                  · rw [List.length_append]; simp; omega
                  · rw [hc]
                    show (colV met (.tup [.str s, .str tt]) && colsL (met ++ [.str s]) rest) = _
                    have : colV met (.tup [.str s, .str tt]) = true := by simp [colV, ea, em, et]
                    rw [this]; rfl
                  · rw [List.map_append]; rfl
              | _ =>
                first
                  | exact Bool.noConfusion (show false = true from kb)
                  | (walk_at "go"; exact no (x := .no) (by simp [colV]))
        · have hb : colV met p = false := by
            unfold colV
            split
            · exact absurd ⟨_, _, rfl⟩ h2
            · rfl
          cases p with
          | tup l =>
            walk_at "go"
            · exact no (x := .no) hb
            · rename_i hl2
              exfalso
              match l, hl2 with
              | [a, b], _ => exact h2 ⟨a, b, rfl⟩
              | [], h => simp at h
              | [_], h => simp at h
              | _ :: _ :: _ :: _, h => simp at h; omega
          | _ =>
            first
              | exact Bool.noConfusion (show false = true from pk)
              | (walk_at "go"; exact no (x := .no) hb)
      · rintro δ ⟨x2, met, hm, hlen, hc, hsub, rfl⟩
        walk_at "go"
        refine rt_F (s_retF (cutTo_pre rfl) ⟨?_, rfl⟩)
        rw [hc]; rfl))
/-- columns, as they must be -/
structure ColsOk (cs : List Col) : Prop where
  ne : cs ≠ []
  len : cs.length ≤ 900
  name : ∀ c ∈ cs, isNameS c.name = true
  sort : ∀ c ∈ cs, c.sort = "text" ∨ c.sort = "number"
  nd : (cs.map Col.name).Nodup
theorem inF_str {s : Str} : ∀ {l : List Str}, inF (.str s) (l.map .str) = decide (s ∈ l)
  | [] => rfl
  | w :: l => by
    show (eqF (.str w) (.str s) || inF (.str s) (l.map .str)) = _
    rw [inF_str, Bool.eq_iff_iff]
    simp only [eqF, Bool.or_eq_true, beq_iff_eq, decide_eq_true_eq, List.mem_cons]
    exact ⟨fun h => h.imp Eq.symm id, fun h => h.imp Eq.symm id⟩
theorem colsL_ok : ∀ (cs : List Col) (met : List Str), (∀ c ∈ cs, isNameS c.name = true) → (∀ c ∈ cs, c.sort = "text" ∨ c.sort = "number") → (met ++ cs.map Col.name).Nodup → colsL (met.map .str) (cs.map colD) = true
  | [], _, _, _, _ => rfl
  | c :: cs, met, h1, h2, h3 => by
    have hn : c.name ∉ met := fun z => by
      rw [List.nodup_append] at h3
      exact h3.2.2 _ z _ (by simp) rfl
    have e1 : colV (met.map .str) (colD c) = true := by
      show (isNameS c.name && (!inF (.str c.name) (met.map .str) && inF (.str c.sort) [.str "text", .str "number"])) = true
      rw [h1 c List.mem_cons_self, inF_str, decide_eq_false hn]
      rcases h2 c List.mem_cons_self with e | e <;> rw [e] <;> decide +kernel
    show (colV (met.map .str) (colD c) && colsL (met.map .str ++ [.str c.name]) (cs.map colD)) = true
    rw [e1]
    have := colsL_ok cs (met ++ [c.name]) (fun c hc => h1 c (List.mem_cons_of_mem _ hc)) (fun c hc => h2 c (List.mem_cons_of_mem _ hc)) (by simpa using h3)
    rw [List.map_append] at this
    exact this
theorem areCols_ok {x : D} {k : Bool} {cs : List Col} (hx : seqD x = some (k, cs.map colD)) (hc : ColsOk cs) : areCols x = true := by
  unfold areCols
  rw [hx]
  cases cs with
  | nil => exact absurd rfl hc.ne
  | cons c cs => exact colsL_ok (c :: cs) [] hc.name hc.sort hc.nd
theorem name_short {s : Str} (h : isNameS s = true) : s.length ≤ 4 := by
  unfold isNameS at h
  simp only [Bool.and_eq_true, decide_eq_true_eq] at h
  exact h.1.1.2
theorem deepC_cols {x : D} {k : Bool} {cs : List Col} (hx : seqD x = some (k, cs.map colD)) (hc : ColsOk cs) : DeepC x := ⟨(seq_kind hx).1, fun j ps hp => by
  rw [hx] at hp
  cases hp
  refine ⟨by rw [List.length_map]; have := hc.len; omega, fun p hp => ?_⟩
  obtain ⟨c, hcm, rfl⟩ := List.mem_map.mp hp
  refine ⟨rfl, fun l e d hd => ?_⟩
  cases e
  simp only [List.mem_cons, List.not_mem_nil, or_false] at hd
  rcases hd with rfl | rfl
  · exact decide_eq_true (Nat.le_trans (name_short (hc.name c hcm)) (by decide))
  · rcases hc.sort c hcm with e | e <;> rw [e] <;> rfl⟩
/-- a row as a tuple -/
def tupV (r : D) : D := match seqD r with
  | some (_, ds) => .tup ds
  | none => r
abbrev tabC (cs : List Col) (rs : List D) : CO := .ins "Table" [("columns", .im (.tup (cs.map colD))), ("rows", .im (.tup rs))]
theorem p_initT {x y : D} {k : Bool} {cs : List Col} (hx : seqD x = some (k, cs.map colD)) (hc : ColsOk cs) (hd : Deep y) {Ψ : SV → List CO → Prop} {Ξ : Xn → List CO → Prop}
    (h0 : ∀ j rs, seqD y = some (j, rs) → rs.all (rowLen cs.length) = true → rs.all (rowV cs) = true → Ψ (.im .non) [tabC cs (rs.map tupV)])
    (h1 : seqD y = none → Ξ (xTab "rows") [.ins "Table" []]) (h2 : ∀ j rs, seqD y = some (j, rs) → rs.all (rowLen cs.length) = false → Ξ (xTab "row") [.ins "Table" []])
    (h3 : ∀ j rs, seqD y = some (j, rs) → rs.all (rowLen cs.length) = true → rs.all (rowV cs) = false → Ξ (xTab "cell") [.ins "Table" []]) : (t_Table___init__ [.cl 0, .im x, .im y] [.ins "Table" []]).sat Ψ Ξ := by
  refine s_def ?_
  walk_at "go"
  refine sat_of_eq (are_columns_eq (deepC_cols hx hc) _) ?_
  rw [areCols_ok hx hc]
  walk_at "go"
  refine s_loc0 (p_need_rows hx hd (fun j rs hy e1 e2 => ?_) (fun hy => ?_) (fun j rs hy e1 => ?_) (fun j rs hy e1 e2 => ?_))
  · walk_at "go"
    refine sat_of_eq (columns_of_eq hx (by have := hc.len; omega) _) ?_
    walk_at "go"
    obtain ⟨yk, ys, yl, yi⟩ := seq_kind hy
    obtain ⟨hrl, hrs⟩ := hd.rows j rs hy
    refine s_lcP tupV ?_
    walk_at "go"
    refine ⟨_, rs, rfl, yi, by omega, fun r hr => ?_, ?_⟩
    · refine ⟨_, rfl, ?_, rfl⟩
      have hrow := List.all_eq_true.mp e1 r hr
      unfold rowLen at hrow
      cases hq : seqD r with
      | none => rw [hq] at hrow; cases hrow
      | some q =>
        obtain ⟨i, ds⟩ := q
        walk_at "go"
        refine s_tupI hq ?_
        exact ⟨by simp [tupV, hq], rfl⟩
    · walk_at "go"
      refine s_tupI (k := true) rfl ?_
      walk_at "go"
      exact h0 j rs hy e1 e2
  · exact exF_sat (Ψf := Ψ) (cutTo_same (Nat.le_refl _)) rfl (h1 hy)
  · exact exF_sat (Ψf := Ψ) (cutTo_same (Nat.le_refl _)) rfl (h2 j rs hy e1)
  · exact exF_sat (Ψf := Ψ) (cutTo_same (Nat.le_refl _)) rfl (h3 j rs hy e1 e2)
/-- a table's rows -/
structure RowsOk (cs : List Col) (rs : List (List D)) : Prop where
  len : rs.length ≤ 900
  row : ∀ r ∈ rs, r.length = cs.length ∧ rowOk cs r = true ∧ ∀ d ∈ r, kindV d = true
theorem deep_rows {y : D} {j : Bool} {cs : List Col} {rs : List (List D)} {g : List D → D} (hg : ∀ r, ∃ k, seqD (g r) = some (k, r)) (hy : seqD y = some (j, rs.map g)) (hc : ColsOk cs) (hr : RowsOk cs rs) : Deep y := ⟨(seq_kind hy).1, fun j' rs' hp => by
  rw [hy] at hp
  cases hp
  refine ⟨by rw [List.length_map]; have := hr.len; omega, fun r hrm => ?_⟩
  obtain ⟨r0, h0, rfl⟩ := List.mem_map.mp hrm
  obtain ⟨k, hk⟩ := hg r0
  refine ⟨(seq_kind hk).1, fun i ds e => ?_⟩
  rw [hk] at e
  cases e
  obtain ⟨h1, h2, h3⟩ := hr.row r0 h0
  exact ⟨by have := hc.len; omega, h3⟩⟩
theorem rows_all {cs : List Col} {rs : List (List D)} {g : List D → D} (hg : ∀ r, ∃ k, seqD (g r) = some (k, r)) (hr : RowsOk cs rs) : (rs.map g).all (rowLen cs.length) = true ∧ (rs.map g).all (rowV cs) = true ∧ (rs.map g).map tupV = rs.map .tup := by
  refine ⟨List.all_eq_true.mpr fun r hrm => ?_, List.all_eq_true.mpr fun r hrm => ?_, ?_⟩
  · obtain ⟨r0, h0, rfl⟩ := List.mem_map.mp hrm
    obtain ⟨k, hk⟩ := hg r0
    unfold rowLen
    rw [hk]
    exact decide_eq_true (hr.row r0 h0).1
  · obtain ⟨r0, h0, rfl⟩ := List.mem_map.mp hrm
    obtain ⟨k, hk⟩ := hg r0
    unfold rowV
    rw [hk]
    exact (hr.row r0 h0).2.1
  · rw [List.map_map]
    refine List.map_congr_left fun r _ => ?_
    obtain ⟨k, hk⟩ := hg r
    show tupV (g r) = _
    unfold tupV
    rw [hk]
theorem chars_of' {P : Nat → Prop} : ∀ {ds : List D}, (∀ d ∈ ds, ∃ c, d = .str ⟨#[c]⟩ ∧ P c) → ∃ l : List Nat, ds = l.map (fun c => D.str ⟨#[c]⟩) ∧ ∀ c ∈ l, P c
  | [], _ => ⟨[], rfl, fun _ h => by cases h⟩
  | d :: ds, h => by
    obtain ⟨c, rfl, hc⟩ := h d List.mem_cons_self
    obtain ⟨l, rfl, hl⟩ := chars_of' fun d hd => h d (List.mem_cons_of_mem _ hd)
    exact ⟨c :: l, rfl, fun x hx => (List.mem_cons.mp hx).elim (fun e => e ▸ hc) (hl x)⟩
theorem p_pickS {a b n : Int} {z : Str} {Ψ : SV → List CO → Prop} {Ξ : Xn → List CO → Prop} (h0 : 0 < z.length) (h1 : z.length < 1000)
    (h : ∀ (c : Nat) (a' b' n' : Int), c ∈ z.cps.toList → Ψ (.im (.str ⟨#[c]⟩)) [bx a' b' n']) : (t__law_pick [.cl 0, .im (.str z)] [bx a b n]).sat Ψ Ξ := by
  refine s_def ?_
  walk_at "go"
  refine s_lenS (by omega) ?_
  walk_at "go"
  refine lq [0] rfl rfl rfl (p_take (by omega) (by omega) fun k a' b' n' k0 k1 => ?_)
  obtain ⟨x, hx, hm⟩ := atI_get (l := z.cps.toList) k0 (by simpa [Str.length] using k1)
  walk_at "go"
  refine s_ixS (by omega) hx ?_
  walk_at "go"
  exact h _ _ _ _ hm
theorem p_number {a b n : Int} {Ψ : SV → List CO → Prop} {Ξ : Xn → List CO → Prop} (h : ∀ i a' b' n' : Int, -1000000 ≤ i → i ≤ 1000000 → Ψ (.im (.int i)) [bx a' b' n']) : (t__law_number [.cl 0] [bx a b n]).sat Ψ Ξ := by
  refine s_def ?_
  walk_at "go"
  refine lq [0] rfl rfl rfl (p_take (by decide) (by decide) fun k _ _ _ k0 k1 => ?_)
  walk_at "go"
  · refine lq [0] rfl rfl rfl (p_take (by decide) (by decide) fun k2 _ _ _ k0 k1 => ?_)
    walk_at "go"
    refine s_ixL2 k0 k1 fun d hd => ?_
    simp only [List.mem_cons, List.not_mem_nil, or_false] at hd
    have e6 : (10 : Int) ^ Int.toNat 6 = 1000000 := by decide
    rcases hd with rfl | rfl
    all_goals
      walk_at "go"
      refine lq [0] rfl rfl rfl (p_take (by decide) (by decide) fun k3 _ _ _ k4 k5 => ?_)
      walk_at "go"
      exact h _ _ _ _ (by omega) (by omega)
  · refine lq [0] rfl rfl rfl (p_take (by decide) (by decide) fun k2 _ _ _ k2a k2b => ?_)
    walk_at "go"
    refine lq [0] rfl rfl rfl (p_take (by decide) (by decide) fun k3 _ _ _ k3a k3b => ?_)
    walk_at "go"
    exact h _ _ _ _ (by omega) (by omega)
/-- a text as the laws draw them -/
structure WordT (s : Str) : Prop where
  text : isTextS s = true
  asc : Asc s
  len : s.length ≤ 10
theorem textS_of {s : Str} {l : List Nat} {k : Nat} (e : s.cps.toList = l ++ List.replicate k 32) (hl : ∀ c ∈ l, c ∈ lettersS.cps.toList) (hn : s.length ≤ 10) : isTextS s = true := by
  unfold isTextS allIn
  rw [decide_eq_true hn, Bool.true_and, rstrip_bare]
  refine List.all_eq_true.mpr fun c hc => decide_eq_true (hl c ?_)
  have : c ∈ bareL s.cps.toList := by simpa [bare] using hc
  rw [e, bareL_blanks] at this
  exact bareL_sub this
theorem word10 : ∀ k : Nat, k < 5 → isTextS (L2.cutS (L2.cutS "aBcDeFgHiZ" (some (k : Int)) none ++ "   ") none (some 10)) = true ∧ ((L2.cutS (L2.cutS "aBcDeFgHiZ" (some (k : Int)) none ++ "   ") none (some 10)).cps.toList.all fun c => decide (Pc c)) = true ∧ (L2.cutS (L2.cutS "aBcDeFgHiZ" (some (k : Int)) none ++ "   ") none (some 10)).length ≤ 10 := by
  intro k hk
  have : k = 0 ∨ k = 1 ∨ k = 2 ∨ k = 3 ∨ k = 4 := by omega
  rcases this with rfl | rfl | rfl | rfl | rfl <;> decide +kernel
theorem mul_blanks {i : Int} (h0 : 0 ≤ i) (h2 : i ≤ 2) : (Txt.mul " " i).cps.toList = List.replicate i.toNat 32 := by
  have : i = 0 ∨ i = 1 ∨ i = 2 := by omega
  rcases this with rfl | rfl | rfl <;> decide +kernel
theorem app_toList (x y : Str) : (x ++ y).cps.toList = x.cps.toList ++ y.cps.toList := by
  show (x.cps ++ y.cps).toList = _
  simp
theorem p_word {a b n : Int} {Ψ : SV → List CO → Prop} {Ξ : Xn → List CO → Prop} (h : ∀ (s : Str) (a' b' n' : Int), WordT s → Ψ (.im (.str s)) [bx a' b' n']) : (t__law_word [.cl 0] [bx a b n]).sat Ψ Ξ := by
  refine s_def ?_
  walk_at "go"
  refine lq [0] rfl rfl rfl (p_take (by decide) (by decide) fun k _ _ _ k0 k1 => ?_)
  walk_at "go"
  · refine lq [0] rfl rfl rfl (p_take (by decide) (by decide) fun k2 _ _ _ k2a k2b => ?_)
    walk_at "go"
    obtain ⟨m, rfl⟩ := Int.eq_ofNat_of_zero_le k2a
    obtain ⟨q1, q2, q3⟩ := word10 m (by omega)
    have hl : (L2.cutS "aBcDeFgHiZ" (some (m : Int)) none).length ≤ 10 := Nat.le_trans cut_len (by decide +kernel)
    have hm : Str.length "   " = 3 := by decide +kernel
    refine s_addS (by omega) ?_
    walk_at "go"
    refine ⟨_, _, rfl, slD_str (by rw [app_len]; omega), fun _ z => (by cases z), ?_⟩
    walk_at "go"
    exact h _ _ _ _ ⟨q1, asc_of q2, q3⟩
  · refine s_lc (fun acc ce => (∃ a b n : Int, ce = [bx a b n]) ∧ ∀ d ∈ acc, ∃ c, d = .str ⟨#[c]⟩ ∧ c ∈ ("aAbBxz" : Str).cps.toList) ?_
    walk_at "go"
    refine lq [0] rfl rfl rfl (p_take (by decide) (by decide) fun k2 _ _ _ k2a k2b => ?_)
    walk_at "go"
    refine ⟨by rw [rgD_len]; omega, ⟨⟨_, _, _, rfl⟩, fun _ z => by cases z⟩, ?_, ?_⟩
    · rintro d hd acc ce ⟨⟨a, b, n, rfl⟩, hacc⟩
      refine ⟨_, rfl, ?_⟩
      walk_at "go"
      refine lq [0] rfl rfl rfl (p_pickS (by decide +kernel) (by decide +kernel) fun c _ _ _ hc => ?_)
      refine ⟨_, _, rfl, ?_⟩
      refine ⟨⟨_, _, _, cutOr_same (Nat.le_refl _)⟩, fun x hx => ?_⟩
      rcases List.mem_append.mp hx with hx | hx
      · exact hacc x hx
      · rw [List.mem_singleton.mp hx]
        exact ⟨c, rfl, hc⟩
    · rintro acc ce ⟨⟨a, b, n, rfl⟩, hacc⟩ hlen
      rw [rgD_len] at hlen
      obtain ⟨l, rfl, hl⟩ := chars_of' hacc
      rw [List.length_map] at hlen
      have ej := joinD_chars (l := l) (by omega)
      walk_at "go"
      refine lq [0] rfl rfl rfl (p_take (by decide) (by decide) fun k3 _ _ _ k3a k3b => ?_)
      walk_at "go"
      refine s_ixL2 k3a k3b fun d hd => ?_
      have hd : ∃ i : Int, d = .int i ∧ 0 ≤ i ∧ i ≤ 2 := by
        simp only [List.mem_cons, List.not_mem_nil, or_false] at hd
        rcases hd with rfl | rfl | rfl | rfl | rfl | rfl <;> exact ⟨_, rfl, by decide, by decide⟩
      obtain ⟨i, rfl, i0, i2⟩ := hd
      obtain ⟨hb, hbl⟩ := asc_blanks i0 i2
      have hn : Str.length ⟨l.toArray⟩ ≤ 4 := by simp [Str.length]; omega
      refine s_mulS ⟨by decide +kernel, by omega, by omega⟩ ?_
      refine s_addS (by omega) ?_
      walk_at "go"
      have hlen2 : ((⟨l.toArray⟩ : Str) ++ Txt.mul " " i).length ≤ 10 := by rw [app_len]; omega
      refine h _ _ _ _ ⟨textS_of (l := l) (k := i.toNat) ?_ (fun c hc => ?_) hlen2, asc_app (fun c hc => ?_) hb, hlen2⟩
      · rw [app_toList, mul_blanks i0 i2]
      · have : ∀ c ∈ ("aAbBxz" : Str).cps.toList, c ∈ lettersS.cps.toList := by decide +kernel
        exact this c (hl c hc)
      · have : ∀ c ∈ ("aAbBxz" : Str).cps.toList, Pc c := by decide +kernel
        exact this c (hl c (by simpa using hc))
/-- a cell of a sort -/
def CellP (t : Str) (d : D) : Prop := d = .non ∨ (t = "text" ∧ ∃ s, d = .str s ∧ WordT s) ∨ (t ≠ "text" ∧ ∃ i, d = .int i ∧ -1000000 ≤ i ∧ i ≤ 1000000)
theorem p_cellT {a b n : Int} {Ψ : SV → List CO → Prop} {Ξ : Xn → List CO → Prop} {t : Str} (h : ∀ (d : D) (a' b' n' : Int), CellP t d → Ψ (.im d) [bx a' b' n']) : (t__law_cell [.cl 0, .im (.str t)] [bx a b n]).sat Ψ Ξ := by
  refine s_def ?_
  walk_at "go"
  refine lq [0] rfl rfl rfl (p_take (by decide) (by decide) fun k _ _ _ _ _ => ?_)
  walk_at "go"
  · exact h .non _ _ _ (.inl rfl)
  · rename_i e
    refine lq [0] rfl rfl rfl (p_word fun s _ _ _ hs => ?_)
    walk_at "go"
    exact h (.str s) _ _ _ (.inr (.inl ⟨e, s, rfl, hs⟩))
  · rename_i e
    refine lq [0] rfl rfl rfl (p_number fun i _ _ _ h1 h2 => ?_)
    walk_at "go"
    exact h (.int i) _ _ _ (.inr (.inr ⟨e, i, rfl, h1, h2⟩))
theorem cellP_ok {c : Col} {d : D} (h : CellP c.sort d) : cellOk c d = true ∧ kindV d = true := by
  rcases h with rfl | ⟨e, s, rfl, hs⟩ | ⟨e, i, rfl, h1, h2⟩
  · exact ⟨rfl, rfl⟩
  · refine ⟨?_, decide_eq_true (Nat.le_trans hs.len (by decide))⟩
    show isOfSort (.str s) c.sort = true
    unfold isOfSort
    rw [if_pos e]
    exact hs.text
  · refine ⟨?_, rfl⟩
    show isOfSort (.int i) c.sort = true
    unfold isOfSort
    rw [if_neg e]
    show (decide _ && decide _) = true
    rw [decide_eq_true h1, decide_eq_true h2]; rfl
/-- a row of columns -/
def RowP : List Col → List D → Prop
  | [], ds => ds = []
  | c :: cs, ds => ∃ d r, ds = d :: r ∧ CellP c.sort d ∧ RowP cs r
theorem RowP.snoc {c : Col} {d : D} (h : CellP c.sort d) : ∀ {cs : List Col} {r : List D}, RowP cs r → RowP (cs ++ [c]) (r ++ [d])
  | [], r, hr => by rw [show r = [] from hr]; exact ⟨d, [], rfl, h, rfl⟩
  | c' :: cs, _, ⟨d', r, rfl, h1, h2⟩ => ⟨d', r ++ [d], rfl, h1, RowP.snoc h h2⟩
theorem RowP.facts : ∀ {cs : List Col} {r : List D}, RowP cs r → r.length = cs.length ∧ rowOk cs r = true ∧ ∀ d ∈ r, kindV d = true
  | [], r, hr => by rw [show r = [] from hr]; exact ⟨rfl, rfl, fun _ z => by cases z⟩
  | c :: cs, _, ⟨d, r, rfl, h1, h2⟩ => by
    obtain ⟨a1, a2, a3⟩ := RowP.facts h2
    obtain ⟨b1, b2⟩ := cellP_ok h1
    refine ⟨by simp [a1], ?_, fun x hx => ?_⟩
    · show (cellOk c d && rowOk cs r) = true
      rw [b1, a2]; rfl
    · rcases List.mem_cons.mp hx with rfl | hx
      · exact b2
      · exact a3 x hx
/-- names as they are drawn -/
structure NamesP (ns : List Str) (m : Nat) : Prop where
  len : ns.length = m
  name : ∀ s ∈ ns, isNameS s = true
  nd : ns.Nodup
  zz : ∀ s ∈ ns, s ≠ "zz"
def keptD : List D := [.str "pick", .str "fill", .str "trim", .str "text", .str "home", .str "far", .str "a", .str "ab", .str "zzzz", .str "n", .str "cuts", .str "undo"]
def name0 (sp k : Int) : Str := match atI keptD ((sp + 5 * k) % 12) with
  | some (.str s) => s
  | _ => ""
def name2 (sp k : Int) : Str := (match atI ("abcdefghijklmnopqrstuvwxyz" : Str).cps.toList ((sp + 7 * k) % 26) with
  | some c => (⟨#[c]⟩ : Str)
  | _ => "") ++ Txt.mul "q" (sp % 4)
def namesB (f : Int → Int → Str) (sp m : Nat) : Bool := let l := (List.range m).map fun (k : Nat) => f sp k
  (l.all isNameS) && decide l.Nodup && l.all fun s => decide (s ≠ "zz")
theorem names0_all : ((List.range 26).all fun sp => (List.range 6).all fun m => namesB name0 sp m) = true := by decide +kernel
theorem names2_all : ((List.range 26).all fun sp => (List.range 6).all fun m => namesB name2 sp m) = true := by decide +kernel
theorem namesP_of {f : Int → Int → Str} (h : ((List.range 26).all fun sp => (List.range 6).all fun m => namesB f sp m) = true) {sp : Int} {m : Nat} (h0 : 0 ≤ sp) (h1 : sp < 26) (hm : m < 6) : NamesP ((List.range m).map fun (k : Nat) => f sp k) m := by
  have q := List.all_eq_true.mp (List.all_eq_true.mp h sp.toNat (List.mem_range.mpr (by omega))) m (List.mem_range.mpr hm)
  unfold namesB at q
  rw [Int.toNat_of_nonneg h0] at q
  simp only [Bool.and_eq_true, decide_eq_true_eq] at q
  exact ⟨by simp, fun s hs => List.all_eq_true.mp q.1.1 s hs, q.1.2, fun s hs => of_decide_eq_true (List.all_eq_true.mp q.2 s hs)⟩
def nnn (k : Nat) : Str := L2.cutS "nnnn" none (some ((k : Int) + 1))
theorem nnn_all : ((List.range 5).all fun m => let l := (List.range m).map nnn; l.all isNameS && decide l.Nodup && l.all fun s => decide (s ≠ "zz")) = true := by decide +kernel
theorem nnn_ok {m : Nat} (hm : m < 5) : NamesP ((List.range m).map nnn) m := by
  have q := List.all_eq_true.mp nnn_all m (List.mem_range.mpr hm)
  simp only [Bool.and_eq_true, decide_eq_true_eq] at q
  exact ⟨by simp, fun s hs => List.all_eq_true.mp q.1.1 s hs, q.1.2, fun s hs => of_decide_eq_true (List.all_eq_true.mp q.2 s hs)⟩
theorem rg_map {m : Nat} (f : D → D) (g : Nat → Str) (h : ∀ k : Nat, f (.int (0 + (k : Nat))) = .str (g k)) : (rgD 0 m).map f = ((List.range m).map g).map .str := by
  unfold rgD
  rw [List.map_map, List.map_map]
  exact List.map_congr_left fun k _ => h k
theorem perm_pop {l : List Str} {i : Nat} {x : Str} (h : l[i]? = some x) : (x :: l.eraseIdx i).Perm l := by
  induction l generalizing i with
  | nil => simp at h
  | cons y l ih =>
    cases i with
    | zero => simp at h; subst h; exact List.Perm.refl _
    | succ i =>
      rw [List.eraseIdx_cons_succ]
      exact (List.Perm.swap y x _).trans (List.Perm.cons y (ih (by simpa using h)))
abbrev wsC (ws : List Str) : CO := .lst (ws.map fun z => .im (.str z))
theorem imL_ws {ce : List CO} : ∀ ws : List Str, imL ce (ws.map fun z => SV.im (.str z)) = some (ws.map .str)
  | [] => rfl
  | w :: ws => by simp only [List.map_cons, imL, imS, imL_ws ws]
theorem dv_ws {ce : List CO} {c : Nat} {ws : List Str} (h : ce[c]? = some (wsC ws)) : dv ce (.cl c) = some (.lst (ws.map .str)) := by
  simp only [dv, h, imL_ws, Option.map_some]
theorem frz_ws {ce : List CO} {c : Nat} {ws : List Str} (h : ce[c]? = some (wsC ws)) : frz ce c = some (.lst (ws.map .str), ce.set c (.fz (.lst (ws.map .str)))) := by
  unfold frz
  rw [dv_ws h]
theorem ws_snoc (ws : List Str) (y : Str) : wsC (ws ++ [y]) = CO.lst ((ws.map fun z => .im (.str z)) ++ [.im (.str y)]) := by simp only [wsC, List.map_append, List.map_cons, List.map_nil]
theorem map_erase_ws (ws : List Str) (i : Nat) : (ws.map fun z => SV.im (.str z)).eraseIdx i = (ws.eraseIdx i).map fun z => SV.im (.str z) := by
  induction ws generalizing i with
  | nil => rfl
  | cons v ws ih => cases i with
    | zero => rfl
    | succ i => simp only [List.map_cons, List.eraseIdx_cons_succ, ih]
theorem s_listC {δ : Sta} {Ψ : SV → Sta → Prop} {Ξ : Xn → Sta → Prop} {ds : List D} (h : Ψ (.cl δ.ce.length) ⟨δ.sl, δ.ce ++ [.lst (ds.map SV.im)]⟩) : (listC [.im (.lst ds)] δ).sat Ψ Ξ := by
  rw [listC_eq]
  exact h
theorem p_shuffled {a b n : Int} {ws : List Str} (hl : ws.length ≤ 100) {Ψ : SV → List CO → Prop} {Ξ : Xn → List CO → Prop} (h : ∀ (us : List Str) (a' b' n' : Int), us.Perm ws → Ψ (.im (.lst (us.map .str))) [bx a' b' n']) : (t__law_shuffled [.cl 0, .im (.lst (ws.map .str))] [bx a b n]).sat Ψ Ξ := by
  refine s_def ?_
  walk_at "go"
  refine s_listC ?_
  have e0 : (CO.lst ((ws.map D.str).map SV.im)) = wsC ws := by rw [List.map_map]; rfl
  rw [e0]
  walk_at "go"
  refine s_forU ?_
  walk_at "go"
  refine s_cb1 (dv_ws rfl) rfl ?_
  walk_at "go"
  refine ⟨by rw [List.length_map]; omega, ?_⟩
  refine s_forLR (fun rest δ => ∃ (a b n : Int) (us vs : List Str) (x4 : SV), vs.length = rest.length ∧ us.length + vs.length ≤ 100 ∧ (us ++ vs).Perm ws ∧ δ = ⟨[.cl 0, .im (.lst (ws.map .str)), .cl 1, .cl 2, x4], [bx a b n, wsC vs, wsC us]⟩) _ _ ⟨_, _, _, [], ws, _, ?_, by simpa using hl, List.Perm.refl _, rfl⟩ ?_ ?_
  · rw [rgD_len, List.length_map]; simp
  · rintro d rest δ ⟨a, b, n, us, vs, x4, hv, hlen, hp, rfl⟩
    rw [List.length_cons] at hv
    refine ⟨_, rfl, ?_⟩
    walk_at "go"
    refine s_cb1 (dv_ws rfl) rfl ?_
    walk_at "go"
    rw [List.length_map]
    refine lq [0] rfl rfl rfl (p_take (by omega) (by omega) fun k _ _ _ k0 k1 => ?_)
    walk_at "go"
    obtain ⟨v, hv2⟩ := get_of_lt (l := vs) (c := k.toNat) (by omega)
    refine s_pop rfl ⟨k0, by rw [List.length_map]; exact k1, by rw [List.length_map]; omega⟩ (u := .im (.str v)) (by rw [List.getElem?_map, hv2]; rfl) ?_
    rw [map_erase_ws]
    walk_at "go"
    refine s_append rfl (by rw [List.length_map]; omega) ?_
    have hlt : k.toNat < vs.length := by omega
    refine ⟨_, _, _, us ++ [v], vs.eraseIdx k.toNat, _, ?_, ?_, ?_, by rw [ws_snoc]; rfl⟩
    · rw [List.length_eraseIdx_of_lt hlt]; omega
    · rw [List.length_eraseIdx_of_lt hlt, List.length_append]; simp; omega
    · rw [List.append_assoc]
      exact (List.Perm.append_left us (perm_pop hv2)).trans hp
  · rintro δ ⟨a, b, n, us, vs, x4, hv, hlen, hp, rfl⟩
    have e : vs = [] := List.length_eq_zero_iff.mp hv
    subst e
    rw [List.append_nil] at hp
    walk_at "go"
    refine rt_F ?_
    refine s_retFz (Nat.not_lt.mpr (Nat.le_of_ble_eq_true rfl)) (frz_ws rfl) (cutTo_box (fun _ => rfl)) ?_
    exact h us _ _ _ hp
theorem p_names {a b n : Int} {m : Nat} (hm : m < 5) {Ψ : SV → List CO → Prop} {Ξ : Xn → List CO → Prop} (h : ∀ (ns : List Str) (a' b' n' : Int), NamesP ns m → Ψ (.im (.lst (ns.map .str))) [bx a' b' n']) : (t__law_names [.cl 0, .im (.int m)] [bx a b n]).sat Ψ Ξ := by
  have em : ((m : Nat) : Int).toNat = m := by simp
  refine s_def ?_
  walk_at "go"
  refine lq [0] rfl rfl rfl (p_take (by decide) (by decide) fun k _ _ _ k0 k1 => ?_)
  walk_at "go"
  refine lq [0] rfl rfl rfl (p_take (by decide) (by decide) fun sp _ _ _ s0 s1 => ?_)
  walk_at "go"
  · refine s_lcP (fun d => match d with | .int k => .str (name0 sp k) | _ => .non) ?_
    walk_at "go"
    refine ⟨by rw [rgD_len, em]; omega, fun d hd => ?_, ?_⟩
    · obtain ⟨i, hi, rfl⟩ := rgD_mem hd
      refine ⟨_, rfl, ?_, rfl⟩
      walk_at "go"
      have hb0 := Int.emod_nonneg (sp + 5 * (0 + (i : Int))) (b := 12) (by decide)
      have hb1 := Int.emod_lt_of_pos (sp + 5 * (0 + (i : Int))) (b := 12) (by decide)
      obtain ⟨x, hx, hxm⟩ := atI_get (l := keptD) hb0 hb1
      refine s_ixL hx ⟨?_, rfl⟩
      have hxs : ∃ s, x = .str s := by
        simp only [keptD, List.mem_cons, List.not_mem_nil, or_false] at hxm
        rcases hxm with rfl | rfl | rfl | rfl | rfl | rfl | rfl | rfl | rfl | rfl | rfl | rfl <;> exact ⟨_, rfl⟩
      obtain ⟨s, rfl⟩ := hxs
      show _ = SV.im (D.str (name0 sp (0 + (i : Int))))
      unfold name0
      rw [hx]
    · rw [rg_map _ (fun k => name0 sp k) (fun k => by show D.str (name0 sp (0 + (k : Int))) = _; rw [Int.zero_add]), em]
      exact s_retF (cutTo_same (Nat.le_of_ble_eq_true rfl)) (h _ _ _ _ (namesP_of names0_all s0 s1 (by omega)))
  · refine s_lcP (fun d => match d with | .int k => .str (L2.cutS "nnnn" none (some (k + 1))) | _ => .non) ?_
    walk_at "go"
    refine ⟨by rw [rgD_len, em]; omega, fun d hd => ?_, ?_⟩
    · obtain ⟨i, hi, rfl⟩ := rgD_mem hd
      refine ⟨_, rfl, ?_, rfl⟩
      walk_at "go"
      try refine ⟨_, _, rfl, slD_str (by decide +kernel), fun _ z => (by cases z), ?_⟩
      try exact ⟨rfl, rfl⟩
    · rw [rg_map _ nnn (fun k => by show D.str (L2.cutS "nnnn" none (some (0 + (k : Int) + 1))) = _; rw [Int.zero_add]; rfl), em]
      have hn := nnn_ok (m := m) (by omega)
      walk_at "go"
      refine lq [0] rfl rfl rfl (p_shuffled (by rw [hn.len]; omega) fun us _ _ _ hp => ?_)
      walk_at "go"
      exact (h us _ _ _ ⟨by rw [hp.length_eq, hn.len], fun s hs => hn.name s (hp.mem_iff.mp hs), hp.nodup_iff.mpr hn.nd, fun s hs => hn.zz s (hp.mem_iff.mp hs)⟩)
  · exfalso; omega
  · refine s_lcP (fun d => match d with | .int k => .str (name2 sp k) | _ => .non) ?_
    walk_at "go"
    refine ⟨by rw [rgD_len, em]; omega, fun d hd => ?_, ?_⟩
    · obtain ⟨i, hi, rfl⟩ := rgD_mem hd
      refine ⟨_, rfl, ?_, rfl⟩
      walk_at "go"
      have hb0 := Int.emod_nonneg (sp + 7 * (0 + (i : Int))) (b := 26) (by decide)
      have hb1 := Int.emod_lt_of_pos (sp + 7 * (0 + (i : Int))) (b := 26) (by decide)
      obtain ⟨x, hx, hxm⟩ := atI_get (l := ("abcdefghijklmnopqrstuvwxyz" : Str).cps.toList) hb0 (by rw [show ("abcdefghijklmnopqrstuvwxyz" : Str).cps.toList.length = 26 by decide +kernel]; exact hb1)
      refine s_ixS (by decide +kernel) hx ?_
      walk_at "go"
      have c0 := Int.emod_nonneg sp (b := 4) (by decide)
      have c1 := Int.emod_lt_of_pos sp (b := 4) (by decide)
      refine s_mulS ⟨by decide +kernel, by omega, by omega⟩ ?_
      refine s_addS ?_ ⟨?_, rfl⟩
      · have : (Txt.mul "q" (sp % 4)).length ≤ 3 := by
          have : sp % 4 = 0 ∨ sp % 4 = 1 ∨ sp % 4 = 2 ∨ sp % 4 = 3 := by omega
          rcases this with e | e | e | e <;> rw [e] <;> decide +kernel
        have e1 : Str.length ⟨#[x]⟩ = 1 := rfl
        omega
      · show _ = SV.im (D.str (name2 sp (0 + (i : Int))))
        unfold name2
        rw [hx]
    · rw [rg_map _ (fun k => name2 sp k) (fun k => by show D.str (name2 sp (0 + (k : Int))) = _; rw [Int.zero_add]), em]
      exact s_retF (cutTo_same (Nat.le_of_ble_eq_true rfl)) (h _ _ _ _ (namesP_of names2_all s0 s1 (by omega)))
theorem NamesP.cols {ns : List Str} {m : Nat} (h : NamesP ns m) (h0 : 0 < m) (hm : m ≤ 900) {cs : List Col} (e : cs.map Col.name = ns) (hs : ∀ c ∈ cs, c.sort = "text" ∨ c.sort = "number") : ColsOk cs ∧ cs.length = m := by
  have el : cs.length = m := by rw [← h.len, ← e, List.length_map]
  exact ⟨⟨fun z => by rw [z] at el; simp at el; omega, by omega, fun c hc => h.name _ (by rw [← e]; exact List.mem_map_of_mem hc), hs, by rw [e]; exact h.nd⟩, el⟩
theorem p_columns {a b n : Int} {m : Nat} (h0 : 0 < m) (hm : m < 5) {Ψ : SV → List CO → Prop} {Ξ : Xn → List CO → Prop} (h : ∀ (cs : List Col) (a' b' n' : Int), ColsOk cs → cs.length = m → (∀ c ∈ cs, c.name ≠ "zz") → Ψ (.im (.lst (cs.map colD))) [bx a' b' n']) : (t__law_columns [.cl 0, .im (.int m)] [bx a b n]).sat Ψ Ξ := by
  refine s_def ?_
  walk_at "go"
  refine s_lcR (fun rest acc ce => (∃ a b n : Int, ce = [bx a b n]) ∧ ∃ (ns : List Str) (cs : List Col) (us : List Str), NamesP ns m ∧ rest = us.map .str ∧ acc = cs.map colD ∧ cs.map Col.name ++ us = ns ∧ ∀ c ∈ cs, c.sort = "text" ∨ c.sort = "number") ?_
  walk_at "go"
  refine lq [0] rfl rfl rfl (p_names hm fun ns _ _ _ hn => ?_)
  walk_at "go"
  refine ⟨by rw [List.length_map, hn.len]; omega, ⟨⟨_, _, _, rfl⟩, ns, [], ns, hn, rfl, rfl, rfl, fun _ z => by cases z⟩, ?_, ?_⟩
  · rintro d ds acc ce ⟨⟨a, b, n, rfl⟩, ns, cs, us, hn, e1, rfl, e3, e4⟩
    cases us with
    | nil => cases e1
    | cons u us =>
      obtain ⟨rfl, rfl⟩ := List.cons.inj e1
      refine ⟨_, rfl, ?_⟩
      walk_at "go"
      refine lq [0] rfl rfl rfl (p_pick (by decide) (by decide) fun d _ _ _ hd => ?_)
      have hs : ∃ t : Str, d = .str t ∧ (t = "text" ∨ t = "number") := by
        simp only [List.mem_cons, List.not_mem_nil, or_false] at hd
        rcases hd with rfl | rfl | rfl
        · exact ⟨_, rfl, .inl rfl⟩
        · exact ⟨_, rfl, .inl rfl⟩
        · exact ⟨_, rfl, .inr rfl⟩
      obtain ⟨t, rfl, ht⟩ := hs
      walk_at "go"
      try refine ⟨_, _, rfl, ?_⟩
      refine ⟨⟨_, _, _, cutOr_same (Nat.le_refl _)⟩, ns, cs ++ [⟨u, t⟩], us, hn, rfl, ?_, ?_, fun c hc => ?_⟩
      · rw [List.map_append]; rfl
      · rw [List.map_append, ← e3]; simp
      · rcases List.mem_append.mp hc with hc | hc
        · exact e4 c hc
        · rw [List.mem_singleton.mp hc]; exact ht
  · rintro acc ce ⟨⟨a, b, n, rfl⟩, ns, cs, us, hn, e1, rfl, e3, e4⟩
    cases us with
    | cons _ _ => cases e1
    | nil =>
      rw [List.append_nil] at e3
      obtain ⟨c1, c2⟩ := hn.cols h0 (by omega) e3 e4
      walk_at "go"
      exact h cs _ _ _ c1 c2 fun c hc => hn.zz _ (by rw [← e3]; exact List.mem_map_of_mem hc)
theorem p_row {a b n : Int} {cs : List Col} (hl : cs.length ≤ 900) {Ψ : SV → List CO → Prop} {Ξ : Xn → List CO → Prop} (h : ∀ (r : List D) (a' b' n' : Int), RowP cs r → Ψ (.im (.tup r)) [bx a' b' n']) : (t__law_row [.cl 0, .im (.lst (cs.map colD))] [bx a b n]).sat Ψ Ξ := by
  refine s_def ?_
  walk_at "go"
  refine s_lcR (fun rest acc ce => (∃ a b n : Int, ce = [bx a b n]) ∧ ∃ (us vs : List Col), rest = vs.map colD ∧ us ++ vs = cs ∧ RowP us acc) ?_
  walk_at "go"
  refine ⟨by rw [List.length_map]; omega, ⟨⟨_, _, _, rfl⟩, [], cs, rfl, rfl, rfl⟩, ?_, ?_⟩
  · rintro d ds acc ce ⟨⟨a, b, n, rfl⟩, us, vs, e1, e2, hr⟩
    cases vs with
    | nil => cases e1
    | cons v vs =>
      obtain ⟨rfl, rfl⟩ := List.cons.inj e1
      refine ⟨_, rfl, ?_⟩
      walk_at "go"
      refine lq [0] rfl rfl rfl (p_cellT fun d _ _ _ hd => ?_)
      walk_at "go"
      try refine ⟨_, _, rfl, ?_⟩
      exact ⟨⟨_, _, _, cutOr_same (Nat.le_refl _)⟩, us ++ [v], vs, rfl, by rw [← e2]; simp, hr.snoc hd⟩
  · rintro acc ce ⟨⟨a, b, n, rfl⟩, us, vs, e1, e2, hr⟩
    cases vs with
    | cons _ _ => cases e1
    | nil =>
      rw [List.append_nil] at e2
      subst e2
      walk_at "go"
      refine s_tupI (k := true) rfl ?_
      exact s_retF (cutTo_same (Nat.le_of_ble_eq_true rfl)) (h _ _ _ _ hr)
/-- rows, each of the columns -/
def RowsP (cs : List Col) (rs : List (List D)) : Prop := ∀ r ∈ rs, RowP cs r
theorem rowsOk_of {cs : List Col} {rs : List (List D)} (hl : rs.length ≤ 900) (h : RowsP cs rs) : RowsOk cs rs := ⟨hl, fun r hr => (h r hr).facts⟩
abbrev rsC (rs : List (List D)) : CO := .lst (rs.map fun r => .im (.tup r))
theorem imL_rs {ce : List CO} : ∀ rs : List (List D), imL ce (rs.map fun z => SV.im (.tup z)) = some (rs.map .tup)
  | [] => rfl
  | w :: ws => by simp only [List.map_cons, imL, imS, imL_rs ws]
theorem dv_rs {ce : List CO} {c : Nat} {rs : List (List D)} (h : ce[c]? = some (rsC rs)) : dv ce (.cl c) = some (.lst (rs.map .tup)) := by
  simp only [dv, h, imL_rs, Option.map_some]
theorem frz_rs {ce : List CO} {c : Nat} {rs : List (List D)} (h : ce[c]? = some (rsC rs)) : frz ce c = some (.lst (rs.map .tup), ce.set c (.fz (.lst (rs.map .tup)))) := by
  unfold frz
  rw [dv_rs h]
theorem rs_snoc (rs : List (List D)) (y : List D) : rsC (rs ++ [y]) = CO.lst ((rs.map fun z => .im (.tup z)) ++ [.im (.tup y)]) := by simp only [rsC, List.map_append, List.map_cons, List.map_nil]
theorem cellP_clean {t : Str} {d : D} (h : CellP t d) {n : Nat} : clean n d = true := by
  rcases h with rfl | ⟨_, s, rfl, hs⟩ | ⟨_, i, rfl, _⟩
  · exact clean_non
  · exact clean_str (strOk_asc hs.asc)
  · exact clean_int
theorem RowP.clean : ∀ {cs : List Col} {r : List D}, RowP cs r → ∀ {n : Nat}, r.all (Fx.clean n) = true
  | [], r, hr, n => by rw [show r = [] from hr]; rfl
  | c :: cs, _, ⟨d, r, rfl, h1, h2⟩, n => by
    show (Fx.clean n d && r.all (Fx.clean n)) = true
    rw [cellP_clean h1, RowP.clean h2]; rfl
theorem RowsP.clean {cs : List Col} {rs : List (List D)} (h : RowsP cs rs) {n : Nat} : (rs.map D.tup).all (Fx.clean (n + 1)) = true := by
  rw [List.all_eq_true]
  intro x hx
  obtain ⟨r, hr, rfl⟩ := List.mem_map.mp hx
  exact (h r hr).clean
theorem frzL_im {ce : List CO} : ∀ ds : List D, frzL (ds.map SV.im) ce = some ce
  | [] => rfl
  | d :: ds => by
    show frzL (ds.map SV.im) ce = some ce
    exact frzL_im ds
theorem frz2_im {ce : List CO} {c : Nat} {ds : List D} (h : ce[c]? = some (.lst (ds.map SV.im))) : frz2 ce c = some (ce.set c (.fz (.lst ds))) := by
  unfold frz2
  rw [h]
  dsimp only
  rw [frzL_im]
  dsimp only
  unfold frz
  rw [dv_lst h]; rfl
theorem sameL_bx (a b n : Int) : sameL [.im (.int a), .im (.int b), .im (.int n)] [.im (.int a), .im (.int b), .im (.int n)] = true := by simp [sameL, scalD]
theorem thaw_one {a b n : Int} {us : List SV} {ds : List D} {o : CO} : thawL [bx a b n, .lst us] [bx a b n, .fz (.lst ds)] [bx a b n, o] = true := by
  show (sameL _ _ && (true && true)) = true
  rw [sameL_bx]; rfl
theorem p_pickC {a b n : Int} {rs : List (List D)} {Ψ : SV → List CO → Prop} {Ξ : Xn → List CO → Prop} (h0 : 0 < rs.length) (h1 : rs.length < 1000)
    (h : ∀ (r : List D) (a' b' n' : Int), r ∈ rs → Ψ (.im (.tup r)) [bx a' b' n', rsC rs]) : (t__law_pick [.cl 0, .cl 1] [bx a b n, rsC rs]).sat Ψ Ξ := by
  refine s_def ?_
  walk_at "go"
  refine s_thaw rfl ⟨[bx a b n, .fz (.lst (rs.map .tup))], ?_, ?_⟩
  · have e : rsC rs = .lst ((rs.map D.tup).map SV.im) := by rw [List.map_map]; rfl
    show (match frz2 [bx a b n, rsC rs] 1 with | some ce1 => some ce1 | none => none) = _
    rw [e, frz2_im (ds := rs.map .tup) rfl]; rfl
  walk_at "go"
  refine ⟨thaw_one, ?_⟩
  walk_at "go"
  rw [List.length_map]
  refine lq [0] rfl rfl rfl (p_take (by omega) (by omega) fun k a' b' n' k0 k1 => ?_)
  obtain ⟨x, hx⟩ := get_of_lt (l := rs) (c := k.toNat) (by omega)
  walk_at "go"
  refine s_ixC (c := 1) (us := rs.map fun z => .im (.tup z)) (d := .tup x) rfl ?_ ?_
  · unfold atI ixN
    rw [if_pos k0, if_pos (by rw [List.length_map]; exact k1)]
    show (rs.map _)[k.toNat]? = _
    rw [List.getElem?_map, hx]; rfl
  · walk_at "go"
    exact h x _ _ _ (List.mem_of_getElem? hx)
theorem cells_rs {ce : List CO} : ∀ rs : List (List D), cellsL ce (rs.map fun z => SV.im (.tup z)) = []
  | [] => rfl
  | _ :: rs => cells_rs rs
theorem in_rs {ce : List CO} {ix : List Nat} : ∀ rs : List (List D), inL ce ix (rs.map fun z => SV.im (.tup z)) = some (rs.map fun z => SV.im (.tup z))
  | [] => rfl
  | _ :: rs => by simp only [List.map_cons, inL, inS, in_rs rs]
theorem out_rs {ix : List Nat} {n : Nat} : ∀ rs : List (List D), (rs.map fun z => SV.im (.tup z)).map (outS ix n) = rs.map fun z => SV.im (.tup z)
  | [] => rfl
  | _ :: rs => by simp only [List.map_cons, outS, out_rs rs]
theorem p_pickL {a b n : Int} {rs : List (List D)} {Ψ : SV → List CO → Prop} {Ξ : Xn → List CO → Prop} (h0 : 0 < rs.length) (h1 : rs.length < 1000)
    (h : ∀ (r : List D) (a' b' n' : Int), r ∈ rs → Ψ (.im (.tup r)) [bx a' b' n', rsC rs]) : (loc t__law_pick [.cl 0, .cl 1] [bx a b n, rsC rs]).sat Ψ Ξ := by
  have e0 : cellsI [bx a b n, rsC rs] [0, 1] = [] := by
    show [] ++ (cellsL [bx a b n, rsC rs] (rs.map fun z => SV.im (.tup z)) ++ []) = []
    rw [cells_rs]; rfl
  have e1 : reachA [.cl 0, .cl 1] [bx a b n, rsC rs] = [0, 1] := by
    show reach [bx a b n, rsC rs] 2 [0, 1] = [0, 1]
    unfold reach
    rw [e0]; rfl
  have e2 : inC [bx a b n, rsC rs] [0, 1] [0, 1] = some [bx a b n, rsC rs] := by
    have : inO [bx a b n, rsC rs] [0, 1] (rsC rs) = some (rsC rs) := by
      show (inL [bx a b n, rsC rs] [0, 1] (rs.map fun z => SV.im (.tup z))).map CO.lst = _
      rw [in_rs]; rfl
    show (match some (bx a b n), (match inO [bx a b n, rsC rs] [0, 1] (rsC rs), some [] with | some o', some r' => some (o' :: r') | _, _ => none) with | some o', some r' => some (o' :: r') | _, _ => none) = _
    rw [this]
  refine lq [0, 1] e1 rfl e2 (p_pickC h0 h1 fun r a' b' n' hr => ?_)
  have e3 : wrB [0, 1] [bx a b n, rsC rs] [bx a' b' n', rsC rs] = [bx a' b' n', rsC rs] := by
    show [bx a' b' n', CO.lst ((rs.map fun z => SV.im (.tup z)).map (outS [0, 1] 2))] = _
    rw [out_rs]
  show Ψ _ (wrB [0, 1] [bx a b n, rsC rs] [bx a' b' n', rsC rs])
  rw [e3]
  exact h r _ _ _ hr
theorem p_rows {a b n : Int} {cs : List Col} {m : Nat} (hl : cs.length ≤ 900) (hm : m < 100) {Ψ : SV → List CO → Prop} {Ξ : Xn → List CO → Prop} (h : ∀ (rs : List (List D)) (a' b' n' : Int), RowsP cs rs → rs.length ≤ m → Ψ (.im (.lst (rs.map .tup))) [bx a' b' n']) : (t__law_rows [.cl 0, .im (.lst (cs.map colD)), .im (.int m)] [bx a b n]).sat Ψ Ξ := by
  refine s_def ?_
  walk_at "go"
  refine s_forU ?_
  walk_at "go"
  refine lq [0] rfl rfl rfl (p_take (by omega) (by omega) fun k _ _ _ k0 k1 => ?_)
  walk_at "go"
  try refine ⟨by omega, ?_⟩
  refine s_forLR (fun rest δ => ∃ (a b n : Int) (rs : List (List D)) (x4 x5 : SV), rs.length + rest.length ≤ m ∧ RowsP cs rs ∧ δ = ⟨[.cl 0, .im (.lst (cs.map colD)), .im (.int m), .cl 1, x4, x5], [bx a b n, rsC rs]⟩) _ _ ⟨_, _, _, [], _, _, (by rw [rgD_len]; simp; omega), (fun _ z => by cases z), rfl⟩ ?_ ?_
  · rintro d rest δ ⟨a, b, n, rs, x4, x5, hlen, hr, rfl⟩
    rw [List.length_cons] at hlen
    have fin : ∀ (r : List D) (a b n : Int) (x4 x5 : SV) (Ξ' : Xn → Sta → Prop), RowP cs r → (appendA (.cl 1) [.im (.tup r)] ⟨[.cl 0, .im (.lst (cs.map colD)), .im (.int m), .cl 1, x4, x5], [bx a b n, rsC rs]⟩).sat (fun _ δ => ∃ (a b n : Int) (rs : List (List D)) (x4 x5 : SV), rs.length + rest.length ≤ m ∧ RowsP cs rs ∧ δ = ⟨[.cl 0, .im (.lst (cs.map colD)), .im (.int m), .cl 1, x4, x5], [bx a b n, rsC rs]⟩) Ξ' := fun r a b n x4 x5 Ξ' hrow => by
      refine s_append rfl (by rw [List.length_map]; omega) ?_
      refine ⟨_, _, _, rs ++ [r], _, _, (by rw [List.length_append]; simp; omega), (fun r' hr' => ?_), (by rw [rs_snoc]; rfl)⟩
      rcases List.mem_append.mp hr' with h | h
      · exact hr r' h
      · rw [List.mem_singleton.mp h]; exact hrow
    refine ⟨_, rfl, ?_⟩
    walk_at "go"
    refine s_dop (x := .lst (rs.map .tup)) (y := .lst []) (dv_rs rfl) rfl (neD_clean (n := 3) (by decide) hr.clean rfl) ?_
    refine ⟨_, rfl, fun hne => ?_, fun _ => ?_⟩
    · have hpos : rs ≠ [] := fun z => by subst z; rw [List.map_nil, decide_eq_true rfl] at hne; cases hne
      have hpos' : 0 < rs.length := List.length_pos_iff.mpr hpos
      walk_at "go"
      refine lq [0] rfl rfl rfl (p_take (by decide) (by decide) fun k _ _ _ k0 k1 => ?_)
      walk_at "go"
      · refine p_pickL hpos' (by omega) fun r _ _ _ hd => ?_
        walk_at "go"
        exact fin r _ _ _ _ _ _ (hr r hd)
      · refine lq [0] rfl rfl rfl (p_row hl fun r _ _ _ hrow => ?_)
        walk_at "go"
        exact fin r _ _ _ _ _ _ hrow
    · walk_at "go"
      refine lq [0] rfl rfl rfl (p_row hl fun r _ _ _ hrow => ?_)
      walk_at "go"
      exact fin r _ _ _ _ _ _ hrow
  · rintro δ ⟨a, b, n, rs, x4, x5, hlen, hr, rfl⟩
    walk_at "go"
    refine rt_F ?_
    refine s_retFz (Nat.not_lt.mpr (Nat.le_of_ble_eq_true rfl)) (frz_rs rfl) (cutTo_box (fun _ => rfl)) ?_
    exact h rs _ _ _ hr (by simpa using hlen)
def toldD (cs : List Col) (y : D) : D := match seqD y with
  | none => .str "rows"
  | some (_, rs) => if rs.all (rowLen cs.length) = false then .str "row" else if rs.all (rowV cs) = false then .str "cell" else .non
theorem told_good {x y : D} {k : Bool} {cs : List Col} (hx : seqD x = some (k, cs.map colD)) (hc : ColsOk cs) (hd : Deep y) (ce : List CO) : f__law_told [.im x, .im y] ce = .ok (.im (toldD cs y)) ce := loc_im (eq_sat (by
  refine s_def ?_
  walk_at "go"
  refine lq [0] rfl rfl rfl (p_initT hx hc hd (fun j rs hy e1 e2 => ?_) (fun hy => ?_) (fun j rs hy e1 => ?_) (fun j rs hy e1 e2 => ?_))
  · refine ⟨rfl, _, _, _, rfl, cutTo_pre rfl, ?_⟩
    walk_at "go"
    exact ⟨by unfold toldD; rw [hy]; dsimp only; rw [e1, e2]; rfl, rfl⟩
  · refine ⟨_, cutTo_pre rfl, rfl, ?_⟩
    show (tryX tabx_InvalidTable 3 _ _ _).sat _
    refine s_tryX rfl rfl ?_
    walk_at "go"
    exact ⟨by unfold toldD; rw [hy], rfl⟩
  · refine ⟨_, cutTo_pre rfl, rfl, ?_⟩
    show (tryX tabx_InvalidTable 3 _ _ _).sat _
    refine s_tryX rfl rfl ?_
    walk_at "go"
    exact ⟨by unfold toldD; rw [hy]; dsimp only; rw [e1]; rfl, rfl⟩
  · refine ⟨_, cutTo_pre rfl, rfl, ?_⟩
    show (tryX tabx_InvalidTable 3 _ _ _).sat _
    refine s_tryX rfl rfl ?_
    walk_at "go"
    exact ⟨by unfold toldD; rw [hy]; dsimp only; rw [e1, e2]; rfl, rfl⟩))
theorem p_init_bad {x y : D} (hd : DeepC x) (ha : areCols x = false) {Ψ : SV → List CO → Prop} {Ξ : Xn → List CO → Prop} (h : Ξ (xTab "columns") [.ins "Table" []]) : (t_Table___init__ [.cl 0, .im x, .im y] [.ins "Table" []]).sat Ψ Ξ := by
  refine s_def ?_
  walk_at "go"
  refine sat_of_eq (are_columns_eq hd _) ?_
  rw [ha]
  walk_at "go"
  dsimp only
  exact exF_sat (Ψf := Ψ) (cutTo_same (Nat.le_refl _)) rfl h
theorem told_bad {x y : D} (hd : DeepC x) (ha : areCols x = false) (ce : List CO) : f__law_told [.im x, .im y] ce = .ok (.im (.str "columns")) ce := loc_im (eq_sat (by
  refine s_def ?_
  walk_at "go"
  refine lq [0] rfl rfl rfl (p_init_bad hd ha ?_)
  refine ⟨_, cutTo_pre rfl, rfl, ?_⟩
  show (tryX tabx_InvalidTable 3 _ _ _).sat _
  refine s_tryX rfl rfl ?_
  walk_at "go"
  exact ⟨rfl, rfl⟩))
theorem all_p {l : List D} {d : D} (p : D → Bool) (e : l.all p = true) (hd : d ∈ l) : p d = true := List.all_eq_true.mp e d hd
def tidyB (n : Nat) (d : D) : Bool := match toP d with
  | some p => p.canLay0 && decide (p.depth ≤ n)
  | none => false
theorem p_odd_cell {a b n : Int} {t : Str} (ht : t = "text" ∨ t = "number") {Ψ : SV → List CO → Prop} {Ξ : Xn → List CO → Prop} (h : ∀ (d : D) (a' b' n' : Int), kindV d = true → Fx.isNon d = false → isOfSort d t = false → tidyB 18 d = true → Ψ (.im d) [bx a' b' n']) : (t__law_odd_cell [.cl 0, .im (.str t)] [bx a b n]).sat Ψ Ξ := by
  rcases ht with rfl | rfl
  · refine s_def ?_
    walk_at "go"
    refine s_mulS ⟨by decide +kernel, by decide, by decide⟩ ?_
    refine s_addS (by decide +kernel) ?_
    walk_at "go"
    refine lq [0] rfl rfl rfl (p_pick (Nat.le_of_ble_eq_true rfl) (Nat.le_of_ble_eq_true rfl) fun d _ _ _ hd => ?_)
    have hk : (kindV d && (!Fx.isNon d && (!isOfSort d "text" && tidyB 18 d))) = true := all_p (fun d => kindV d && (!Fx.isNon d && (!isOfSort d "text" && tidyB 18 d))) (by decide +kernel) hd
    simp only [Bool.and_eq_true, Bool.not_eq_true'] at hk
    walk_at "go"
    exact h d _ _ _ hk.1 hk.2.1 hk.2.2.1 hk.2.2.2
  · refine s_def ?_
    walk_at "go"
    refine s_mulS ⟨by decide +kernel, by decide, by decide⟩ ?_
    refine s_addS (by decide +kernel) ?_
    walk_at "go"
    refine lq [0] rfl rfl rfl (p_pick (Nat.le_of_ble_eq_true rfl) (Nat.le_of_ble_eq_true rfl) fun d _ _ _ hd => ?_)
    have hk : (kindV d && (!Fx.isNon d && (!isOfSort d "number" && tidyB 18 d))) = true := all_p (fun d => kindV d && (!Fx.isNon d && (!isOfSort d "number" && tidyB 18 d))) (by decide +kernel) hd
    simp only [Bool.and_eq_true, Bool.not_eq_true'] at hk
    walk_at "go"
    exact h d _ _ _ hk.1 hk.2.1 hk.2.2.1 hk.2.2.2
theorem at_zero {α : Type} {x : α} {l : List α} : atI (x :: l) 0 = some x := by
  unfold atI ixN
  rw [if_pos (by decide), if_pos (by rw [List.length_cons]; omega)]
  rfl
def nestD : D := .tup [.lst [.tup [.lst [.tup [.lst [.tup [.lst [.int 3]]]]]]]]
theorem nested_eq (ce : List CO) : f__law_nested [.im (.int 3)] ce = .ok (.im nestD) ce := loc_im (eq_sat (by
  refine s_def ?_
  walk_at "go"
  refine s_forU ?_
  walk_at "go"
  refine s_forL1 ⟨_, rfl, ?_⟩
  walk_at "go"
  refine s_forL1 ⟨_, rfl, ?_⟩
  walk_at "go"
  refine s_forL1 ⟨_, rfl, ?_⟩
  walk_at "go"
  refine s_forL1 ⟨_, rfl, ?_⟩
  walk_at "go"
  refine s_forL0 (g := gNm 1) (p := aAsg (aTup (aCons (aLst (aCons (aVar 0) aNil)) aNil)) (gNm 0)) ?_
  walk_at "go"
  refine s_forL0 ?_
  walk_at "go"
  try exact ⟨rfl, rfl⟩))
theorem colsL_snoc : ∀ (l met : List D) (p : D), colsL met (l ++ [p]) = (colsL met l && colV (met ++ l.map fstD) p)
  | [], met, p => by
    show (colV met p && true) = (true && colV (met ++ []) p)
    rw [List.append_nil, Bool.and_true, Bool.true_and]
  | q :: l, met, p => by
    show (colV met q && colsL (met ++ [fstD q]) (l ++ [p])) = _
    rw [colsL_snoc l (met ++ [fstD q]) p]
    show _ = ((colV met q && colsL (met ++ [fstD q]) l) && colV (met ++ (fstD q :: l.map fstD)) p)
    rw [Bool.and_assoc, List.append_assoc]; rfl
theorem areCols_snoc {l : List D} {p : D} (h : ∀ met, colV met p = false) : areCols (.lst (l ++ [p])) = false := by
  unfold areCols
  show (match some (true, l ++ [p]) with | some (_, p :: ps) => colsL [] (p :: ps) | _ => false) = false
  have e := colsL_snoc l [] p
  rw [h, Bool.and_false] at e
  cases q : l ++ [p] with
  | nil => rfl
  | cons x xs => rw [q] at e; exact e
theorem colV_name {met : List D} {a b : D} (h : isNameV a = false) : colV met (.tup [a, b]) = false := by
  unfold colV
  dsimp only
  rw [h]; rfl
theorem deepC_snoc {cs : List Col} (hc : ColsOk cs) (hl : cs.length ≤ 100) {p : D} (h1 : kindV p = true) (h2 : ∀ l, p = .tup l → ∀ d ∈ l, kindV d = true) : DeepC (.lst (cs.map colD ++ [p])) := by
  have hd := deepC_cols (x := .lst (cs.map colD)) (k := true) rfl hc
  refine ⟨rfl, fun j ps e => ?_⟩
  cases e
  obtain ⟨_, g⟩ := hd.pairs true _ rfl
  refine ⟨by rw [List.length_append, List.length_map]; simp; omega, fun q hq => ?_⟩
  rcases List.mem_append.mp hq with hq | hq
  · exact g q hq
  · rw [List.mem_singleton.mp hq]; exact ⟨h1, h2⟩
def deepCb (v : D) : Bool := kindV v && match seqD v with
  | some (_, ps) => decide (ps.length ≤ 1000) && ps.all fun p => kindV p && match p with
    | .tup l => l.all kindV
    | _ => true
  | none => true
theorem deepC_of {v : D} (h : deepCb v = true) : DeepC v := by
  unfold deepCb at h
  rw [Bool.and_eq_true] at h
  refine ⟨h.1, fun j ps e => ?_⟩
  have h2 := h.2
  rw [e] at h2
  dsimp only at h2
  rw [Bool.and_eq_true] at h2
  refine ⟨of_decide_eq_true h2.1, fun p hp => ?_⟩
  have h3 := List.all_eq_true.mp h2.2 p hp
  rw [Bool.and_eq_true] at h3
  refine ⟨h3.1, fun l el d hd => ?_⟩
  subst el
  exact List.all_eq_true.mp h3.2 d hd
theorem dup_bad {c : Col} {cs : List Col} : areCols (.lst ((c :: cs).map colD ++ [colD c])) = false := by
  have e := colsL_snoc ((c :: cs).map colD) [] (colD c)
  have e2 : colV ([] ++ ((c :: cs).map colD).map fstD) (colD c) = false := by
    show (isNameV (.str c.name) && (!(eqF (.str c.name) (.str c.name) || inF (.str c.name) ((cs.map colD).map fstD)) && _)) = false
    rw [show eqF (.str c.name) (.str c.name) = true from decide_eq_true rfl]
    simp
  rw [e2, Bool.and_false] at e
  exact e
theorem p_odd_columns {a b n : Int} {cs : List Col} (hc : ColsOk cs) (hl : cs.length ≤ 100) {Ψ : SV → List CO → Prop} {Ξ : Xn → List CO → Prop} (h : ∀ (d : D) (a' b' n' : Int), DeepC d → areCols d = false → Ψ (.im d) [bx a' b' n']) : (t__law_odd_columns [.cl 0, .im (.lst (cs.map colD))] [bx a b n]).sat Ψ Ξ := by
  cases cs with
  | nil => exact absurd rfl hc.ne
  | cons c cs =>
    have hll : ((c :: cs).map colD).length ≤ 100 := by rw [List.length_map]; exact hl
    have hm : (c :: cs).map colD = colD c :: cs.map colD := rfl
    rw [List.length_cons] at hl
    refine s_def ?_
    walk_at "go"
    refine s_ixL (d := colD c) at_zero ?_
    walk_at "go"
    repeat (refine s_addL (by simp only [List.length_cons, List.length_append, List.length_map, List.length_nil]; omega) ?_; walk_at "go")
    refine sat_of_eq (nested_eq _) ?_
    walk_at "go"
    repeat (refine s_addL (by simp only [List.length_cons, List.length_append, List.length_map, List.length_nil]; omega) ?_; walk_at "go")
    refine lq [0] rfl rfl rfl (p_pick (Nat.le_of_ble_eq_true rfl) (Nat.le_of_ble_eq_true rfl) fun d _ _ _ hd => ?_)
    walk_at "go"
    have hl2 : (c :: cs).length ≤ 100 := hl
    have snoc : ∀ (p : D), (∀ met, colV met p = false) → kindV p = true → (∀ l, p = .tup l → ∀ d ∈ l, kindV d = true) → DeepC (.lst ((c :: cs).map colD ++ [p])) ∧ areCols (.lst ((c :: cs).map colD ++ [p])) = false := fun p h1 h2 h3 => ⟨deepC_snoc hc hl2 h2 h3, areCols_snoc h1⟩
    have nt : ∀ (a b : D), kindV a = true → kindV b = true → ∀ l, D.tup [a, b] = .tup l → ∀ d ∈ l, kindV d = true := fun a b h1 h2 l e d hd => by
      cases e
      simp only [List.mem_cons, List.not_mem_nil, or_false] at hd
      rcases hd with rfl | rfl
      · exact h1
      · exact h2
    have fin : DeepC d ∧ areCols d = false := by
      simp only [List.mem_cons, List.mem_append, List.not_mem_nil, or_false] at hd
      rcases hd with rfl | rfl | rfl | rfl | rfl | rfl | rfl | rfl | rfl | rfl | rfl | rfl | rfl | rfl | rfl | rfl | rfl | rfl | rfl | rfl | rfl
      · exact ⟨deepC_of (by decide +kernel), by decide +kernel⟩
      · exact ⟨deepC_of (by decide +kernel), by decide +kernel⟩
      · exact ⟨deepC_of (by decide +kernel), by decide +kernel⟩
      · exact ⟨deepC_of (by decide +kernel), by decide +kernel⟩
      · exact ⟨deepC_of (by decide +kernel), by decide +kernel⟩
      · exact ⟨deepC_of (by decide +kernel), by decide +kernel⟩
      · have hn := name_short (hc.name c List.mem_cons_self)
        exact ⟨deepC_snoc hc hl2 rfl (nt _ _ (decide_eq_true (by omega)) (by rcases hc.sort c List.mem_cons_self with e | e <;> rw [e] <;> decide +kernel)), dup_bad⟩
      · exact snoc _ (fun met => colV_name (by decide +kernel)) rfl (fun l e d hd => by cases e; exact all_p kindV (by decide +kernel) hd)
      · exact snoc _ (fun _ => rfl) rfl (fun l e => by cases e)
      · exact snoc _ (fun met => by
          show (isNameV (.str "zz") && (!inF (.str "zz") met && inF (.str "Text") [.str "text", .str "number"])) = false
          rw [show inF (.str "Text") [.str "text", .str "number"] = false by decide +kernel, Bool.and_false, Bool.and_false]) rfl (fun l e d hd => by cases e; exact all_p kindV (by decide +kernel) hd)
      · exact snoc _ (fun _ => rfl) rfl (fun l e => by cases e)
      · exact snoc _ (fun _ => rfl) rfl (fun l e d hd => by cases e; exact all_p kindV (by decide +kernel) hd)
      · exact ⟨deepC_of (by decide +kernel), by decide +kernel⟩
      · exact snoc _ (fun met => colV_name (by decide +kernel)) rfl (fun l e d hd => by cases e; exact all_p kindV (by decide +kernel) hd)
      · exact snoc _ (fun met => colV_name (by decide +kernel)) rfl (fun l e d hd => by cases e; exact all_p kindV (by decide +kernel) hd)
      · exact snoc _ (fun met => by
          show (isNameV (.str "zz") && (!inF (.str "zz") met && false)) = false
          rw [Bool.and_false, Bool.and_false]) rfl (fun l e d hd => by cases e; exact all_p kindV (by decide +kernel) hd)
      · exact ⟨deepC_of (by decide +kernel), by decide +kernel⟩
      · exact ⟨deepC_of (by decide +kernel), by decide +kernel⟩
      · exact ⟨deepC_of (by decide +kernel), by decide +kernel⟩
      · exact snoc _ (fun met => colV_name (by decide +kernel)) rfl (fun l e d hd => by cases e; exact all_p kindV (by decide +kernel) hd)
      · exact ⟨deepC_of (by decide +kernel), by decide +kernel⟩
    exact h d _ _ _ fin.1 fin.2
abbrev rw1 (r : List D) : CO := .lst (r.map SV.im)
abbrev rf1 (r : List D) : CO := .fz (.lst r)
/-- the box, the rows, and the list of the rows -/
def cls (i m : Nat) : List SV := (List.range' i m).map SV.cl
theorem cls_len (i m : Nat) : (cls i m).length = m := by simp [cls]
theorem cls_cons (i m : Nat) : cls i (m + 1) = .cl i :: cls (i + 1) m := by simp [cls, List.range'_succ]
theorem get_mid {α : Type} (pre : List α) (x : α) (post : List α) : (pre ++ x :: post)[pre.length]? = some x := by simp
theorem set_mid {α : Type} (pre : List α) (x y : α) (post : List α) : (pre ++ x :: post).set pre.length y = pre ++ y :: post := by simp
theorem frzL_cls : ∀ (rs : List (List D)) (pre post : List CO), frzL (cls pre.length rs.length) (pre ++ (rs.map rw1 ++ post)) = some (pre ++ (rs.map rf1 ++ post))
  | [], pre, post => rfl
  | r :: rs, pre, post => by
    rw [List.length_cons, cls_cons]
    have e : toIm (pre ++ ((r :: rs).map rw1 ++ post)) (.cl pre.length) = some (.lst r, (pre ++ [rf1 r]) ++ (rs.map rw1 ++ post)) := by
      show frz (pre ++ rw1 r :: (rs.map rw1 ++ post)) pre.length = _
      unfold frz
      rw [dv_lst (ds := r) (get_mid _ _ _)]
      dsimp only
      rw [set_mid]
      simp
    unfold frzL
    rw [e]
    dsimp only
    have ih := frzL_cls rs (pre ++ [rf1 r]) post
    rw [List.length_append, List.length_singleton] at ih
    rw [ih]
    simp
theorem frzL_ins {d : D} {B : List SV} : ∀ (A : List SV) (ce : List CO), frzL (A ++ .im d :: B) ce = frzL (A ++ B) ce
  | [], ce => rfl
  | s :: A, ce => by
    show (match toIm ce s with | some (_, ce1) => frzL (A ++ .im d :: B) ce1 | none => none) = (match toIm ce s with | some (_, ce1) => frzL (A ++ B) ce1 | none => none)
    cases toIm ce s with
    | none => rfl
    | some p => exact frzL_ins A p.2
theorem imL_cls : ∀ (rs : List (List D)) (pre post : List CO), imL (pre ++ (rs.map rf1 ++ post)) (cls pre.length rs.length) = some (rs.map .lst)
  | [], pre, post => rfl
  | r :: rs, pre, post => by
    rw [List.length_cons, cls_cons]
    have e : imS (pre ++ ((r :: rs).map rf1 ++ post)) (.cl pre.length) = some (.lst r) := by
      show (match (pre ++ rf1 r :: (rs.map rf1 ++ post))[pre.length]? with | some (.fz d) => some d | _ => none) = _
      rw [get_mid]
    have ih := imL_cls rs (pre ++ [rf1 r]) post
    rw [List.length_append, List.length_singleton] at ih
    unfold imL
    rw [e]
    have e2 : (pre ++ [rf1 r]) ++ (rs.map rf1 ++ post) = pre ++ ((r :: rs).map rf1 ++ post) := by simp
    rw [e2] at ih
    rw [ih]; rfl
theorem imL_ins {ce : List CO} {d : D} {B : List SV} {vb : List D} (hb : imL ce B = some vb) : ∀ {A : List SV} {va : List D}, imL ce A = some va → imL ce (A ++ .im d :: B) = some (va ++ d :: vb)
  | [], va, h => by
    cases h
    show (match some d, imL ce B with | some d, some ds => some (d :: ds) | _, _ => none) = _
    rw [hb]; rfl
  | s :: A, va, h => by
    simp only [imL] at h
    cases q : imS ce s with
    | none => rw [q] at h; cases h
    | some x =>
      rw [q] at h
      cases q2 : imL ce A with
      | none => rw [q2] at h; cases h
      | some xs =>
        rw [q2] at h
        cases h
        simp only [List.cons_append, imL, q, imL_ins hb q2]
theorem imL_take {ce : List CO} : ∀ {A : List SV} {va : List D} (k : Nat), imL ce A = some va → imL ce (A.take k) = some (va.take k) ∧ imL ce (A.drop k) = some (va.drop k)
  | [], va, k, h => by cases h; simp [imL]
  | s :: A, va, 0, h => ⟨rfl, h⟩
  | s :: A, va, k + 1, h => by
    simp only [imL] at h
    cases q : imS ce s with
    | none => rw [q] at h; cases h
    | some x =>
      rw [q] at h
      cases q2 : imL ce A with
      | none => rw [q2] at h; cases h
      | some xs =>
        rw [q2] at h
        cases h
        obtain ⟨h1, h2⟩ := imL_take k q2
        exact ⟨by simp only [List.take_succ_cons, imL, q, h1], h2⟩
def rowsCE (a b n : Int) (rs : List (List D)) (its : List SV) : List CO := bx a b n :: (rs.map rw1 ++ [.lst its])
def rowsFZ (a b n : Int) (rs : List (List D)) (vs : List D) : List CO := bx a b n :: (rs.map rf1 ++ [.fz (.lst vs)])
/-- the items of the list of rows tell these data -/
def Its (rs : List (List D)) (its : List SV) (vs : List D) : Prop := ∀ (a b n : Int) (X : CO), frzL its (bx a b n :: (rs.map rw1 ++ [X])) = some (bx a b n :: (rs.map rf1 ++ [X])) ∧ imL (bx a b n :: (rs.map rf1 ++ [X])) its = some vs
theorem its_cls (rs : List (List D)) : Its rs (cls 1 rs.length) (rs.map .lst) := fun a b n X => ⟨frzL_cls rs [bx a b n] [X], imL_cls rs [bx a b n] [X]⟩
theorem its_ins {rs : List (List D)} {its : List SV} {vs : List D} (h : Its rs its vs) (k : Nat) (d : D) : Its rs (its.take k ++ .im d :: its.drop k) (vs.take k ++ d :: vs.drop k) := fun a b n X => by
  obtain ⟨h1, h2⟩ := h a b n X
  refine ⟨by rw [frzL_ins, List.take_append_drop]; exact h1, ?_⟩
  obtain ⟨g1, g2⟩ := imL_take k h2
  exact imL_ins g2 g1
theorem rows_at (x : CO) (l : List CO) (y : CO) : (x :: (l ++ [y]))[l.length + 1]? = some y := by simp
theorem rows_set (x : CO) (l : List CO) (y z : CO) : (x :: (l ++ [y])).set (l.length + 1) z = x :: (l ++ [z]) := by simp
theorem frz2_rows {a b n : Int} {rs : List (List D)} {its : List SV} {vs : List D} (h : Its rs its vs) : frz2 (rowsCE a b n rs its) (rs.length + 1) = some (rowsFZ a b n rs vs) := by
  obtain ⟨h1, h2⟩ := h a b n (.lst its)
  have e1 : (rowsCE a b n rs its)[rs.length + 1]? = some (.lst its) := by
    have := rows_at (bx a b n) (rs.map rw1) (.lst its)
    rw [List.length_map] at this
    exact this
  have e2 : (bx a b n :: (rs.map rf1 ++ [CO.lst its]))[rs.length + 1]? = some (.lst its) := by
    have := rows_at (bx a b n) (rs.map rf1) (.lst its)
    rw [List.length_map] at this
    exact this
  have e3 := rows_set (bx a b n) (rs.map rf1) (.lst its) (.fz (.lst vs))
  rw [List.length_map] at e3
  unfold frz2
  rw [e1]
  dsimp only
  rw [show frzL its (rowsCE a b n rs its) = _ from h1]
  dsimp only
  unfold frz
  have e4 : dv (bx a b n :: (rs.map rf1 ++ [CO.lst its])) (.cl (rs.length + 1)) = some (.lst vs) := by
    simp only [dv, e2, h2, Option.map_some]
  rw [e4]
  dsimp only
  rw [e3]; rfl
theorem thaw_rows {a b n : Int} {rs : List (List D)} {its : List SV} {vs : List D} : thawL (rowsCE a b n rs its) (rowsFZ a b n rs vs) (rowsFZ a b n rs vs) = true := by
  have h : ∀ rs : List (List D), thawL (rs.map rw1 ++ [.lst its]) (rs.map rf1 ++ [.fz (.lst vs)]) (rs.map rf1 ++ [.fz (.lst vs)]) = true := fun rs => by
    induction rs with
    | nil => rfl
    | cons r rs ih => exact ih
  show (sameL _ _ && thawL _ _ _) = true
  rw [sameL_bx, h]; rfl
/-- a slot that holds the list of the rows, data for a while -/
theorem s_thawR {i : Nat} {ae : AE} {sl : List SV} {a b n : Int} {rs : List (List D)} {its : List SV} {vs : List D} {Ψ : SV → Sta → Prop} {Ξ : Xn → Sta → Prop} (hs : sl[i]? = some (.cl (rs.length + 1))) (hi : Its rs its vs)
    (h : (ae ⟨sl, rowsFZ a b n rs vs⟩).sat (fun s δ2 => scalS s = true ∧ δ2.ce = rowsFZ a b n rs vs ∧ Ψ s ⟨sl, rowsCE a b n rs its⟩) fun _ _ => False) : (aThaw [i] ae ⟨sl, rowsCE a b n rs its⟩).sat Ψ Ξ := by
  refine s_thaw ?_ ⟨rowsFZ a b n rs vs, ?_, Out.sat_mono h (fun s δ2 ⟨h1, h2, h3⟩ => ⟨h1, by rw [h2]; exact thaw_rows, h3⟩) fun _ _ z => z⟩
  · show ((match sl[i]? with | some (.cl _) => false | _ => true) && true) = false
    rw [hs]; rfl
  · show (match sl[i]? with
      | some (.cl c) => (match frz2 (rowsCE a b n rs its) c with
        | some ce1 => some ce1
        | none => none)
      | some (.im _) => some (rowsCE a b n rs its)
      | _ => none) = _
    rw [hs]
    dsimp only
    rw [frz2_rows hi]
theorem cellsL_im {ce : List CO} : ∀ ds : List D, cellsL ce (ds.map SV.im) = []
  | [] => rfl
  | _ :: ds => cellsL_im ds
theorem inL_im {ce : List CO} {ix : List Nat} : ∀ ds : List D, inL ce ix (ds.map SV.im) = some (ds.map SV.im)
  | [] => rfl
  | d :: ds => by
    show (match some (SV.im d), inL ce ix (ds.map SV.im) with | some s', some r' => some (s' :: r') | _, _ => none) = _
    rw [inL_im ds]; rfl
/-- a def that is handed the box and data -/
theorem lqB {F : Fn} {ds : List D} {a b n : Int} {REST : List CO} {Ψ : SV → List CO → Prop} {Ξ : Xn → List CO → Prop}
    (h : (F (.cl 0 :: ds.map SV.im) [bx a b n]).sat (fun s ce => ∃ (d : D) (a' b' n' : Int), s = .im d ∧ ce = [bx a' b' n'] ∧ Ψ (.im d) (bx a' b' n' :: REST)) fun _ _ => False) : (loc F (.cl 0 :: ds.map SV.im) (bx a b n :: REST)).sat Ψ Ξ := by
  have hx : reachA (.cl 0 :: ds.map SV.im) (bx a b n :: REST) = [0] := by
    show reach (bx a b n :: REST) (REST.length + 1) (addNew [] ([0] ++ cellsL (bx a b n :: REST) (ds.map SV.im))) = [0]
    rw [cellsL_im]; rfl
  have h1 : inL (bx a b n :: REST) [0] (.cl 0 :: ds.map SV.im) = some (.cl 0 :: ds.map SV.im) := by
    show (match some (SV.cl 0), inL (bx a b n :: REST) [0] (ds.map SV.im) with | some s', some r' => some (s' :: r') | _, _ => none) = _
    rw [inL_im ds]
  refine lq [0] hx h1 rfl (Out.sat_mono h (fun s ce ⟨d, a', b', n', e1, e2, k⟩ => ?_) fun _ _ z => z.elim)
  subst e1
  subst e2
  exact k
theorem imL_len {ce : List CO} : ∀ {its : List SV} {vs : List D}, imL ce its = some vs → vs.length = its.length
  | [], vs, h => by cases h; rfl
  | s :: its, vs, h => by
    simp only [imL] at h
    cases q : imS ce s with
    | none => rw [q] at h; cases h
    | some x =>
      rw [q] at h
      cases q2 : imL ce its with
      | none => rw [q2] at h; cases h
      | some xs =>
        rw [q2] at h
        cases h
        rw [List.length_cons, List.length_cons, imL_len q2]
theorem its_len {rs : List (List D)} {its : List SV} {vs : List D} (h : Its rs its vs) : vs.length = its.length := imL_len (h 0 0 0 .dead).2
theorem s_ixCell {tabs : Tabs} {δ : Sta} {Ψ : SV → Sta → Prop} {Ξ : Xn → Sta → Prop} {c : Nat} {us : List SV} {i : Int} {u : SV} (hc : δ.ce[c]? = some (.lst us)) (hi : atI us i = some u) (h : Ψ (nrm δ.ce u) δ) : (ixA tabs (.cl c) (.im (.int i)) δ).sat Ψ Ξ := by
  rw [show @ixA = @Fx.ixA from ixA_eq]
  unfold Fx.ixA
  simp only [dv]
  rw [hc]
  dsimp only
  rw [hi]
  exact h
theorem rows_get {a b n : Int} {rs : List (List D)} {its : List SV} : (rowsCE a b n rs its)[rs.length + 1]? = some (.lst its) := by
  have := rows_at (bx a b n) (rs.map rw1) (.lst its)
  rw [List.length_map] at this
  exact this
theorem fz_at {a b n : Int} {rs : List (List D)} {vs : List D} : (rowsFZ a b n rs vs)[rs.length + 1]? = some (.fz (.lst vs)) := by
  have := rows_at (bx a b n) (rs.map rf1) (.fz (.lst vs))
  rw [List.length_map] at this
  exact this
theorem rows_live {a b n : Int} {rs : List (List D)} {its : List SV} : notFz (rowsCE a b n rs its) (rs.length + 1) = true := by
  unfold notFz
  rw [rows_get]
theorem p_pickR {a b n : Int} {rs : List (List D)} {its : List SV} {vs : List D} (hi : Its rs its vs) (h0 : 0 < its.length) (h1 : its.length < 1000) {Ψ : SV → List CO → Prop} {Ξ : Xn → List CO → Prop}
    (h : ∀ (k : Int) (u : SV) (a' b' n' : Int), 0 ≤ k → k < its.length → atI its k = some u → (retF (rowsCE a b n rs its) (nrm (rowsCE a' b' n' rs its) u) (rowsCE a' b' n' rs its)).sat Ψ Ξ) : (t__law_pick [.cl 0, .cl (rs.length + 1)] (rowsCE a b n rs its)).sat Ψ Ξ := by
  have hl := its_len hi
  refine s_def ?_
  walk_at "go"
  refine s_varB rfl rows_live ?_
  walk_at "go"
  refine s_thawR rfl hi ?_
  walk_at "go"
  refine s_varF rfl fz_at ?_
  walk_at "go"
  refine lqB (ds := [.int (vs.length : Nat)]) (p_take (by omega) (by omega) fun k a' b' n' k0 k1 => ⟨_, _, _, _, rfl, rfl, ?_⟩)
  obtain ⟨u, hu, _⟩ := atI_get (l := its) k0 (by omega)
  walk_at "go"
  refine s_ixCell rows_get hu ?_
  exact h k u _ _ _ k0 (by omega) hu
theorem row_get {a b n : Int} {rs : List (List D)} {its : List SV} {j : Nat} {r : List D} (h : rs[j]? = some r) : (rowsCE a b n rs its)[j + 1]? = some (rw1 r) := by
  show (rs.map rw1 ++ [CO.lst its])[j]? = _
  have hj : j < rs.length := by
    rcases Nat.lt_or_ge j rs.length with z | z
    · exact z
    · rw [List.getElem?_eq_none z] at h; cases h
  rw [List.getElem?_append_left (by rw [List.length_map]; exact hj), List.getElem?_map, h]; rfl
theorem row_set {a b n : Int} {rs : List (List D)} {its : List SV} {j : Nat} {r : List D} (hj : j < rs.length) : (rowsCE a b n rs its).set (j + 1) (rw1 r) = rowsCE a b n (rs.set j r) its := by
  show bx a b n :: (rs.map rw1 ++ [CO.lst its]).set j (rw1 r) = bx a b n :: ((rs.set j r).map rw1 ++ [CO.lst its])
  rw [List.set_append_left _ _ (by rw [List.length_map]; exact hj), List.map_set]
theorem cls_get {m : Nat} {k : Int} (h0 : 0 ≤ k) (h1 : k < m) : atI (cls 1 m) k = some (.cl (k.toNat + 1)) := by
  unfold atI ixN
  rw [if_pos h0, if_pos (by rw [cls_len]; exact h1)]
  show (cls 1 m)[k.toNat]? = _
  unfold cls
  rw [List.getElem?_map, List.getElem?_range' (by omega)]
  show some (SV.cl (1 + 1 * k.toNat)) = _
  rw [Nat.one_mul, Nat.add_comm]
theorem row_live {a b n : Int} {rs : List (List D)} {its : List SV} {j : Nat} (hj : j < rs.length) : nrm (rowsCE a b n rs its) (.cl (j + 1)) = .cl (j + 1) := by
  unfold nrm
  dsimp only
  rw [row_get (List.getElem?_eq_getElem hj)]
theorem cellOk_odd {c : Col} {d : D} (h1 : Fx.isNon d = false) (h2 : isOfSort d c.sort = false) : cellOk c d = false := by
  unfold cellOk
  split
  · cases h1
  · exact h2
theorem rowOk_set {d : D} {c : Col} : ∀ {cs : List Col} {ds : List D} {i : Nat}, cs[i]? = some c → i < ds.length → cellOk c d = false → rowOk cs (ds.set i d) = false
  | [], _, _, h, _, _ => by cases h
  | _ :: _, [], _, _, h, _ => by cases h
  | c' :: cs, x :: ds, 0, h, _, hk => by
    cases h
    show (cellOk c d && rowOk cs ds) = false
    rw [hk]; rfl
  | c' :: cs, x :: ds, i + 1, h, hl, hk => by
    show (cellOk c' x && rowOk cs (ds.set i d)) = false
    rw [rowOk_set (cs := cs) (ds := ds) h (Nat.lt_of_succ_lt_succ hl) hk, Bool.and_false]
theorem toldD_cell {cs : List Col} {rs : List (List D)} {j i : Nat} {r : List D} {c : Col} {d : D} (hr : RowsP cs rs) (hj : rs[j]? = some r) (hi : cs[i]? = some c) (h1 : Fx.isNon d = false) (h2 : isOfSort d c.sort = false) : toldD cs (.lst ((rs.set j (r.set i d)).map .lst)) = .str "cell" := by
  have hjl : j < rs.length := by
    rcases Nat.lt_or_ge j rs.length with z | z
    · exact z
    · rw [List.getElem?_eq_none z] at hj; cases hj
  have hil : i < cs.length := by
    rcases Nat.lt_or_ge i cs.length with z | z
    · exact z
    · rw [List.getElem?_eq_none z] at hi; cases hi
  have hrl : r.length = cs.length := (hr r (List.mem_of_getElem? hj)).facts.1
  have a1 : ((rs.set j (r.set i d)).map D.lst).all (rowLen cs.length) = true := by
    refine List.all_eq_true.mpr fun x hx => ?_
    obtain ⟨y, hy, rfl⟩ := List.mem_map.mp hx
    refine decide_eq_true ?_
    rcases List.mem_or_eq_of_mem_set hy with hy | rfl
    · exact (hr y hy).facts.1
    · rw [List.length_set]; exact hrl
  have a2 : ((rs.set j (r.set i d)).map D.lst).all (rowV cs) = false := by
    refine List.all_eq_false.mpr ⟨.lst (r.set i d), List.mem_map.mpr ⟨_, List.mem_set hjl _, rfl⟩, ?_⟩
    show ¬ rowOk cs (r.set i d) = true
    rw [rowOk_set hi (by omega) (cellOk_odd h1 h2)]
    decide
  unfold toldD
  dsimp only [seqD]
  rw [a1, a2]; rfl
theorem toldD_row {cs : List Col} {A B : List D} {d : D} (h : rowLen cs.length d = false) : toldD cs (.lst (A ++ d :: B)) = .str "row" := by
  unfold toldD
  dsimp only [seqD]
  rw [List.all_append, List.all_cons, h, Bool.false_and, Bool.and_false]; rfl
/-- a row that is handed, of known kinds -/
def RowK (r : D) : Prop := kindV r = true ∧ ∀ i ds, seqD r = some (i, ds) → ds.length ≤ 1000 ∧ ∀ d ∈ ds, kindV d = true
theorem deep_of {vs : List D} (hl : vs.length ≤ 1000) (h : ∀ r ∈ vs, RowK r) : Deep (.lst vs) := ⟨rfl, fun j rs e => by cases e; exact ⟨hl, fun r hr => h r hr⟩⟩
theorem rowK_lst {r : List D} (hl : r.length ≤ 1000) (h : ∀ d ∈ r, kindV d = true) : RowK (.lst r) := ⟨rfl, fun i ds e => by cases e; exact ⟨hl, h⟩⟩
theorem rowK_tup {r : List D} (hl : r.length ≤ 1000) (h : ∀ d ∈ r, kindV d = true) : RowK (.tup r) := ⟨rfl, fun i ds e => by cases e; exact ⟨hl, h⟩⟩
theorem rowK_set {cs : List Col} {r : List D} {i : Nat} {d : D} (hl : cs.length ≤ 900) (hr : RowP cs r) (hd : kindV d = true) : RowK (.lst (r.set i d)) := by
  obtain ⟨f1, _, f3⟩ := hr.facts
  refine rowK_lst (by rw [List.length_set]; omega) fun x hx => ?_
  rcases List.mem_or_eq_of_mem_set hx with hx | rfl
  · exact f3 x hx
  · exact hd
theorem rowK_row {cs : List Col} {r : List D} (hl : cs.length ≤ 900) (hr : RowP cs r) : RowK (.lst r) := by
  obtain ⟨f1, _, f3⟩ := hr.facts
  exact rowK_lst (by omega) f3
theorem cutL_one {α : Type} {x : α} {l : List α} : cutL (x :: l) (some 1) none = l := by
  unfold cutL
  rw [HT.sIx_none, show HT.sIx (x :: l).length 0 (some 1) = 1 from (HT.sIx_nat _ _ 1).trans (by rw [List.length_cons]; omega)]
  show List.take ((x :: l).length - 1) l = l
  rw [List.length_cons, Nat.add_sub_cancel, List.take_length]
theorem odd_rows {cs : List Col} {r : List D} {d : D} (hc : ColsOk cs) (hr : RowP cs r) (hd : d ∈ [D.tup (r ++ [.non]), .tup (cutL r (some 1) none), .non, .int 5, .str "a", .bl true, .tup []]) : rowLen cs.length d = false ∧ RowK d := by
  have h9 := hc.len
  obtain ⟨f1, _, f3⟩ := hr.facts
  have hpos : 0 < cs.length := List.length_pos_iff.mpr hc.ne
  cases r with
  | nil => rw [List.length_nil] at f1; omega
  | cons x r =>
    rw [cutL_one] at hd
    rw [List.length_cons] at f1
    simp only [List.mem_cons, List.not_mem_nil, or_false] at hd
    rcases hd with rfl | rfl | rfl | rfl | rfl | rfl | rfl
    · refine ⟨decide_eq_false (by rw [List.length_append, List.length_cons, List.length_singleton]; omega), rowK_tup (by rw [List.length_append, List.length_cons, List.length_singleton]; omega) fun y hy => ?_⟩
      rcases List.mem_append.mp hy with hy | hy
      · exact f3 y hy
      · rw [List.mem_singleton.mp hy]; rfl
    · exact ⟨decide_eq_false (by omega), rowK_tup (by omega) fun y hy => f3 y (List.mem_cons_of_mem _ hy)⟩
    · exact ⟨rfl, rfl, fun _ _ e => by cases e⟩
    · exact ⟨rfl, rfl, fun _ _ e => by cases e⟩
    · exact ⟨rfl, by decide +kernel, fun _ _ e => by cases e⟩
    · exact ⟨rfl, rfl, fun _ _ e => by cases e⟩
    · exact ⟨decide_eq_false (by rw [List.length_nil]; omega), rowK_tup (by decide) fun _ z => by cases z⟩
theorem toldD_ok {cs : List Col} {rs : List (List D)} (hc : ColsOk cs) (hr : RowsP cs rs) (hl : rs.length ≤ 900 := by omega) : toldD cs (.lst (rs.map .lst)) = .non := by
  obtain ⟨h1, h2, _⟩ := rows_all (g := .lst) (fun r => ⟨true, rfl⟩) (rowsOk_of hl hr)
  unfold toldD
  dsimp only [seqD]
  rw [h1, h2]; rfl
/-- data of the plain kinds, so many deep -/
def Tidy (n : Nat) (d : D) : Prop := ∃ p, toP d = some p ∧ p.canLay0 = true ∧ p.depth ≤ n
theorem tidy_of {n : Nat} {d : D} (h : tidyB n d = true) : Tidy n d := by
  unfold tidyB at h
  split at h
  · rename_i p e
    rw [Bool.and_eq_true] at h
    exact ⟨p, e, h.1, of_decide_eq_true h.2⟩
  · cases h
theorem Tidy.up {n m : Nat} {d : D} (h : Tidy n d) (hm : n ≤ m) : Tidy m d := by
  obtain ⟨p, e1, e2, e3⟩ := h
  exact ⟨p, e1, e2, Nat.le_trans e3 hm⟩
theorem tidy_all {n : Nat} : ∀ {ds : List D}, (∀ d ∈ ds, Tidy n d) → ∃ ps, toPL ds = some ps ∧ PyData.canLayAll0 ps = true ∧ PyData.depthAll ps ≤ n ∧ ps.length = ds.length
  | [], _ => ⟨[], rfl, by simp [PyData.canLayAll0], by simp [PyData.depthAll], rfl⟩
  | d :: ds, h => by
    obtain ⟨p, e1, e2, e3⟩ := h d List.mem_cons_self
    obtain ⟨ps, f1, f2, f3, f4⟩ := tidy_all (ds := ds) fun x hx => h x (List.mem_cons_of_mem _ hx)
    refine ⟨p :: ps, by simp only [toPL, e1, f1], by simp [PyData.canLayAll0, e2, f2], ?_, by simp [f4]⟩
    simp only [PyData.depthAll]
    omega
theorem tidy_lst {n : Nat} {ds : List D} (h : ∀ d ∈ ds, Tidy n d) : Tidy (n + 1) (.lst ds) := by
  obtain ⟨ps, e1, e2, e3, _⟩ := tidy_all h
  exact ⟨.list ps, by simp only [toP, e1, Option.map_some], by simpa [PyData.canLay0] using e2, by simp only [PyData.depth]; omega⟩
theorem tidy_tup {n : Nat} {ds : List D} (h : ∀ d ∈ ds, Tidy n d) : Tidy (n + 1) (.tup ds) := by
  obtain ⟨ps, e1, e2, e3, _⟩ := tidy_all h
  exact ⟨.tuple ps, by simp only [toP, e1, Option.map_some], by simpa [PyData.canLay0] using e2, by simp only [PyData.depth]; omega⟩
theorem ne_nil {n : Nat} (hn : n < 60) {ds : List D} (h : ∀ d ∈ ds, Tidy n d) : neD (.lst ds) (.lst []) = some (.bl (!decide (ds = []))) := by
  obtain ⟨ps, e1, e2, e3, e4⟩ := tidy_all h
  have hd : deB (.lst ds) (.lst []) = some (decide (ds = [])) := by
    unfold deB
    simp only [toP, toPL, e1, Option.map_some]
    rw [if_pos ⟨Bool.and_eq_true_iff.mpr ⟨by simpa [PyData.canLay0] using e2, decide_eq_true (by simp only [PyData.depth]; omega)⟩, by decide +kernel⟩]
    cases ds with
    | nil => cases ps with
      | nil => simp [PyData.eqv, PyData.eqvAll]
      | cons _ _ => simp at e4
    | cons _ _ => cases ps with
      | nil => simp at e4
      | cons _ _ => simp [PyData.eqv, PyData.eqvAll]
  unfold neD
  rw [show eqB (.lst ds) (.lst []) = deB (.lst ds) (.lst []) from rfl, hd]; rfl
theorem cellP_tidy {t : Str} {d : D} (h : CellP t d) : Tidy 1 d := by
  obtain ⟨p, e1, e2, e3⟩ := toP_clean 1 d (cellP_clean h)
  exact ⟨p, e1, e2, e3⟩
theorem RowP.tidy : ∀ {cs : List Col} {r : List D}, RowP cs r → ∀ d ∈ r, Tidy 1 d
  | [], r, hr, _, hd => by rw [show r = [] from hr] at hd; cases hd
  | c :: cs, _, ⟨d, r, rfl, h1, h2⟩, x, hx => by
    rcases List.mem_cons.mp hx with rfl | hx
    · exact cellP_tidy h1
    · exact RowP.tidy h2 x hx
/-- the list of rows that is handed, as it stands behind the flags -/
structure Mid (cs : List Col) (f2 f3 : Bool) (rs : List (List D)) (its : List SV) (vs : List D) : Prop where
  its : Its rs its vs
  len : vs.length ≤ 7
  row : ∀ r ∈ vs, RowK r ∧ Tidy 20 r
  told : toldD cs (.lst vs) = if f2 = true then .str "row" else if (f3 && !decide (vs = [])) = true then .str "cell" else .non
theorem Mid.deep {cs : List Col} {f2 f3 : Bool} {rs : List (List D)} {its : List SV} {vs : List D} (h : Mid cs f2 f3 rs its vs) : Deep (.lst vs) := deep_of (by have := h.len; omega) fun r hr => (h.row r hr).1
theorem Mid.tidy {cs : List Col} {f2 f3 : Bool} {rs : List (List D)} {its : List SV} {vs : List D} (h : Mid cs f2 f3 rs its vs) : ∀ r ∈ vs, Tidy 20 r := fun r hr => (h.row r hr).2
theorem mid_ok {cs : List Col} {rs : List (List D)} {f3 : Bool} (hc : ColsOk cs) (hcl : cs.length ≤ 900) (hr : RowsP cs rs) (hl : rs.length ≤ 5) (hf : f3 = false ∨ rs = []) : Mid cs false f3 rs (cls 1 rs.length) (rs.map .lst) := by
  refine ⟨its_cls rs, by rw [List.length_map]; omega, fun r hx => ?_, ?_⟩
  · obtain ⟨x, hx', rfl⟩ := List.mem_map.mp hx
    exact ⟨rowK_row hcl (hr x hx'), (tidy_lst (hr x hx').tidy).up (by decide)⟩
  · rw [toldD_ok hc hr (by omega)]
    rcases hf with rfl | rfl
    · rfl
    · cases f3 <;> rfl
theorem mid_cell {cs : List Col} {rs : List (List D)} {r : List D} {i j : Nat} {c : Col} {d : D} (hcl : cs.length ≤ 900) (hr : RowsP cs rs) (hl : rs.length ≤ 5) (hj : rs[j]? = some r) (hi : cs[i]? = some c) (h1 : Fx.isNon d = false) (h2 : isOfSort d c.sort = false) (hk : kindV d = true) (ht : Tidy 18 d) :
    Mid cs false true (rs.set j (r.set i d)) (cls 1 rs.length) ((rs.set j (r.set i d)).map .lst) := by
  have hrp : RowP cs r := hr r (List.mem_of_getElem? hj)
  have hlen : (rs.set j (r.set i d)).length = rs.length := List.length_set
  refine ⟨?_, by rw [List.length_map, hlen]; omega, fun x hx => ?_, ?_⟩
  · rw [← hlen]; exact its_cls _
  · obtain ⟨y, hy, rfl⟩ := List.mem_map.mp hx
    rcases List.mem_or_eq_of_mem_set hy with hy | rfl
    · exact ⟨rowK_row hcl (hr y hy), (tidy_lst (hr y hy).tidy).up (by decide)⟩
    · refine ⟨rowK_set hcl hrp hk, (tidy_lst (n := 18) fun z hz => ?_).up (by decide)⟩
      rcases List.mem_or_eq_of_mem_set hz with hz | rfl
      · exact (hrp.tidy z hz).up (by decide)
      · exact ht
  · rw [toldD_cell hr hj hi h1 h2]
    have hne : ¬ (rs.set j (r.set i d)).map D.lst = [] := fun e => by
      have e := congrArg List.length e
      rw [List.length_map, hlen, List.length_nil] at e
      rw [List.length_eq_zero_iff.mp e] at hj
      cases hj
    rw [decide_eq_false hne]; rfl
theorem mid_row {cs : List Col} {f3 : Bool} {rs : List (List D)} {its : List SV} {vs : List D} (h : Mid cs false f3 rs its vs) (hl : vs.length ≤ 6) {d : D} (k : Nat) (h1 : rowLen cs.length d = false) (h2 : RowK d) (h3 : Tidy 20 d) : Mid cs true f3 rs (its.take k ++ .im d :: its.drop k) (vs.take k ++ d :: vs.drop k) := by
  refine ⟨its_ins h.its k d, ?_, fun r hr => ?_, ?_⟩
  · rw [List.length_append, List.length_cons, ← Nat.add_assoc, ← List.length_append, List.take_append_drop]; omega
  · rcases List.mem_append.mp hr with hr | hr
    · exact h.row r (List.mem_of_mem_take hr)
    · rcases List.mem_cons.mp hr with rfl | hr
      · exact ⟨h2, h3⟩
      · exact h.row r (List.mem_of_mem_drop hr)
  · rw [toldD_row h1]; rfl
theorem odd_tidy {cs : List Col} {r : List D} {d : D} (hr : RowP cs r) (hd : d ∈ [D.tup (r ++ [.non]), .tup (cutL r (some 1) none), .non, .int 5, .str "a", .bl true, .tup []]) : Tidy 20 d := by
  have ht := hr.tidy
  have h2 : ∀ x ∈ cutL r (some 1) none, Tidy 1 x := fun x hx => by
    cases r with
    | nil => exact absurd hx (by rw [show cutL ([] : List D) (some 1) none = [] from by unfold cutL; rfl]; simp)
    | cons y r => rw [cutL_one] at hx; exact ht x (List.mem_cons_of_mem _ hx)
  simp only [List.mem_cons, List.not_mem_nil, or_false] at hd
  rcases hd with rfl | rfl | rfl | rfl | rfl | rfl | rfl
  · refine (tidy_tup (n := 1) fun x hx => ?_).up (by decide)
    rcases List.mem_append.mp hx with hx | hx
    · exact ht x hx
    · rw [List.mem_singleton.mp hx]; exact tidy_of (by decide +kernel)
  · exact (tidy_tup (n := 1) h2).up (by decide)
  · exact tidy_of (by decide +kernel)
  · exact tidy_of (by decide +kernel)
  · exact tidy_of (by decide +kernel)
  · exact tidy_of (by decide +kernel)
  · exact tidy_of (by decide +kernel)
theorem cutTurn_box {a b n : Int} {sl : List SV} : cutTurn [] ⟨sl, [bx a b n]⟩ = ⟨sl.map (cutS 0), []⟩ := by
  unfold cutTurn
  rw [show cutTo [] [bx a b n] = some [] from cutTo_pre rfl]
  rfl
theorem cls_snoc (i m : Nat) : cls i (m + 1) = cls i m ++ [.cl (i + m)] := by
  unfold cls
  rw [List.range'_concat, List.map_append]
  simp
theorem s_listCT {δ : Sta} {Ψ : SV → Sta → Prop} {Ξ : Xn → Sta → Prop} {r : List D} (h : Ψ (.cl δ.ce.length) ⟨δ.sl, δ.ce ++ [rw1 r]⟩) : (listC [.im (.tup r)] δ).sat Ψ Ξ := by
  rw [show @listC = @Fx.listC from listC_eq]
  exact h
theorem s_gen {o : OutS} {Φ : Post} (R : SV → Sta → Prop) (N : Sta → Prop) (h : ∀ Φ' : Post, (∀ s δ, R s δ → Φ'.rt s δ) → (∀ δ, N δ → Φ'.nx δ) → o.sat Φ') (h1 : ∀ s δ, R s δ → Φ.rt s δ) (h2 : ∀ δ, N δ → Φ.nx δ) : o.sat Φ := h Φ h1 h2
theorem s_retFc {ce ce' ce2 : List CO} {c : Nat} {Ψf : SV → List CO → Prop} {Ξf : Xn → List CO → Prop} (hc : c < ce.length) (h2 : cutTo ce ce' = some ce2) (h : Ψf (.cl c) ce2) : (retF ce (.cl c) ce').sat Ψf Ξf := by
  unfold retF
  dsimp only
  rw [if_pos hc, h2]
  exact h
theorem rowsCE_len {a b n : Int} {rs : List (List D)} {its : List SV} : (rowsCE a b n rs its).length = rs.length + 2 := by simp [rowsCE]
theorem row_nf {a b n : Int} {rs : List (List D)} {its : List SV} {j : Nat} (hj : j < rs.length) : notFz (rowsCE a b n rs its) (j + 1) = true := by
  obtain ⟨r, hr⟩ := get_of_lt hj
  unfold notFz
  rw [row_get hr]
theorem s_slT {δ : Sta} {Ψ : SV → Sta → Prop} {Ξ : Xn → Sta → Prop} {a : AE} {lo hi : AO} (h : (a δ).sat (fun s δ1 => (lo δ1).sat (fun l δ2 => (hi δ2).sat (fun k δ3 => ∃ ds, s = .im (.tup ds) ∧ Ψ (.im (.tup (cutL ds l k))) δ3) Ξ) Ξ) Ξ) : (aSl a lo hi δ).sat Ψ Ξ := by
  rw [show @aSl = @Fx.aSl from aSl_eq]
  refine sat_of_bind (Out.sat_mono h (fun s δ1 h => sat_of_bind (Out.sat_mono h (fun l δ2 h => sat_of_bind (Out.sat_mono h (fun k δ3 h => ?_) fun _ _ z => z)) fun _ _ z => z)) fun _ _ z => z)
  obtain ⟨ds, rfl, h2⟩ := h
  exact h2
theorem tyS_rows {a b n : Int} {rs : List (List D)} {its : List SV} {sl : List SV} : tyS "list" ⟨sl, rowsCE a b n rs its⟩ (.cl (rs.length + 1)) = true := by
  unfold tyS kindS
  dsimp only
  rw [rows_get]
  rfl
def dueL (f0 f1 f2 : Bool) : List D := (if f0 = true then [.str "columns"] else []) ++ ((if f1 = true then [.str "rows"] else []) ++ if f2 = true then [.str "row"] else [])
def wordD (f0 f1 f2 c : Bool) : D := if f0 = true then .str "columns" else if f1 = true then .str "rows" else if f2 = true then .str "row" else if c = true then .str "cell" else .non
theorem due_list {f0 f1 f2 f3 : Bool} : ((zipD [D.str "columns", D.str "rows", D.str "row"] [D.bl f0, D.bl f1, D.bl f2, D.bl f3]).filter (fun d => match d with | .tup [_, .bl k] => k | _ => false)).map (fun d => match d with | .tup (x :: _) => x | _ => .non) = dueL f0 f1 f2 := by
  cases f0 <;> cases f1 <;> cases f2 <;> rfl
theorem due_head {f0 f1 f2 c : Bool} : atI ((dueL f0 f1 f2 ++ repD (if c = true then (1 : Int) else 0).toNat [.str "cell"]) ++ [.non]) 0 = some (wordD f0 f1 f2 c) := by
  cases f0 <;> cases f1 <;> cases f2 <;> cases c <;> rfl
theorem due_len {f0 f1 f2 c : Bool} : (dueL f0 f1 f2).length + (repD (if c = true then (1 : Int) else 0).toNat [.str "cell"]).length ≤ 1000000 := by
  cases f0 <;> cases f1 <;> cases f2 <;> cases c <;> exact Nat.le_of_ble_eq_true rfl
theorem due_tidy {f0 f1 f2 : Bool} : ∀ d ∈ dueL f0 f1 f2, Tidy 1 d := fun d hd => by
  have h : tidyB 1 d = true := all_p (tidyB 1) (l := dueL f0 f1 f2) (by cases f0 <;> cases f1 <;> cases f2 <;> decide +kernel) hd
  exact tidy_of h
theorem eq_nil {n : Nat} (hn : n < 60) {ds : List D} (h : ∀ d ∈ ds, Tidy n d) : eqD (.lst ds) (.lst []) = some (.bl (decide (ds = []))) := by
  have e := ne_nil hn h
  unfold neD at e
  unfold eqD
  cases q : eqB (.lst ds) (.lst []) with
  | none => rw [q] at e; cases e
  | some b =>
    rw [q] at e
    have e2 : (!b) = !decide (ds = []) := by
      simp only [Option.map_some, Option.some.injEq, D.bl.injEq] at e
      exact e
    have e3 : b = decide (ds = []) := Bool.not_inj e2
    rw [e3]; rfl
theorem due_len2 {f0 f1 f2 c : Bool} : (dueL f0 f1 f2 ++ repD (if c = true then (1 : Int) else 0).toNat [.str "cell"]).length + 1 ≤ 1000000 := by
  cases f0 <;> cases f1 <;> cases f2 <;> cases c <;> exact Nat.le_of_ble_eq_true rfl
theorem word_clean {f0 f1 f2 c : Bool} : clean 1 (wordD f0 f1 f2 c) = true := by
  cases f0 <;> cases f1 <;> cases f2 <;> cases c <;> decide +kernel
theorem toldD_scal {cs : List Col} {y : D} : scalS (.im (toldD cs y)) = true := by
  unfold toldD
  split
  · rfl
  · split
    · rfl
    · split <;> rfl
theorem cutTurn_row {a0 b0 n0 a b n : Int} {sl : List SV} {rs : List (List D)} {its : List SV} : cutTurn [bx a0 b0 n0] ⟨sl, rowsCE a b n rs its⟩ = ⟨sl.map (cutS 1), [bx a b n]⟩ := by
  unfold cutTurn
  rw [show cutTo [bx a0 b0 n0] (rowsCE a b n rs its) = some [bx a b n] from cutTo_box (rest := []) (fun _ => rfl)]
  rfl
theorem law_sat (ns : List Int) (hn : ns.length ≤ 63) : (f_law [.im (.scr ns)] []).sat (fun s _ => s = .im (.bl true)) fun _ _ => False := by
  refine s_def ?_
  walk_at "go"
  refine s_forC (fun δ => ∃ (x1 x2 x3 x4 x5 x6 x7 x8 x9 x10 x11 x12 x13 x14 : SV), δ = ⟨[.im (.scr ns), x1, x2, x3, x4, x5, x6, x7, x8, x9, x10, x11, x12, x13, x14], []⟩) ?_ ?_
  · walk_at "go"
    refine s_dop (d := .int (if ((ns.length : Nat) : Int) < 4 then ((ns.length : Nat) : Int) else 4)) rfl rfl rfl ?_
    walk_at "go"
    refine s_dop (d := .int (if (if ((ns.length : Nat) : Int) < 4 then ((ns.length : Nat) : Int) else 4) > 1 then (if ((ns.length : Nat) : Int) < 4 then ((ns.length : Nat) : Int) else 4) else 1)) rfl rfl rfl ?_
    walk_at "go"
    try refine ⟨by split <;> split <;> omega, ?_⟩
    try refine ⟨⟨_, _, _, _, _, _, _, _, _, _, _, _, _, _, rfl⟩, ?_⟩
    rintro d hd δ ⟨x1, x2, x3, x4, x5, x6, x7, x8, x9, x10, x11, x12, x13, x14, rfl⟩
    obtain ⟨i, _, rfl⟩ := rgD_mem hd
    refine ⟨_, rfl, ?_⟩
    walk_at "go"
    refine s_loc0 (p_box (by omega) fun a0 b0 n0 => ?_)
    walk_at "go"
    refine s_forC (fun δ => ∃ a b n : Int, ∃ (x3 x4 x5 x6 x7 x8 x9 x10 x11 x12 x13 x14 : SV), δ = ⟨[.im (.scr ns), .im (.int (0 + (i : Nat))), .cl 0, x3, x4, x5, x6, x7, x8, x9, x10, x11, x12, x13, x14], [bx a b n]⟩) ?_ ?_
    · walk_at "go"
      try refine ⟨⟨_, _, _, _, _, _, _, _, _, _, _, _, _, _, _, rfl⟩, ?_⟩
      rintro d hd δ ⟨a, b, n, x3, x4, x5, x6, x7, x8, x9, x10, x11, x12, x13, x14, rfl⟩
      refine ⟨_, rfl, ?_⟩
      walk_at "go"
      refine lq [0] rfl rfl rfl (p_take (by decide) (by decide) fun k _ _ _ k0 k1 => ?_)
      walk_at "go"
      rw [show (1 + k : Int) = ((1 + k.toNat : Nat) : Int) by omega]
      refine lq [0] rfl rfl rfl (p_columns (by omega) (by omega) fun cs _ _ _ hc hcl hzz => ?_)
      have hl9 := hc.len
      walk_at "go"
      refine s_lcV (fun rest acc ce => ∃ (a b n : Int) (done left : List (List D)), rest = left.map .tup ∧ RowsP cs (done ++ left) ∧ (done ++ left).length ≤ 5 ∧ acc = cls 1 done.length ∧ ce = bx a b n :: done.map rw1) ?_
      walk_at "go"
      refine lq [0] rfl rfl rfl (p_rows (m := 5) hl9 (by decide) fun rs a b n hr hrl => ?_)
      walk_at "go"
      refine ⟨by rw [List.length_map]; omega, ⟨a, b, n, [], rs, rfl, hr, hrl, rfl, rfl⟩, ?_, ?_⟩
      · rintro d ds acc ce ⟨a, b, n, done, left, e1, hr, hl, rfl, rfl⟩
        cases left with
        | nil => cases e1
        | cons r left =>
          obtain ⟨rfl, rfl⟩ := List.cons.inj e1
          refine ⟨_, rfl, ?_⟩
          walk_at "go"
          refine s_listCT ?_
          refine ⟨a, b, n, done ++ [r], left, rfl, by simpa using hr, by simpa using hl, ?_, ?_⟩
          · rw [List.length_append, List.length_singleton, cls_snoc, List.length_cons, List.length_map, Nat.add_comm 1]
          · rw [List.map_append]; rfl
      · rintro acc ce ⟨a, b, n, rs, left, e1, hr, hrl, rfl, rfl⟩
        cases left with
        | cons _ _ => cases e1
        | nil =>
          rw [List.append_nil] at hr hrl
          rw [show (bx a b n :: rs.map rw1).length = rs.length + 1 by rw [List.length_cons, List.length_map]]
          rw [show bx a b n :: rs.map rw1 ++ [CO.lst (cls 1 rs.length)] = rowsCE a b n rs (cls 1 rs.length) from rfl]
          walk_at "go"
          have hlc : cs.length ≤ 3 := by omega
          have hdp : Deep (.lst (rs.map .lst)) := deep_rows (g := .lst) (fun r => ⟨true, rfl⟩) (j := true) rfl hc (rowsOk_of (by omega) hr)
          refine s_thawR rfl (its_cls rs) ?_
          walk_at "go"
          refine s_varF rfl fz_at ?_
          walk_at "go"
          refine sat_of_eq (told_good (x := .lst (cs.map colD)) (k := true) rfl hc hdp _) ?_
          rw [toldD_ok hc hr]
          refine ⟨rfl, rfl, ?_⟩
          walk_at "go"
          refine s_lcR (fun rest acc ce => (∃ bs : List Bool, acc = bs.map .bl ∧ bs.length + rest.length = 4) ∧ ∃ a b n : Int, ce = rowsCE a b n rs (cls 1 rs.length)) ?_
          walk_at "go"
          refine ⟨⟨⟨[], rfl, rfl⟩, _, _, _, rfl⟩, ?_, ?_⟩
          · rintro d ds acc ce ⟨⟨bs, rfl, hbl⟩, a, b, n, rfl⟩
            refine ⟨_, rfl, ?_⟩
            walk_at "go"
            refine lqB (ds := [.int 4]) (p_take (by decide) (by decide) fun k a' b' n' k0 k1 => ⟨_, _, _, _, rfl, rfl, ?_⟩)
            walk_at "go"
            refine ⟨⟨bs ++ [decide (k = 0)], by rw [List.map_append]; rfl, by rw [List.length_append]; simp; omega⟩, a', b', n', ?_⟩
            exact (cutOr_same (by simp [rowsCE])).trans rfl
          · rintro acc ce ⟨⟨bs, rfl, hbl⟩, a, b, n, rfl⟩
            obtain ⟨f0, f1, f2, f3, rfl⟩ : ∃ f0 f1 f2 f3, bs = [f0, f1, f2, f3] := by
              match bs, hbl with
              | [x, y, z, w], _ => exact ⟨_, _, _, _, rfl⟩
            walk_at "w"
            refine s_seq ?_
            refine s_gen (fun _ _ => False) (fun δ => ∃ (a b n : Int) (rs' : List (List D)) (its : List SV) (vs : List D), Mid cs false f3 rs' its vs ∧ vs.length ≤ 5 ∧ ∃ (x3 x6 x8 x9 x10 x11 x12 x13 x14 : SV), δ = ⟨[.im (.scr ns), .im (.int (0 + (i : Nat))), .cl 0, x3, .im (.lst (cs.map colD)), .cl (rs'.length + 1), x6, .im (.lst [.bl f0, .bl f1, .bl f2, .bl f3]), x8, x9, x10, x11, x12, x13, x14], rowsCE a b n rs' its⟩) (fun Φ hR hN => ?_) (fun _ _ z => z.elim) ?_
            · walk_at "go"
              · rename_i hf3
                refine s_thawR rfl (its_cls rs) ?_
                walk_at "go"
                refine s_varF rfl fz_at ?_
                walk_at "go"
                refine s_dop rfl rfl (ne_nil (n := 20) (by decide) fun r hr' => ?_) ?_
                · obtain ⟨x, hx, rfl⟩ := List.mem_map.mp hr'
                  exact (tidy_lst (hr x hx).tidy).up (by decide)
                refine ⟨rfl, rfl, ?_⟩
                walk_at "go"
                · rename_i hne
                  have hpos : 0 < rs.length := by
                    rcases Nat.eq_zero_or_pos rs.length with z | z
                    · rw [List.length_eq_zero_iff.mp z] at hne; exact absurd rfl hne
                    · exact z
                  refine s_varB rfl rows_live ?_
                  walk_at "go"
                  refine p_pickR (its_cls rs) (by rw [cls_len]; exact hpos) (by rw [cls_len]; omega) fun kk u a1 b1 n1 kk0 kk1 hu => ?_
                  rw [cls_len] at kk1
                  rw [cls_get kk0 kk1] at hu
                  cases hu
                  have hj : kk.toNat < rs.length := by omega
                  obtain ⟨r, hrj⟩ := get_of_lt hj
                  rw [row_live hj]
                  refine s_retFc (by rw [rowsCE_len]; omega) (cutTo_same (by rw [rowsCE_len, rowsCE_len]; exact Nat.le_refl _)) ?_
                  walk_at "go"
                  have hkl : ((List.map colD cs).length : Int) = (cs.length : Nat) := by rw [List.length_map]
                  refine lqB (ds := [.int ((List.map colD cs).length : Nat)]) (p_take (by omega) (by omega) fun ii a2 b2 n2 i0 i1 => ⟨_, _, _, _, rfl, rfl, ?_⟩)
                  have hi : ii.toNat < cs.length := by omega
                  obtain ⟨c, hci⟩ := get_of_lt hi
                  have hat : atI (cs.map colD) ii = some (colD c) := by
                    unfold atI ixN
                    rw [if_pos i0, if_pos i1]
                    show (cs.map colD)[ii.toNat]? = _
                    rw [List.getElem?_map, hci]; rfl
                  walk_at "go"
                  refine s_ixL hat ?_
                  walk_at "go"
                  refine lqB (ds := [.str c.sort]) (p_odd_cell (hc.sort c (List.mem_of_getElem? hci)) fun dd a3 b3 n3 g1 g2 g3 g4 => ⟨_, _, _, _, rfl, rfl, ?_⟩)
                  walk_at "go"
                  have hrp : RowP cs r := hr r (List.mem_of_getElem? hrj)
                  have hrl2 : r.length = cs.length := hrp.facts.1
                  refine s_varB rfl (row_nf (rs := rs) hj) ?_
                  walk_at "go"
                  refine ⟨_, _, _, ii.toNat, rfl, row_get (rs := rs) hrj, rfl, ?_, ?_⟩
                  · unfold ixN
                    rw [if_pos i0, if_pos (by rw [List.length_map]; omega)]
                  · have hce : (bx a3 b3 n3 :: (List.map rw1 rs ++ [CO.lst (cls 1 rs.length)])).set (kk.toNat + 1) (CO.lst ((List.map SV.im r).set ii.toNat (SV.im dd))) = rowsCE a3 b3 n3 (rs.set kk.toNat (r.set ii.toNat dd)) (cls 1 rs.length) := by
                      rw [← row_set hj, rw1, List.map_set]
                      rfl
                    rw [hce, show SV.cl (rs.length + 1) = SV.cl ((rs.set kk.toNat (r.set ii.toNat dd)).length + 1) by rw [List.length_set]]
                    exact hN _ ⟨a3, b3, n3, rs.set kk.toNat (r.set ii.toNat dd), cls 1 rs.length, _, hf3 ▸ mid_cell (by omega) hr hrl hrj hci g2 g3 g1 (tidy_of g4), by rw [List.length_map, List.length_set]; exact hrl, _, _, _, _, _, _, _, _, _, rfl⟩
                · rename_i hne
                  have hnil : rs = [] := List.map_eq_nil_iff.mp hne
                  refine hN _ ⟨a, b, n, rs, cls 1 rs.length, rs.map .lst, mid_ok hc (by omega) hr hrl (.inr hnil), by rw [List.length_map]; exact hrl, _, _, _, _, _, _, _, _, _, rfl⟩
              · rename_i hf3
                refine hN _ ⟨a, b, n, rs, cls 1 rs.length, rs.map .lst, mid_ok hc (by omega) hr hrl (.inl hf3), by rw [List.length_map]; exact hrl, _, _, _, _, _, _, _, _, _, rfl⟩
            rintro δ ⟨a, b, n, rs', its, vs, hm, hvl, x3, x6, x8, x9, x10, x11, x12, x13, x14, rfl⟩
            refine s_seq ?_
            refine s_gen (fun _ _ => False) (fun δ => ∃ (a b n : Int) (its : List SV) (vs : List D), Mid cs f2 f3 rs' its vs ∧ ∃ (x3 x6 x8 x9 x10 x11 x12 x13 x14 : SV), δ = ⟨[.im (.scr ns), .im (.int (0 + (i : Nat))), .cl 0, x3, .im (.lst (cs.map colD)), .cl (rs'.length + 1), x6, .im (.lst [.bl f0, .bl f1, .bl f2, .bl f3]), x8, x9, x10, x11, x12, x13, x14], rowsCE a b n rs' its⟩) (fun Φ hR hN => ?_) (fun _ _ z => z.elim) ?_
            · walk_at "go"
              · rename_i hf2
                refine lqB (ds := [.lst (cs.map colD)]) (p_row hl9 fun rr a1 b1 n1 hrr => ⟨_, _, _, _, rfl, rfl, ?_⟩)
                walk_at "go"
                have hrr1 := hrr.facts.1
                refine s_addT (by rw [hrr1]; simp; omega) ?_
                with_reducible refine s_cons ?_
                refine s_slT ?_
                walk_at "go"
                refine lqB (ds := [.lst [D.tup (rr ++ [.non]), .tup (cutL rr (some 1) none), .non, .int 5, .str "a", .bl true, .tup []]]) (p_pick (Nat.le_of_ble_eq_true rfl) (Nat.le_of_ble_eq_true rfl) fun dd a2 b2 n2 hdd => ⟨_, _, _, _, rfl, rfl, ?_⟩)
                obtain ⟨q1, q2⟩ := odd_rows hc hrr hdd
                have q3 := odd_tidy hrr hdd
                walk_at "go"
                refine s_varB rfl rows_live ?_
                walk_at "go"
                refine ⟨tyS_rows, ?_⟩
                walk_at "go"
                refine s_thawR rfl hm.its ?_
                walk_at "go"
                refine s_varF rfl fz_at ?_
                walk_at "go"
                refine lqB (ds := [.int ((vs.length : Nat) + 1)]) (p_take (by omega) (by omega) fun kk a3 b3 n3 kk0 kk1 => ⟨_, _, _, _, rfl, rfl, ?_⟩)
                walk_at "go"
                have hil := its_len hm.its
                refine s_insert rows_get ⟨kk0, by omega, by omega⟩ ?_
                have hce : (bx a3 b3 n3 :: (List.map rw1 rs' ++ [CO.lst its])).set (rs'.length + 1) (CO.lst (List.take kk.toNat its ++ [SV.im dd] ++ List.drop kk.toNat its)) = rowsCE a3 b3 n3 rs' (its.take kk.toNat ++ .im dd :: its.drop kk.toNat) := by
                  have := rows_set (bx a3 b3 n3) (rs'.map rw1) (.lst its) (.lst (its.take kk.toNat ++ [SV.im dd] ++ its.drop kk.toNat))
                  rw [List.length_map] at this
                  rw [this, List.append_assoc]
                  rfl
                dsimp only
                rw [hce]
                exact hN _ ⟨a3, b3, n3, _, _, hf2 ▸ mid_row hm (by omega) kk.toNat q1 q2 q3, _, _, _, _, _, _, _, _, _, rfl⟩
              · rename_i hf2
                refine hN _ ⟨a, b, n, its, vs, hf2 ▸ hm, _, _, _, _, _, _, _, _, _, rfl⟩
            rintro δ ⟨a, b, n, its, vs, hm, x3, x6, x8, x9, x10, x11, x12, x13, x14, rfl⟩
            refine s_seq ?_
            refine s_gen (fun _ _ => False) (fun δ => ∃ (a b n : Int) (x : SV), ((f1 = false ∧ x = .cl (rs'.length + 1)) ∨ (f1 = true ∧ ∃ d, x = .im d ∧ kindV d = true ∧ seqD d = none)) ∧ ∃ (x3 x6 x8 x9 x10 x12 x13 x14 : SV), δ = ⟨[.im (.scr ns), .im (.int (0 + (i : Nat))), .cl 0, x3, .im (.lst (cs.map colD)), .cl (rs'.length + 1), x6, .im (.lst [.bl f0, .bl f1, .bl f2, .bl f3]), x8, x9, x10, x, x12, x13, x14], rowsCE a b n rs' its⟩) (fun Φ hR hN => ?_) (fun _ _ z => z.elim) ?_
            · walk_at "go"
              · rename_i hf1
                obtain ⟨c0, hc0, hc1⟩ : ∃ c, atI (cs.map colD) 0 = some (colD c) ∧ c ∈ cs := by
                  cases cs with
                  | nil => exact absurd rfl hc.ne
                  | cons c cs => exact ⟨c, at_zero, List.mem_cons_self⟩
                refine s_ixL hc0 ?_
                walk_at "go"
                refine lqB (ds := [.lst [.non, .str "rows", .int 7, .bl true, .str c0.name]]) (p_pick (Nat.le_of_ble_eq_true rfl) (Nat.le_of_ble_eq_true rfl) fun dd a1 b1 n1 hdd => ⟨_, _, _, _, rfl, rfl, ?_⟩)
                have hn9 := name_short (hc.name c0 hc1)
                have hds : kindV dd = true ∧ seqD dd = none := by
                  simp only [List.mem_cons, List.not_mem_nil, or_false] at hdd
                  rcases hdd with rfl | rfl | rfl | rfl | rfl
                  · exact ⟨rfl, rfl⟩
                  · exact ⟨by decide +kernel, rfl⟩
                  · exact ⟨rfl, rfl⟩
                  · exact ⟨rfl, rfl⟩
                  · exact ⟨decide_eq_true (by omega), rfl⟩
                walk_at "go"
                exact hN _ ⟨a1, b1, n1, .im dd, .inr ⟨hf1, dd, rfl, hds.1, hds.2⟩, _, _, _, _, _, _, _, _, rfl⟩
              · rename_i hf1
                refine s_varB rfl rows_live ?_
                walk_at "go"
                exact hN _ ⟨a, b, n, .cl (rs'.length + 1), .inl ⟨hf1, rfl⟩, _, _, _, _, _, _, _, _, rfl⟩
            rintro δ ⟨a, b, n, x, hx, x3, x6, x8, x9, x10, x12, x13, x14, rfl⟩
            refine s_seq ?_
            refine s_gen (fun _ _ => False) (fun δ => ∃ (a b n : Int) (y : D), ((f0 = false ∧ y = .lst (cs.map colD)) ∨ (f0 = true ∧ DeepC y ∧ areCols y = false)) ∧ ∃ (x3 x6 x8 x9 x10 x13 x14 : SV), δ = ⟨[.im (.scr ns), .im (.int (0 + (i : Nat))), .cl 0, x3, .im (.lst (cs.map colD)), .cl (rs'.length + 1), x6, .im (.lst [.bl f0, .bl f1, .bl f2, .bl f3]), x8, x9, x10, x, .im y, x13, x14], rowsCE a b n rs' its⟩) (fun Φ hR hN => ?_) (fun _ _ z => z.elim) ?_
            · walk_at "go"
              · rename_i hf0
                refine lqB (ds := [.lst (cs.map colD)]) (p_odd_columns hc (by omega) fun dd a1 b1 n1 g1 g2 => ⟨_, _, _, _, rfl, rfl, ?_⟩)
                walk_at "go"
                exact hN _ ⟨a1, b1, n1, dd, .inr ⟨hf0, g1, g2⟩, _, _, _, _, _, _, _, rfl⟩
              · rename_i hf0
                exact hN _ ⟨a, b, n, _, .inl ⟨hf0, rfl⟩, _, _, _, _, _, _, _, rfl⟩
            rintro δ ⟨a, b, n, y, hy, x3, x6, x8, x9, x10, x13, x14, rfl⟩
            generalize hea : aAndV (aOp (ixA tabs) (aVar 7) (aC (.int 3))) (aAndV (aThaw [5] (aOp (dOp neD) (aVar 5) (aLst aNil))) (aOp (dOp eqD) (aVar 13) (aLst aNil))) = ea
            generalize heb : aThaw [11] (aCall 2 f__law_told [] (aCons (aVar 12) (aCons (aVar 11) aNil))) = eb
            walk_at "go"
            refine s_lcF (fun d => match d with | .tup [_, .bl k] => k | _ => false) (fun d => match d with | .tup (x :: _) => x | _ => .non) ?_
            walk_at "go"
            refine ⟨fun d hd => ?_, ?_⟩
            · simp only [zipD, List.mem_cons, List.not_mem_nil, or_false] at hd
              rcases hd with rfl | rfl | rfl
              all_goals
                refine ⟨_, rfl, ?_⟩
                walk_at "go"
                intro _
                walk_at "go"
                try exact ⟨rfl, rfl⟩
            · rw [due_list]
              walk_at "go"
              subst hea
              refine Out.sat_mono (Ψ := fun s δ1 => s = .im (.bl (f3 && (!decide (vs = []) && decide (dueL f0 f1 f2 = [])))) ∧ δ1 = ⟨[.im (.scr ns), .im (.int (0 + (i : Nat))), .cl 0, x3, .im (.lst (cs.map colD)), .cl (rs'.length + 1), x6, .im (.lst [.bl f0, .bl f1, .bl f2, .bl f3]), x8, x9, x10, x, .im y, .im (.lst (dueL f0 f1 f2)), x14], rowsCE a b n rs' its⟩) (Ξ := fun _ _ => False) ?_ (fun s δ1 ⟨e1, e2⟩ => ?_) (fun _ _ z => z.elim)
              · walk_at "go"
                · rename_i hf3
                  refine s_thawR rfl hm.its ?_
                  walk_at "go"
                  refine s_varF rfl fz_at ?_
                  walk_at "go"
                  refine s_dop rfl rfl (ne_nil (n := 20) (by decide) hm.tidy) ?_
                  refine ⟨rfl, rfl, ?_⟩
                  refine ⟨_, rfl, ?_⟩
                  walk_at "go"
                  · rename_i hne
                    refine s_dop rfl rfl (eq_nil (n := 1) (by decide) due_tidy) ?_
                    rw [hf3, decide_eq_false hne]
                    exact ⟨rfl, rfl⟩
                  · rename_i hne
                    rw [hf3, decide_eq_true hne]
                    exact ⟨rfl, rfl⟩
                · rename_i hf3
                  rw [hf3]
                  exact ⟨rfl, rfl⟩
              · subst e1
                subst e2
                have hcw : ∀ T, (f0 = true → T = D.str "columns") → (f0 = false → f1 = true → T = D.str "rows") → (f0 = false → f1 = false → T = toldD cs (.lst vs)) → T = wordD f0 f1 f2 (f3 && (!decide (vs = []) && decide (dueL f0 f1 f2 = []))) := fun T h0 h1 h2 => by
                  cases f0 with
                  | true => rw [h0 rfl]; rfl
                  | false => cases f1 with
                    | true => rw [h1 rfl rfl]; rfl
                    | false =>
                      rw [h2 rfl rfl, hm.told]
                      cases f2 with
                      | true => rfl
                      | false => cases f3 <;> cases decide (vs = []) <;> rfl
                have hkb : ∀ s13 : SV, ∃ T, ((f0 = true → T = D.str "columns") ∧ (f0 = false → f1 = true → T = D.str "rows") ∧ (f0 = false → f1 = false → T = toldD cs (.lst vs))) ∧ (eb ⟨[.im (.scr ns), .im (.int (0 + (i : Nat))), .cl 0, x3, .im (.lst (cs.map colD)), .cl (rs'.length + 1), x6, .im (.lst [.bl f0, .bl f1, .bl f2, .bl f3]), x8, x9, x10, x, .im y, s13, x14], rowsCE a b n rs' its⟩).sat (fun s δ1 => s = .im T ∧ δ1 = ⟨[.im (.scr ns), .im (.int (0 + (i : Nat))), .cl 0, x3, .im (.lst (cs.map colD)), .cl (rs'.length + 1), x6, .im (.lst [.bl f0, .bl f1, .bl f2, .bl f3]), x8, x9, x10, x, .im y, s13, x14], rowsCE a b n rs' its⟩) (fun _ _ => False) := fun s13 => by
                  subst heb
                  rcases hx with ⟨hf1, rfl⟩ | ⟨hf1, d, rfl, hk1, hk2⟩
                  · rcases hy with ⟨hf0, rfl⟩ | ⟨hf0, g1, g2⟩
                    · refine ⟨toldD cs (.lst vs), ⟨(fun z => by rw [hf0] at z; cases z), (fun _ z => by rw [hf1] at z; cases z), fun _ _ => rfl⟩, ?_⟩
                      refine s_thawR rfl hm.its ?_
                      walk_at "go"
                      refine s_varF rfl fz_at ?_
                      walk_at "go"
                      refine sat_of_eq (told_good (x := .lst (cs.map colD)) (k := true) rfl hc hm.deep _) ?_
                      exact ⟨toldD_scal, rfl, rfl, rfl⟩
                    · refine ⟨.str "columns", ⟨fun _ => rfl, (fun z => by rw [hf0] at z; cases z), fun z => by rw [hf0] at z; cases z⟩, ?_⟩
                      refine s_thawR rfl hm.its ?_
                      walk_at "go"
                      refine s_varF rfl fz_at ?_
                      walk_at "go"
                      refine sat_of_eq (told_bad g1 g2 _) ?_
                      exact ⟨rfl, rfl, rfl, rfl⟩
                  · rcases hy with ⟨hf0, rfl⟩ | ⟨hf0, g1, g2⟩
                    · refine ⟨toldD cs d, ⟨(fun z => by rw [hf0] at z; cases z), (fun _ _ => by unfold toldD; rw [hk2]), fun _ z => by rw [hf1] at z; cases z⟩, ?_⟩
                      walk_at "go"
                      refine sat_of_eq (told_good (x := .lst (cs.map colD)) (k := true) rfl hc ⟨hk1, fun j rs e => by rw [hk2] at e; cases e⟩ _) ?_
                      exact ⟨rfl, rfl⟩
                    · refine ⟨.str "columns", ⟨fun _ => rfl, (fun z => by rw [hf0] at z; cases z), fun z => by rw [hf0] at z; cases z⟩, ?_⟩
                      walk_at "go"
                      refine sat_of_eq (told_bad g1 g2 _) ?_
                      exact ⟨rfl, rfl⟩
                generalize (f3 && (!decide (vs = []) && decide (dueL f0 f1 f2 = []))) = cc at hcw ⊢
                cases cc
                all_goals
                  walk_at "go"
                  refine s_mulL ⟨by decide, by decide, by decide⟩ ?_
                  walk_at "go"
                  refine s_addL (by first | exact due_len (c := true) | exact due_len (c := false)) ?_
                  walk_at "go"
                  obtain ⟨T, ⟨h0, h1, h2⟩, hT⟩ := hkb (.im (.lst (dueL f0 f1 f2 ++ repD _ [.str "cell"])))
                  have hTw := hcw T h0 h1 h2
                  subst hTw
                  refine Out.sat_mono hT (fun s δ1 ⟨e1, e2⟩ => ?_) (fun _ _ z => z.elim)
                  subst e1
                  subst e2
                  walk_at "go"
                  refine s_addL (by first | exact due_len2 (c := true) | exact due_len2 (c := false)) ?_
                  walk_at "go"
                  refine s_ixL (by first | exact due_head (c := true) | exact due_head (c := false)) ?_
                  refine s_dop rfl rfl (neD_clean (n := 1) (by decide) word_clean word_clean) ?_
                  rw [decide_eq_true rfl]
                  walk_at "go"
                  exact ⟨a, b, n, _, _, _, _, _, _, _, _, _, _, _, _, by rw [show cutTurn [CO.lst [SV.im (D.int a0), SV.im (D.int b0), SV.im (D.int n0)]] _ = _ from cutTurn_row]; rfl⟩
    · rintro δ ⟨a, b, n, x3, x4, x5, x6, x7, x8, x9, x10, x11, x12, x13, x14, rfl⟩
      exact ⟨_, _, _, _, _, _, _, _, _, _, _, _, _, _, by rw [cutTurn_box]; rfl⟩
  · rintro δ ⟨x1, x2, x3, x4, x5, x6, x7, x8, x9, x10, x11, x12, x13, x14, rfl⟩
    walk_at "go"
    try rfl
theorem law_true (ns : List Int) (h : ns.length ≤ 63) : ∃ ce, f_law [.im (.scr ns)] [] = .ok (.im (.bl true)) ce := by
  obtain ⟨ce, e, _⟩ := eq_of_sat (P := fun _ => True) (Out.sat_mono (law_sat ns h) (fun _ _ z => ⟨z, trivial⟩) fun _ _ z => z)
  exact ⟨ce, e⟩
end K10.G
namespace K10
open PySem L2 Fx
theorem law_true (ns : List Int) (h : ns.length ≤ 63) : ∃ ce, f_law [.im (.scr ns)] [] = .ok (.im (.bl true)) ce := by
  rw [← G.f_law_eq]
  exact G.law_true ns h
end K10

set_option Elab.async false
set_option linter.all false
set_option autoImplicit false
set_option maxRecDepth 100000
set_option maxHeartbeats 0
namespace K10
open PySem PySem.Spec PyProof.Rows L2 Fx
section
variable {P : Program} {w : World} {K : PySem.W.Frag} {mg : Str → Option Value} {base : Heap} {f : Addr} {fd : FuncData}
theorem b_abs (T : TX K w mg) : mg "abs" = none := T.free _ (by decide +kernel)
theorem b_all (T : TX K w mg) : mg "all" = none := T.free _ (by decide +kernel)
theorem b_bool (T : TX K w mg) : mg "bool" = none := T.free _ (by decide +kernel)
theorem b_int (T : TX K w mg) : mg "int" = none := T.free _ (by decide +kernel)
theorem b_isinstance (T : TX K w mg) : mg "isinstance" = none := T.free _ (by decide +kernel)
theorem b_len (T : TX K w mg) : mg "len" = none := T.free _ (by decide +kernel)
theorem b_list (T : TX K w mg) : mg "list" = none := T.free _ (by decide +kernel)
theorem b_max (T : TX K w mg) : mg "max" = none := T.free _ (by decide +kernel)
theorem b_min (T : TX K w mg) : mg "min" = none := T.free _ (by decide +kernel)
theorem b_range (T : TX K w mg) : mg "range" = none := T.free _ (by decide +kernel)
theorem b_str (T : TX K w mg) : mg "str" = none := T.free _ (by decide +kernel)
theorem b_super (T : TX K w mg) : mg "super" = none := T.free _ (by decide +kernel)
theorem b_tuple (T : TX K w mg) : mg "tuple" = none := T.free _ (by decide +kernel)
theorem b_zip (T : TX K w mg) : mg "zip" = none := T.free _ (by decide +kernel)
theorem g_InvalidTable (T : TX K w mg) : mg "InvalidTable" = some (.ref (He.ga K "InvalidTable")) := T.glo _ (by decide +kernel)
theorem g_InvalidWays (T : TX K w mg) : mg "InvalidWays" = some (.ref (He.ga K "InvalidWays")) := T.glo _ (by decide +kernel)
theorem g_PartError (T : TX K w mg) : mg "PartError" = some (.ref (He.ga K "PartError")) := T.glo _ (by decide +kernel)
theorem sc__law_box : FnScope ["_law_script", "_law_k", "_law_great", "_law_seed"] ["_law_script", "_law_k"] (defScope s__law_box) := ⟨rfl, rfl, rfl, by decide +kernel, rfl, by decide +kernel, by decide +kernel⟩
theorem ok__law_box (T : TX K w mg)  (F : FunD K "_law_box" "_law_box" (defArgs s__law_box) (defBody s__law_box) (defScope s__law_box) [] [] f fd) : FnG P w K mg base (CX P w) 1 f fd ["_law_script", "_law_k"] (spFn K 2 f__law_box) := by
  refine FnG.loc (fn_okC F sc__law_box (by decide) fun cdv Ar outer s H E xs hr => ?_)
  have hu := hu_of hr.r
  exact ⟨_, (pss_cons (ps_set (i := 2) sc__law_box.nd rfl (Or.inl rfl) (pe_op (op_addA' (K := K)) (pe_op op_mulA pe_int (pv 1)) pe_int))
      (pss_cons (ps_if (pt_cmpR op_ltA (pv 1) (pe_callB (cl_len' (K := K)) (by rfl) (b_len T) (by decide +kernel) (pa_cons (pv 0) pa_nil)) (nomark _)) (pss_one (ps_set (i := 2) sc__law_box.nd rfl (Or.inl rfl) (pe_callB cl_abs (by rfl) (b_abs T) (by decide +kernel) (pa_cons (pe_callTy cl_int (by rfl) (b_int T) (by decide +kernel) (pa_cons (pe_ix (ix_all' (K := K) (w := w) hu) (pv 0) (pv 1) (fun _ _ => rfl)) pa_nil)) pa_nil)))) (pss_one (ps_if (pt_cmpR op_gtA (pe_callB (cl_len' (K := K)) (by rfl) (b_len T) (by decide +kernel) (pa_cons (pv 0) pa_nil)) pe_int (nomark _)) (pss_one (ps_set (i := 2) sc__law_box.nd rfl (Or.inl rfl) (pe_op (op_addA' (K := K)) (pv 2) (pe_op op_mulA (pe_op op_modA (pe_callTy cl_int (by rfl) (b_int T) (by decide +kernel) (pa_cons (pe_ix (ix_all' (K := K) (w := w) hu) (pv 0) (pe_op op_modA (pe_callTy cl_int (by rfl) (b_int T) (by decide +kernel) (pa_cons (pv 1) pa_nil)) (pe_callB (cl_len' (K := K)) (by rfl) (b_len T) (by decide +kernel) (pa_cons (pv 0) pa_nil))) (fun _ _ => rfl)) pa_nil)) pe_int) pe_int)))) pss_nil)))
      (pss_cons (ps_set (i := 3) sc__law_box.nd rfl (Or.inl rfl) (pe_op (op_addA' (K := K)) (pe_op op_modA (pe_callTy cl_int (by rfl) (b_int T) (by decide +kernel) (pa_cons (pe_op (op_addA' (K := K)) (pe_op (op_addA' (K := K)) (pe_op op_mulA (pe_op op_modA (pe_callTy cl_int (by rfl) (b_int T) (by decide +kernel) (pa_cons (pv 2) pa_nil)) pe_int) pe_int) (pe_op op_mulA pe_int (pv 1))) pe_int) pa_nil)) pe_int) pe_int))
      (pss_one (ps_ret (pe_lst (pa_cons (pe_ix (ix_all' (K := K) (w := w) hu) (pe_lst (pa_cons pe_int (pa_cons (pv 2) pa_nil))) (pe_callTy cl_int (by rfl) (b_int T) (by decide +kernel) (pa_cons (pe_cmpR op_geA (pv 2) (pe_op op_powA pe_int pe_int) (nomark _)) pa_nil)) (fun _ _ => rfl)) (pa_cons (pv 3) (pa_cons pe_int pa_nil))))))))),
    (ss_seq (ss_asg (se_op ok_add (se_op ok_mul (se_int _) (se_var 1)) (se_int _)) (sg_nm 2))
      (ss_seq (ss_if (st_test (se_op ok_lt (se_var 1) (se_cb ok_len (sa_cons (se_var 0) sa_nil)))) (ss_asg (se_cb ok_abs (sa_cons (se_cb ok_int (sa_cons (se_op (ok_ix T.tabs) (se_var 0) (se_var 1)) sa_nil)) sa_nil)) (sg_nm 2)) (ss_if (st_test (se_op ok_gt (se_cb ok_len (sa_cons (se_var 0) sa_nil)) (se_int _))) (ss_asg (se_op ok_add (se_var 2) (se_op ok_mul (se_op ok_mod (se_cb ok_int (sa_cons (se_op (ok_ix T.tabs) (se_var 0) (se_op ok_mod (se_cb ok_int (sa_cons (se_var 1) sa_nil)) (se_cb ok_len (sa_cons (se_var 0) sa_nil)))) sa_nil)) (se_int _)) (se_int _))) (sg_nm 2)) ss_next))
      (ss_seq (ss_asg (se_op ok_add (se_op ok_mod (se_cb ok_int (sa_cons (se_op ok_add (se_op ok_add (se_op ok_mul (se_op ok_mod (se_cb ok_int (sa_cons (se_var 2) sa_nil)) (se_int _)) (se_int _)) (se_op ok_mul (se_int _) (se_var 1))) (se_int _)) sa_nil)) (se_int _)) (se_int _)) (sg_nm 3))
      (ss_ret (se_lstC (sa_cons (se_op (ok_ix T.tabs) (se_lst (sa_cons (se_int _) (sa_cons (se_var 2) sa_nil))) (se_cb ok_int (sa_cons (se_op ok_ge (se_var 2) (se_op ok_pow (se_int _) (se_int _))) sa_nil))) (sa_cons (se_var 3) (sa_cons (se_int _) sa_nil))))))))⟩
theorem sc__law_take : FnScope ["_law_box_here", "_law_many", "_law_digit", "_law_near"] ["_law_box_here", "_law_many"] (defScope s__law_take) := ⟨rfl, rfl, rfl, by decide +kernel, rfl, by decide +kernel, by decide +kernel⟩
theorem ok__law_take (T : TX K w mg)  (F : FunD K "_law_take" "_law_take" (defArgs s__law_take) (defBody s__law_take) (defScope s__law_take) [] [] f fd) : FnG P w K mg base (CX P w) 1 f fd ["_law_box_here", "_law_many"] (spFn K 2 f__law_take) := by
  refine FnG.loc (fn_ok F sc__law_take (by decide) fun cdv Ar outer s H E xs hr => ?_)
  have hu := hu_of hr.r
  exact ⟨_, (pss_cons (ps_if (pt_cmpR op_gtA (pe_ix (ix_all' (K := K) (w := w) hu) (pv 0) pe_int (fun _ _ => rfl)) pe_int (nomark _)) (pss_cons (ps_set (i := 2) sc__law_take.nd rfl (Or.inl rfl) (pe_op op_modA (pe_callTy cl_int (by rfl) (b_int T) (by decide +kernel) (pa_cons (pe_ix (ix_all' (K := K) (w := w) hu) (pv 0) pe_int (fun _ _ => rfl)) pa_nil)) (pv 1)))
      (pss_cons (ps_asg (pe_op op_fdivA (pe_ix (ix_all' (K := K) (w := w) hu) (pv 0) pe_int (fun _ _ => rfl)) (pv 1)) (pg_sub (pv 0) pe_int set_list))
      (pss_one (ps_ret (pv 2))))) pss_nil)
      (pss_cons (ps_asg (pe_op (op_addA' (K := K)) (pe_ix (ix_all' (K := K) (w := w) hu) (pv 0) pe_int (fun _ _ => rfl)) pe_int) (pg_sub (pv 0) pe_int set_list))
      (pss_cons (ps_set (i := 3) sc__law_take.nd rfl (Or.inl rfl) (pe_op op_modA (pe_callTy cl_int (by rfl) (b_int T) (by decide +kernel) (pa_cons (pe_op op_mulA (pe_op (op_addA' (K := K)) (pe_ix (ix_all' (K := K) (w := w) hu) (pv 0) pe_int (fun _ _ => rfl)) (pe_op op_mulA pe_int (pe_ix (ix_all' (K := K) (w := w) hu) (pv 0) pe_int (fun _ _ => rfl)))) pe_int) pa_nil)) pe_int))
      (pss_cons (ps_asg (pe_op (op_addA' (K := K)) (pe_op op_modA (pe_callTy cl_int (by rfl) (b_int T) (by decide +kernel) (pa_cons (pe_op (op_addA' (K := K)) (pe_op op_mulA (pv 3) pe_int) pe_int) pa_nil)) pe_int) pe_int) (pg_sub (pv 0) pe_int set_list))
      (pss_one (ps_ret (pe_op op_modA (pe_callTy cl_int (by rfl) (b_int T) (by decide +kernel) (pa_cons (pe_op op_fdivA (pe_op (op_addA' (K := K)) (pe_op op_mulA (pv 3) pe_int) (pe_ix (ix_all' (K := K) (w := w) hu) (pv 0) pe_int (fun _ _ => rfl))) pe_int) pa_nil)) (pv 1)))))))),
    (ss_seq (ss_if (st_test (se_op ok_gt (se_op (ok_ix T.tabs) (se_var 0) (se_int _)) (se_int _))) (ss_seq (ss_asg (se_op ok_mod (se_cb ok_int (sa_cons (se_op (ok_ix T.tabs) (se_var 0) (se_int _)) sa_nil)) (se_var 1)) (sg_nm 2))
      (ss_seq (ss_asg (se_op ok_fdiv (se_op (ok_ix T.tabs) (se_var 0) (se_int _)) (se_var 1)) (sg_ix (se_var 0) (se_int _)))
      (ss_ret (se_var 2)))) ss_next)
      (ss_seq (ss_asg (se_op ok_add (se_op (ok_ix T.tabs) (se_var 0) (se_int _)) (se_int _)) (sg_ix (se_var 0) (se_int _)))
      (ss_seq (ss_asg (se_op ok_mod (se_cb ok_int (sa_cons (se_op ok_mul (se_op ok_add (se_op (ok_ix T.tabs) (se_var 0) (se_int _)) (se_op ok_mul (se_int _) (se_op (ok_ix T.tabs) (se_var 0) (se_int _)))) (se_int _)) sa_nil)) (se_int _)) (sg_nm 3))
      (ss_seq (ss_asg (se_op ok_add (se_op ok_mod (se_cb ok_int (sa_cons (se_op ok_add (se_op ok_mul (se_var 3) (se_int _)) (se_int _)) sa_nil)) (se_int _)) (se_int _)) (sg_ix (se_var 0) (se_int _)))
      (ss_ret (se_op ok_mod (se_cb ok_int (sa_cons (se_op ok_fdiv (se_op ok_add (se_op ok_mul (se_var 3) (se_int _)) (se_op (ok_ix T.tabs) (se_var 0) (se_int _))) (se_int _)) sa_nil)) (se_var 1)))))))⟩
theorem sc__law_pick : FnScope ["_law_box_here", "_law_some"] ["_law_box_here", "_law_some"] (defScope s__law_pick) := ⟨rfl, rfl, rfl, by decide +kernel, rfl, by decide +kernel, by decide +kernel⟩
theorem ok__law_pick_t (T : TX K w mg) (G__law_take : GF P w K mg base "_law_take" 2 [] 1 f__law_take) (F : FunD K "_law_pick" "_law_pick" (defArgs s__law_pick) (defBody s__law_pick) (defScope s__law_pick) [] [] f fd) : FnG P w K mg base (CX P w) 2 f fd ["_law_box_here", "_law_some"] (spFn K 2 t__law_pick) := by
  refine fn_ok F sc__law_pick (by decide) fun cdv Ar outer s H E xs hr => ?_
  have hu := hu_of hr.r
  exact ⟨_, (pss_one (ps_ret (pe_ix (ix_all' (K := K) (w := w) hu) (pv 1) (pe_cf G__law_take (hr.mono (by decide)) (by rfl) (takes_of rfl rfl rfl rfl) (pa_cons (pv 0) (pa_cons (pe_callB (cl_len' (K := K)) (by rfl) (b_len T) (by decide +kernel) (pa_cons (pv 1) pa_nil)) pa_nil))) (fun _ _ => rfl)))),
    (ss_ret (se_op (ok_ix T.tabs) (se_var 1) (se_call (sa_cons (se_var 0) (sa_cons (se_thaw (is := [1]) (se_cb ok_len (sa_cons (se_var 1) sa_nil))) sa_nil)))))⟩
theorem ok__law_pick (T : TX K w mg) (G__law_take : GF P w K mg base "_law_take" 2 [] 1 f__law_take) (F : FunD K "_law_pick" "_law_pick" (defArgs s__law_pick) (defBody s__law_pick) (defScope s__law_pick) [] [] f fd) : FnG P w K mg base (CX P w) 2 f fd ["_law_box_here", "_law_some"] (spFn K 2 f__law_pick) :=
  FnG.loc (ok__law_pick_t T G__law_take F)
theorem sc__law_shuffled : FnScope ["_law_box_here", "_law_some", "_law_rest", "_law_found", "_law_turn"] ["_law_box_here", "_law_some"] (defScope s__law_shuffled) := ⟨rfl, rfl, rfl, by decide +kernel, rfl, by decide +kernel, by decide +kernel⟩
theorem ok__law_shuffled (T : TX K w mg) (G__law_take : GF P w K mg base "_law_take" 2 [] 1 f__law_take) (F : FunD K "_law_shuffled" "_law_shuffled" (defArgs s__law_shuffled) (defBody s__law_shuffled) (defScope s__law_shuffled) [] [] f fd) : FnG P w K mg base (CX P w) 2 f fd ["_law_box_here", "_law_some"] (spFn K 2 f__law_shuffled) := by
  refine FnG.loc (fn_ok F sc__law_shuffled (by decide) fun cdv Ar outer s H E xs hr => ?_)
  have hu := hu_of hr.r
  exact ⟨_, (pss_cons (ps_par (i := 2) (j := 3) rfl sc__law_shuffled.nd rfl rfl (by decide) rfl rfl (pa_cons (pe_callTy (cl_list' (K := K)) (by rfl) (b_list T) (by decide +kernel) (pa_cons (pv 1) pa_nil)) (pa_cons (pe_lst pa_nil) pa_nil)) (by rfl))
      (pss_cons (ps_for (passes_of rfl) rfl (pi_range1 rfl (b_range T) (pa_cons (pe_callB (cl_len' (K := K)) (by rfl) (b_len T) (by decide +kernel) (pa_cons (pv 2) pa_nil)) pa_nil)) (pg_name (i := 4) sc__law_shuffled.nd rfl (Or.inl rfl)) (pss_one (ps_expr (pe_bm' (K := K) PySem.F.plainAttrs_list PySem.F.slot_list_append PySem.F.type_list_append mtr_append (pv 3) (pa_cons (pe_bm' (K := K) PySem.F.plainAttrs_list PySem.F.slot_list_pop PySem.F.type_list_pop mtr_popAt (pv 2) (pa_cons (pe_cf G__law_take (hr.mono (by decide)) (by rfl) (takes_of rfl rfl rfl rfl) (pa_cons (pv 0) (pa_cons (pe_callB (cl_len' (K := K)) (by rfl) (b_len T) (by decide +kernel) (pa_cons (pv 2) pa_nil)) pa_nil))) pa_nil)) pa_nil)))))
      (pss_one (ps_ret (pv 3))))),
    (ss_seq (ss_par (sa_cons (se_cb ok_listC (sa_cons (se_var 1) sa_nil)) (sa_cons (se_lstC sa_nil) sa_nil)))
      (ss_seq (ss_for (si_rg1 (sa_cons (se_cb ok_len (sa_cons (se_var 2) sa_nil)) sa_nil)) (sg_nm 4) (ss_expr (se_bmL ok_append (se_var 3) (sa_cons (se_bmL ok_pop (se_var 2) (sa_cons (se_call (sa_cons (se_var 0) (sa_cons (se_cb ok_len (sa_cons (se_var 2) sa_nil)) sa_nil))) sa_nil)) sa_nil))))
      (ss_ret (se_var 3))))⟩
theorem sc__law_names : FnScope ["_law_box_here", "_law_many", "_law_kept", "_law_letters", "_law_form", "_law_spot", "_law_k"] ["_law_box_here", "_law_many"] (defScope s__law_names) := ⟨rfl, rfl, rfl, by decide +kernel, rfl, by decide +kernel, by decide +kernel⟩
theorem ok__law_names (T : TX K w mg) (G__law_take : GF P w K mg base "_law_take" 2 [] 1 f__law_take) (G__law_shuffled : GF P w K mg base "_law_shuffled" 2 [] 2 f__law_shuffled) (F : FunD K "_law_names" "_law_names" (defArgs s__law_names) (defBody s__law_names) (defScope s__law_names) [] [] f fd) : FnG P w K mg base (CX P w) 3 f fd ["_law_box_here", "_law_many"] (spFn K 2 f__law_names) := by
  refine FnG.loc (fn_ok F sc__law_names (by decide) fun cdv Ar outer s H E xs hr => ?_)
  have hu := hu_of hr.r
  exact ⟨_, (pss_cons (ps_set (i := 2) sc__law_names.nd rfl (Or.inr rfl) (pe_lst (pa_cons pe_str (pa_cons pe_str (pa_cons pe_str (pa_cons pe_str (pa_cons pe_str (pa_cons pe_str (pa_cons pe_str (pa_cons pe_str (pa_cons pe_str (pa_cons pe_str (pa_cons pe_str (pa_cons pe_str pa_nil))))))))))))))
      (pss_cons (ps_asg (pe_tup (pa_cons pe_str (pa_cons (pe_cf G__law_take (hr.mono (by decide)) (by rfl) (takes_of rfl rfl rfl rfl) (pa_cons (pv 0) (pa_cons pe_int pa_nil))) (pa_cons (pe_cf G__law_take (hr.mono (by decide)) (by rfl) (takes_of rfl rfl rfl rfl) (pa_cons (pv 0) (pa_cons pe_int pa_nil))) pa_nil)))) (pg_tup' (K := K) rfl (pgs_cons (pg_name (i := 3) sc__law_names.nd rfl (Or.inr rfl)) (pgs_cons (pg_name (i := 4) sc__law_names.nd rfl (Or.inl rfl)) (pgs_cons (pg_name (i := 5) sc__law_names.nd rfl (Or.inr rfl)) pgs_nil)))))
      (pss_cons (ps_if (pt_cmpR (op_eqA' (K := K) hr) (pv 4) pe_int (nomark _)) (pss_one (ps_ret (pe_lc (own := [("_law_k", 6)]) rfl sc__law_names.nd (pi_range1 rfl (b_range T) (pa_cons (pv 1) pa_nil)) (blkOk_by (N := ["_law_box_here", "_law_many", "_law_kept", "_law_letters", "_law_form", "_law_spot", "_law_k"]) (sc := defScope s__law_names) (by decide +kernel)) (fun _ _ _ _ _ => by exact (pg_name (i := 6) sc__law_names.nd rfl (Or.inl rfl))) (fun _ _ _ _ _ => by exact pts_nil) (fun _ _ _ _ _ => by exact (pe_ix (ix_all' (K := K) (w := w) hu) (pv 2) (pe_op op_modA (pe_callTy cl_int (by rfl) (b_int T) (by decide +kernel) (pa_cons (pe_op (op_addA' (K := K)) (pv 5) (pe_op op_mulA pe_int (pv 6))) pa_nil)) pe_int) (fun _ _ => rfl)))))) pss_nil)
      (pss_cons (ps_if (PW.pt (pw_and (pt_cmpR (op_eqA' (K := K) hr) (pv 4) pe_int (nomark _)) (pw_and1 (pt_cmpR op_ltA (pv 1) pe_int (nomark _))))) (pss_one (ps_ret (pe_cf G__law_shuffled (hr.mono (by decide)) (by rfl) (takes_of rfl rfl rfl rfl) (pa_cons (pv 0) (pa_cons (pe_lc (own := [("_law_k", 6)]) rfl sc__law_names.nd (pi_range1 rfl (b_range T) (pa_cons (pv 1) pa_nil)) (blkOk_by (N := ["_law_box_here", "_law_many", "_law_kept", "_law_letters", "_law_form", "_law_spot", "_law_k"]) (sc := defScope s__law_names) (by decide +kernel)) (fun _ _ _ _ _ => by exact (pg_name (i := 6) sc__law_names.nd rfl (Or.inl rfl))) (fun _ _ _ _ _ => by exact pts_nil) (fun _ _ _ _ _ => by exact (pe_slice (sl_all' (K := K)) pe_str po_none (po_some (pe_op (op_addA' (K := K)) (pv 6) pe_int))))) pa_nil))))) pss_nil)
      (pss_one (ps_ret (pe_lc (own := [("_law_k", 6)]) rfl sc__law_names.nd (pi_range1 rfl (b_range T) (pa_cons (pv 1) pa_nil)) (blkOk_by (N := ["_law_box_here", "_law_many", "_law_kept", "_law_letters", "_law_form", "_law_spot", "_law_k"]) (sc := defScope s__law_names) (by decide +kernel)) (fun _ _ _ _ _ => by exact (pg_name (i := 6) sc__law_names.nd rfl (Or.inl rfl))) (fun _ _ _ _ _ => by exact pts_nil) (fun _ _ _ _ _ => by exact (pe_op (op_addA' (K := K)) (pe_ix (ix_all' (K := K) (w := w) hu) (pv 3) (pe_op op_modA (pe_callTy cl_int (by rfl) (b_int T) (by decide +kernel) (pa_cons (pe_op (op_addA' (K := K)) (pv 5) (pe_op op_mulA pe_int (pv 6))) pa_nil)) pe_int) (fun _ _ => rfl)) (pe_op op_mulA pe_str (pe_op op_modA (pe_callTy cl_int (by rfl) (b_int T) (by decide +kernel) (pa_cons (pv 5) pa_nil)) pe_int))))))))))),
    (ss_seq (ss_asg (se_lst (sa_cons (se_str _) (sa_cons (se_str _) (sa_cons (se_str _) (sa_cons (se_str _) (sa_cons (se_str _) (sa_cons (se_str _) (sa_cons (se_str _) (sa_cons (se_str _) (sa_cons (se_str _) (sa_cons (se_str _) (sa_cons (se_str _) (sa_cons (se_str _) sa_nil))))))))))))) (sg_nm 2))
      (ss_seq (ss_asg (se_tup (sa_cons (se_str _) (sa_cons (se_call (sa_cons (se_var 0) (sa_cons (se_int _) sa_nil))) (sa_cons (se_call (sa_cons (se_var 0) (sa_cons (se_int _) sa_nil))) sa_nil)))) (sg_tp (sgs_cons (sg_nm 3) (sgs_cons (sg_nm 4) (sgs_cons (sg_nm 5) sgs_nil)))))
      (ss_seq (ss_if (st_test (se_op ok_eq (se_var 4) (se_int _))) (ss_ret (se_lc (vs := [6]) (si_rg1 (sa_cons (se_var 1) sa_nil)) (sg_nm 6) st_yes (se_op (ok_ix T.tabs) (se_var 2) (se_op ok_mod (se_cb ok_int (sa_cons (se_op ok_add (se_var 5) (se_op ok_mul (se_int _) (se_var 6))) sa_nil)) (se_int _))) (lc_w (tgo_nm (by decide))))) ss_next)
      (ss_seq (ss_if (st_and (st_test (se_op ok_eq (se_var 4) (se_int _))) (st_test (se_op ok_lt (se_var 1) (se_int _)))) (ss_ret (se_call (sa_cons (se_var 0) (sa_cons (se_lc (vs := [6]) (si_rg1 (sa_cons (se_var 1) sa_nil)) (sg_nm 6) st_yes (se_sl (se_str _) so_none (so_some (se_op ok_add (se_var 6) (se_int _)))) (lc_w (tgo_nm (by decide)))) sa_nil)))) ss_next)
      (ss_ret (se_lc (vs := [6]) (si_rg1 (sa_cons (se_var 1) sa_nil)) (sg_nm 6) st_yes (se_op ok_add (se_op (ok_ix T.tabs) (se_var 3) (se_op ok_mod (se_cb ok_int (sa_cons (se_op ok_add (se_var 5) (se_op ok_mul (se_int _) (se_var 6))) sa_nil)) (se_int _))) (se_op ok_mul (se_str _) (se_op ok_mod (se_cb ok_int (sa_cons (se_var 5) sa_nil)) (se_int _)))) (lc_w (tgo_nm (by decide)))))))))⟩
theorem sc__law_columns : FnScope ["_law_box_here", "_law_many", "_law_name"] ["_law_box_here", "_law_many"] (defScope s__law_columns) := ⟨rfl, rfl, rfl, by decide +kernel, rfl, by decide +kernel, by decide +kernel⟩
theorem ok__law_columns (T : TX K w mg) (G__law_names : GF P w K mg base "_law_names" 2 [] 3 f__law_names) (G__law_pick : GF P w K mg base "_law_pick" 2 [] 2 f__law_pick) (F : FunD K "_law_columns" "_law_columns" (defArgs s__law_columns) (defBody s__law_columns) (defScope s__law_columns) [] [] f fd) : FnG P w K mg base (CX P w) 4 f fd ["_law_box_here", "_law_many"] (spFn K 2 f__law_columns) := by
  refine FnG.loc (fn_ok F sc__law_columns (by decide) fun cdv Ar outer s H E xs hr => ?_)
  have hu := hu_of hr.r
  exact ⟨_, (pss_one (ps_ret (pe_lc (own := [("_law_name", 2)]) rfl sc__law_columns.nd (pi_any (K := K) (pe_cf G__law_names (hr.mono (by decide)) (by rfl) (takes_of rfl rfl rfl rfl) (pa_cons (pv 0) (pa_cons (pv 1) pa_nil)))) (blkOk_by (N := ["_law_box_here", "_law_many", "_law_name"]) (sc := defScope s__law_columns) (by decide +kernel)) (fun _ _ _ _ _ => by exact (pg_name (i := 2) sc__law_columns.nd rfl (Or.inl rfl))) (fun _ _ _ _ _ => by exact pts_nil) (fun _ _ _ _ _ => by exact (pe_tup (pa_cons (pv 2) (pa_cons (pe_cf G__law_pick (hr.mono (by decide)) (by rfl) takes0 (pa_cons (pv 0) (pa_cons (pe_lst (pa_cons pe_str (pa_cons pe_str (pa_cons pe_str pa_nil)))) pa_nil))) pa_nil))))))),
    (ss_ret (se_lc (vs := [2]) (si_it (se_call (sa_cons (se_var 0) (sa_cons (se_var 1) sa_nil)))) (sg_nm 2) st_yes (se_tup (sa_cons (se_var 2) (sa_cons (se_call (sa_cons (se_var 0) (sa_cons (se_lst (sa_cons (se_str _) (sa_cons (se_str _) (sa_cons (se_str _) sa_nil)))) sa_nil))) sa_nil))) (lc_w (tgo_nm (by decide)))))⟩
theorem sc_is_sequence : FnScope ["value"] ["value"] (defScope s_is_sequence) := ⟨rfl, rfl, rfl, by decide +kernel, rfl, by decide +kernel, by decide +kernel⟩
theorem ok_is_sequence (T : TX K w mg)  (F : FunD K "is_sequence" "is_sequence" (defArgs s_is_sequence) (defBody s_is_sequence) (defScope s_is_sequence) [] [] f fd) : FnG P w K mg base (CX P w) 1 f fd ["value"] (spFn K 1 f_is_sequence) := by
  refine FnG.loc (fn_ok F sc_is_sequence (by decide) fun cdv Ar outer s H E xs hr => ?_)
  have hu := hu_of hr.r
  exact ⟨_, (pss_one (ps_ret (pe_callB (call_isiS' (K := K)) (by rfl) (b_isinstance T) (by decide +kernel) (pa_cons (pv 0) (pa_cons (pe_tup (pa_cons (pe_bltn (v := .ty "list") rfl (b_list T) (by decide +kernel) rfl) (pa_cons (pe_bltn (v := .ty "tuple") rfl (b_tuple T) (by decide +kernel) rfl) pa_nil))) pa_nil))))),
    (ss_ret (se_cb (ok_isiT T.isi) (sa_cons (se_var 0) (sa_cons (se_tup (sa_cons (se_ty _) (sa_cons (se_ty _) sa_nil))) sa_nil))))⟩
theorem sc_is_text : FnScope ["value", "letter"] ["value"] (defScope s_is_text) := ⟨rfl, rfl, rfl, by decide +kernel, rfl, by decide +kernel, by decide +kernel⟩
theorem ok_is_text (T : TX K w mg)  (F : FunD K "is_text" "is_text" (defArgs s_is_text) (defBody s_is_text) (defScope s_is_text) [] [] f fd) : FnG P w K mg base (CX P w) 1 f fd ["value"] (spFn K 1 f_is_text) := by
  refine FnG.loc (fn_ok F sc_is_text (by decide) fun cdv Ar outer s H E xs hr => ?_)
  have hu := hu_of hr.r
  obtain ⟨v_MOST_SIGNS, u_MOST_SIGNS, m_MOST_SIGNS, r_MOST_SIGNS, p_MOST_SIGNS⟩ := T.con "MOST_SIGNS" _ (by rfl)
  obtain ⟨v_LETTERS, u_LETTERS, m_LETTERS, r_LETTERS, p_LETTERS⟩ := T.con "LETTERS" _ (by rfl)
  exact ⟨_, (pss_cons (ps_if (PW.pt (pw_or (pt_not (pt_val (pe_callB (cl_isi' (K := K)) (by rfl) (b_isinstance T) (by decide +kernel) (pa_cons (pv 0) (pa_cons (pe_bltn (v := .ty "str") rfl (b_str T) (by decide +kernel) rfl) pa_nil))))) (pw_or1 (pt_cmpR op_gtA (pe_callB (cl_len' (K := K)) (by rfl) (b_len T) (by decide +kernel) (pa_cons (pv 0) pa_nil)) (pe_glob (v := v_MOST_SIGNS) rfl m_MOST_SIGNS r_MOST_SIGNS) (nomark _))))) (pss_one (ps_ret pe_bl)) pss_nil)
      (pss_one (ps_ret (pe_callB (cl_all' (K := K) rfl) (by rfl) (b_all T) (by decide +kernel) (pa_cons (pe_lc (own := [("letter", 1)]) rfl sc_is_text.nd (pi_any (K := K) (pe_bm' (K := K) PySem.F.plainAttrs_str PySem.F.slot_str_rstrip PySem.F.type_str_rstrip mtr_rstrip (pv 0) (pa_cons pe_str pa_nil))) (blkOk_by (N := ["value", "letter"]) (sc := defScope s_is_text) (by decide +kernel)) (fun _ _ _ _ _ => by exact (pg_name (i := 1) sc_is_text.nd rfl (Or.inl rfl))) (fun _ _ _ _ _ => by exact pts_nil) (fun _ _ _ _ _ => by exact (pe_cmpR (op_inA' (K := K) hu) (pv 1) (pe_glob (v := v_LETTERS) rfl m_LETTERS r_LETTERS) (by rfl)))) pa_nil))))),
    (ss_seq (ss_if (st_or (st_not (st_B (se_cb (ok_isi T.isi) (sa_cons (se_var 0) (sa_cons (se_ty _) sa_nil))))) (st_test (se_op ok_gt (se_cb ok_len (sa_cons (se_var 0) sa_nil)) (se_con p_MOST_SIGNS)))) (ss_ret (se_bl _)) ss_next)
      (ss_ret (se_cb ok_all (sa_cons (se_lc (vs := [1]) (si_it (se_bmS ok_rstrip (se_var 0) (sa_cons (se_str _) sa_nil))) (sg_nm 1) st_yes (se_op ok_in (se_var 1) (se_con p_LETTERS)) (lc_w (tgo_nm (by decide)))) sa_nil))))⟩
theorem sc_is_integer : FnScope ["value"] ["value"] (defScope s_is_integer) := ⟨rfl, rfl, rfl, by decide +kernel, rfl, by decide +kernel, by decide +kernel⟩
theorem ok_is_integer (T : TX K w mg)  (F : FunD K "is_integer" "is_integer" (defArgs s_is_integer) (defBody s_is_integer) (defScope s_is_integer) [] [] f fd) : FnG P w K mg base (CX P w) 1 f fd ["value"] (spFn K 1 f_is_integer) := by
  refine FnG.loc (fn_ok F sc_is_integer (by decide) fun cdv Ar outer s H E xs hr => ?_)
  have hu := hu_of hr.r
  exact ⟨_, (pss_one (ps_ret (pe_and (pe_callB (cl_isi' (K := K)) (by rfl) (b_isinstance T) (by decide +kernel) (pa_cons (pv 0) (pa_cons (pe_bltn (v := .ty "int") rfl (b_int T) (by decide +kernel) rfl) pa_nil))) (pe_one (pe_not (pe_callB (cl_isi' (K := K)) (by rfl) (b_isinstance T) (by decide +kernel) (pa_cons (pv 0) (pa_cons (pe_bltn (v := .ty "bool") rfl (b_bool T) (by decide +kernel) rfl) pa_nil)))))))),
    (ss_ret (se_andV (se_cb (ok_isi T.isi) (sa_cons (se_var 0) (sa_cons (se_ty _) sa_nil))) (se_notV (se_cb (ok_isi T.isi) (sa_cons (se_var 0) (sa_cons (se_ty _) sa_nil))))))⟩
theorem sc_is_number : FnScope ["value"] ["value"] (defScope s_is_number) := ⟨rfl, rfl, rfl, by decide +kernel, rfl, by decide +kernel, by decide +kernel⟩
theorem ok_is_number (T : TX K w mg) (G_is_integer : GF P w K mg base "is_integer" 1 [] 1 f_is_integer) (F : FunD K "is_number" "is_number" (defArgs s_is_number) (defBody s_is_number) (defScope s_is_number) [] [] f fd) : FnG P w K mg base (CX P w) 2 f fd ["value"] (spFn K 1 f_is_number) := by
  refine FnG.loc (fn_ok F sc_is_number (by decide) fun cdv Ar outer s H E xs hr => ?_)
  have hu := hu_of hr.r
  obtain ⟨v_MOST_NUMBER, u_MOST_NUMBER, m_MOST_NUMBER, r_MOST_NUMBER, p_MOST_NUMBER⟩ := T.con "MOST_NUMBER" _ (by rfl)
  exact ⟨_, (pss_one (ps_ret (pe_and (pe_cf G_is_integer (hr.mono (by decide)) (by rfl) (takes_of rfl rfl rfl rfl) (pa_cons (pv 0) pa_nil)) (pe_one (pe_chain op_leA op_leA (pe_un un_neg (pe_glob (v := v_MOST_NUMBER) rfl m_MOST_NUMBER r_MOST_NUMBER)) (pv 0) (pe_glob (v := v_MOST_NUMBER) rfl m_MOST_NUMBER r_MOST_NUMBER)))))),
    (ss_ret (se_andV (se_call (sa_cons (se_var 0) sa_nil)) (se_chain ok_le ok_le (se_neg (se_con p_MOST_NUMBER)) (se_var 0) (se_con p_MOST_NUMBER))))⟩
theorem sc_is_of_sort : FnScope ["value", "sort"] ["value", "sort"] (defScope s_is_of_sort) := ⟨rfl, rfl, rfl, by decide +kernel, rfl, by decide +kernel, by decide +kernel⟩
theorem ok_is_of_sort (T : TX K w mg) (G_is_text : GF P w K mg base "is_text" 1 [] 1 f_is_text) (G_is_number : GF P w K mg base "is_number" 1 [] 2 f_is_number) (F : FunD K "is_of_sort" "is_of_sort" (defArgs s_is_of_sort) (defBody s_is_of_sort) (defScope s_is_of_sort) [] [] f fd) : FnG P w K mg base (CX P w) 3 f fd ["value", "sort"] (spFn K 2 f_is_of_sort) := by
  refine FnG.loc (fn_ok F sc_is_of_sort (by decide) fun cdv Ar outer s H E xs hr => ?_)
  have hu := hu_of hr.r
  exact ⟨_, (pss_one (ps_ret (pe_ifExp (pt_cmpR (op_eqA' (K := K) hr) (pv 1) pe_str (nomark _)) (pe_cf G_is_text (hr.mono (by decide)) (by rfl) (takes_of rfl rfl rfl rfl) (pa_cons (pv 0) pa_nil)) (pe_cf G_is_number (hr.mono (by decide)) (by rfl) (takes_of rfl rfl rfl rfl) (pa_cons (pv 0) pa_nil))))),
    (ss_ret (se_if (st_test (se_op ok_eq (se_var 1) (se_str _))) (se_call (sa_cons (se_var 0) sa_nil)) (se_call (sa_cons (se_var 0) sa_nil))))⟩
theorem sc_is_row : FnScope ["columns", "cells", "cell", "name", "sort"] ["columns", "cells"] (defScope s_is_row) := ⟨rfl, rfl, rfl, by decide +kernel, rfl, by decide +kernel, by decide +kernel⟩
theorem ok_is_row (T : TX K w mg) (G_is_of_sort : GF P w K mg base "is_of_sort" 2 [] 3 f_is_of_sort) (F : FunD K "is_row" "is_row" (defArgs s_is_row) (defBody s_is_row) (defScope s_is_row) [] [] f fd) : FnG P w K mg base (CX P w) 4 f fd ["columns", "cells"] (spFn K 2 f_is_row) := by
  refine FnG.loc (fn_ok F sc_is_row (by decide) fun cdv Ar outer s H E xs hr => ?_)
  have hu := hu_of hr.r
  exact ⟨_, (pss_one (ps_ret (pe_callB (cl_all' (K := K) rfl) (by rfl) (b_all T) (by decide +kernel) (pa_cons (pe_lc (own := [("cell", 2), ("name", 3), ("sort", 4)]) rfl sc_is_row.nd (pi_zipM (K := K) rfl (b_zip T) (pa_cons (pv 1) (pa_cons (pv 0) pa_nil))) (blkOk_by (N := ["columns", "cells", "cell", "name", "sort"]) (sc := defScope s_is_row) (by decide +kernel)) (fun _ _ _ _ _ => by exact (pg_tup' (K := K) rfl (pgs_cons (pg_name (i := 2) sc_is_row.nd rfl (Or.inl rfl)) (pgs_cons (pg_tup' (K := K) rfl (pgs_cons (pg_name (i := 3) sc_is_row.nd rfl (Or.inl rfl)) (pgs_cons (pg_name (i := 4) sc_is_row.nd rfl (Or.inl rfl)) pgs_nil))) pgs_nil)))) (fun _ _ _ _ _ => by exact pts_nil) (fun _ _ _ _ _ => by exact (pe_or (pe_cmpR op_isA (pv 2) pe_non (nomark _)) (pe_one (pe_cf G_is_of_sort (hr.mono (by decide)) (by rfl) takes0 (pa_cons (pv 2) (pa_cons (pv 4) pa_nil))))))) pa_nil)))),
    (ss_ret (se_cb ok_all (sa_cons (se_lc (vs := [2, 3, 4]) (si_zipM (sa_cons (se_var 1) (sa_cons (se_var 0) sa_nil))) (sg_tp (sgs_cons (sg_nm 2) (sgs_cons (sg_tp (sgs_cons (sg_nm 3) (sgs_cons (sg_nm 4) sgs_nil))) sgs_nil))) st_yes (se_orV (se_op ok_is (se_var 2) se_non) (se_call (sa_cons (se_var 2) (sa_cons (se_var 4) sa_nil)))) (lc_w (tgo_tp (tgos_cons (tgo_nm (by decide)) (tgos_cons (tgo_tp (tgos_cons (tgo_nm (by decide)) (tgos_cons (tgo_nm (by decide)) tgos_nil))) tgos_nil))))) sa_nil)))⟩
theorem sc_need_rows : FnScope ["columns", "rows", "row"] ["columns", "rows"] (defScope s_need_rows) := ⟨rfl, rfl, rfl, by decide +kernel, rfl, by decide +kernel, by decide +kernel⟩
theorem ok_need_rows (T : TX K w mg) (G_is_sequence : GF P w K mg base "is_sequence" 1 [] 1 f_is_sequence) (S_InvalidTable : SupTxt P K mg "InvalidTable" "word" (He.ga K "InvalidTable") (fIof K (He.ga K "InvalidTable"))) (G_is_row : GF P w K mg base "is_row" 2 [] 4 f_is_row) (F : FunD K "need_rows" "need_rows" (defArgs s_need_rows) (defBody s_need_rows) (defScope s_need_rows) [] [] f fd) : FnG P w K mg base (CX P w) 5 f fd ["columns", "rows"] (spFn K 2 f_need_rows) := by
  refine FnG.loc (fn_ok F sc_need_rows (by decide) fun cdv Ar outer s H E xs hr => ?_)
  have hu := hu_of hr.r
  exact ⟨_, (pss_cons (ps_if (pt_not (pt_val (pe_cf G_is_sequence (hr.mono (by decide)) (by rfl) (takes_of rfl rfl rfl rfl) (pa_cons (pv 1) pa_nil)))) (pss_one (ps_raiseSup rfl S_InvalidTable hr (takes_of rfl rfl rfl rfl) (pa_cons pe_str pa_nil) (by rfl))) pss_nil)
      (pss_cons (ps_if (pt_not (pt_val (pe_callB (cl_all' (K := K) rfl) (by rfl) (b_all T) (by decide +kernel) (pa_cons (pe_lc (own := [("row", 2)]) rfl sc_need_rows.nd (pi_any (K := K) (pv 1)) (blkOk_by (N := ["columns", "rows", "row"]) (sc := defScope s_need_rows) (by decide +kernel)) (fun _ _ _ _ _ => by exact (pg_name (i := 2) sc_need_rows.nd rfl (Or.inl rfl))) (fun _ _ _ _ _ => by exact pts_nil) (fun _ _ _ _ _ => by exact (pe_and (pe_cf G_is_sequence (hr.mono (by decide)) (by rfl) takes0 (pa_cons (pv 2) pa_nil)) (pe_one (pe_cmpR (op_eqA' (K := K) hr) (pe_callB (cl_len' (K := K)) (by rfl) (b_len T) (by decide +kernel) (pa_cons (pv 2) pa_nil)) (pe_callB (cl_len' (K := K)) (by rfl) (b_len T) (by decide +kernel) (pa_cons (pv 0) pa_nil)) (nomark _)))))) pa_nil)))) (pss_one (ps_raiseSup rfl S_InvalidTable hr (takes_of rfl rfl rfl rfl) (pa_cons pe_str pa_nil) (by rfl))) pss_nil)
      (pss_one (ps_if (pt_not (pt_val (pe_callB (cl_all' (K := K) rfl) (by rfl) (b_all T) (by decide +kernel) (pa_cons (pe_lc (own := [("row", 2)]) rfl sc_need_rows.nd (pi_any (K := K) (pv 1)) (blkOk_by (N := ["columns", "rows", "row"]) (sc := defScope s_need_rows) (by decide +kernel)) (fun _ _ _ _ _ => by exact (pg_name (i := 2) sc_need_rows.nd rfl (Or.inl rfl))) (fun _ _ _ _ _ => by exact pts_nil) (fun _ _ _ _ _ => by exact (pe_cf G_is_row (hr.mono (by decide)) (by rfl) takes0 (pa_cons (pv 0) (pa_cons (pv 2) pa_nil))))) pa_nil)))) (pss_one (ps_raiseSup rfl S_InvalidTable hr (takes_of rfl rfl rfl rfl) (pa_cons pe_str pa_nil) (by rfl))) pss_nil)))),
    (ss_seq (ss_if (st_not (st_B (se_call (sa_cons (se_var 1) sa_nil)))) (ss_raise (se_str _)) ss_next)
      (ss_seq (ss_if (st_not (st_B (se_cb ok_all (sa_cons (se_lc (vs := [2]) (si_it (se_var 1)) (sg_nm 2) st_yes (se_andV (se_call (sa_cons (se_var 2) sa_nil)) (se_op ok_eq (se_cb ok_len (sa_cons (se_var 2) sa_nil)) (se_cb ok_len (sa_cons (se_var 0) sa_nil)))) (lc_w (tgo_nm (by decide)))) sa_nil)))) (ss_raise (se_str _)) ss_next)
      (ss_if (st_not (st_B (se_cb ok_all (sa_cons (se_lc (vs := [2]) (si_it (se_var 1)) (sg_nm 2) st_yes (se_call (sa_cons (se_var 0) (sa_cons (se_var 2) sa_nil))) (lc_w (tgo_nm (by decide)))) sa_nil)))) (ss_raise (se_str _)) ss_next)))⟩
theorem sc_columns_of : FnScope ["value", "pair"] ["value"] (defScope s_columns_of) := ⟨rfl, rfl, rfl, by decide +kernel, rfl, by decide +kernel, by decide +kernel⟩
theorem ok_columns_of (T : TX K w mg)  (F : FunD K "columns_of" "columns_of" (defArgs s_columns_of) (defBody s_columns_of) (defScope s_columns_of) [] [] f fd) : FnG P w K mg base (CX P w) 1 f fd ["value"] (spFn K 1 f_columns_of) := by
  refine FnG.loc (fn_ok F sc_columns_of (by decide) fun cdv Ar outer s H E xs hr => ?_)
  have hu := hu_of hr.r
  exact ⟨_, (pss_one (ps_ret (pe_callTy (cl_tuple' (K := K)) (by rfl) (b_tuple T) (by decide +kernel) (pa_cons (pe_lc (own := [("pair", 1)]) rfl sc_columns_of.nd (pi_any (K := K) (pv 0)) (blkOk_by (N := ["value", "pair"]) (sc := defScope s_columns_of) (by decide +kernel)) (fun _ _ _ _ _ => by exact (pg_name (i := 1) sc_columns_of.nd rfl (Or.inl rfl))) (fun _ _ _ _ _ => by exact pts_nil) (fun _ _ _ _ _ => by exact (pe_tup (pa_cons (pe_ix (ix_all' (K := K) (w := w) hu) (pv 1) pe_int (fun _ _ => rfl)) (pa_cons (pe_ix (ix_all' (K := K) (w := w) hu) (pv 1) pe_int (fun _ _ => rfl)) pa_nil))))) pa_nil)))),
    (ss_ret (se_cb ok_tuple (sa_cons (se_lc (vs := [1]) (si_it (se_var 0)) (sg_nm 1) st_yes (se_tup (sa_cons (se_op (ok_ix T.tabs) (se_var 1) (se_int _)) (sa_cons (se_op (ok_ix T.tabs) (se_var 1) (se_int _)) sa_nil))) (lc_w (tgo_nm (by decide)))) sa_nil)))⟩
theorem sc_is_name : FnScope ["value", "letter"] ["value"] (defScope s_is_name) := ⟨rfl, rfl, rfl, by decide +kernel, rfl, by decide +kernel, by decide +kernel⟩
theorem ok_is_name (T : TX K w mg)  (F : FunD K "is_name" "is_name" (defArgs s_is_name) (defBody s_is_name) (defScope s_is_name) [] [] f fd) : FnG P w K mg base (CX P w) 1 f fd ["value"] (spFn K 1 f_is_name) := by
  refine FnG.loc (fn_ok F sc_is_name (by decide) fun cdv Ar outer s H E xs hr => ?_)
  have hu := hu_of hr.r
  obtain ⟨v_BARRED, u_BARRED, m_BARRED, r_BARRED, p_BARRED⟩ := T.con "BARRED" _ (by rfl)
  obtain ⟨v_SMALL, u_SMALL, m_SMALL, r_SMALL, p_SMALL⟩ := T.con "SMALL" _ (by rfl)
  exact ⟨_, (pss_cons (ps_if (PW.pt (pw_or (pt_not (pt_val (pe_callB (cl_isi' (K := K)) (by rfl) (b_isinstance T) (by decide +kernel) (pa_cons (pv 0) (pa_cons (pe_bltn (v := .ty "str") rfl (b_str T) (by decide +kernel) rfl) pa_nil))))) (pw_or (pt_not (pt_chain op_leA op_leA pe_int (pe_callB (cl_len' (K := K)) (by rfl) (b_len T) (by decide +kernel) (pa_cons (pv 0) pa_nil)) pe_int)) (pw_or1 (pt_cmpR (op_inA' (K := K) hu) (pv 0) (pe_glob (v := v_BARRED) rfl m_BARRED r_BARRED) (by rfl)))))) (pss_one (ps_ret pe_bl)) pss_nil)
      (pss_one (ps_ret (pe_callB (cl_all' (K := K) rfl) (by rfl) (b_all T) (by decide +kernel) (pa_cons (pe_lc (own := [("letter", 1)]) rfl sc_is_name.nd (pi_any (K := K) (pv 0)) (blkOk_by (N := ["value", "letter"]) (sc := defScope s_is_name) (by decide +kernel)) (fun _ _ _ _ _ => by exact (pg_name (i := 1) sc_is_name.nd rfl (Or.inl rfl))) (fun _ _ _ _ _ => by exact pts_nil) (fun _ _ _ _ _ => by exact (pe_cmpR (op_inA' (K := K) hu) (pv 1) (pe_glob (v := v_SMALL) rfl m_SMALL r_SMALL) (by rfl)))) pa_nil))))),
    (ss_seq (ss_if (st_or (st_not (st_B (se_cb (ok_isi T.isi) (sa_cons (se_var 0) (sa_cons (se_ty _) sa_nil))))) (st_or (st_not (st_test (se_chain ok_le ok_le (se_int _) (se_cb ok_len (sa_cons (se_var 0) sa_nil)) (se_int _)))) (st_test (se_op ok_in (se_var 0) (se_con p_BARRED))))) (ss_ret (se_bl _)) ss_next)
      (ss_ret (se_cb ok_all (sa_cons (se_lc (vs := [1]) (si_it (se_var 0)) (sg_nm 1) st_yes (se_op ok_in (se_var 1) (se_con p_SMALL)) (lc_w (tgo_nm (by decide)))) sa_nil))))⟩
theorem sc_are_columns : FnScope ["value", "met", "pair"] ["value"] (defScope s_are_columns) := ⟨rfl, rfl, rfl, by decide +kernel, rfl, by decide +kernel, by decide +kernel⟩
theorem ok_are_columns (T : TX K w mg) (G_is_sequence : GF P w K mg base "is_sequence" 1 [] 1 f_is_sequence) (G_is_name : GF P w K mg base "is_name" 1 [] 1 f_is_name) (F : FunD K "are_columns" "are_columns" (defArgs s_are_columns) (defBody s_are_columns) (defScope s_are_columns) [] [] f fd) : FnG P w K mg base (CX P w) 2 f fd ["value"] (spFn K 1 f_are_columns) := by
  refine FnG.loc (fn_ok F sc_are_columns (by decide) fun cdv Ar outer s H E xs hr => ?_)
  have hu := hu_of hr.r
  obtain ⟨v_SORTS, u_SORTS, m_SORTS, r_SORTS, p_SORTS⟩ := T.con "SORTS" _ (by rfl)
  exact ⟨_, (pss_cons (ps_if (PW.pt (pw_or (pt_not (pt_val (pe_cf G_is_sequence (hr.mono (by decide)) (by rfl) (takes_of rfl rfl rfl rfl) (pa_cons (pv 0) pa_nil)))) (pw_or1 (pt_cmpR (op_eqA' (K := K) hr) (pe_callB (cl_len' (K := K)) (by rfl) (b_len T) (by decide +kernel) (pa_cons (pv 0) pa_nil)) pe_int (nomark _))))) (pss_one (ps_ret pe_bl)) pss_nil)
      (pss_cons (ps_set (i := 1) sc_are_columns.nd rfl (Or.inl rfl) (pe_lst pa_nil))
      (pss_cons (ps_for (passes_of rfl) rfl (pi_any (K := K) (pv 0)) (pg_name (i := 2) sc_are_columns.nd rfl (Or.inl rfl)) (pss_cons (ps_if (PW.pt (pw_or (pt_not (pt_val (pe_callB (cl_isi' (K := K)) (by rfl) (b_isinstance T) (by decide +kernel) (pa_cons (pv 2) (pa_cons (pe_bltn (v := .ty "tuple") rfl (b_tuple T) (by decide +kernel) rfl) pa_nil))))) (pw_or (pt_cmpR (op_neA' (K := K) hr) (pe_callB (cl_len' (K := K)) (by rfl) (b_len T) (by decide +kernel) (pa_cons (pv 2) pa_nil)) pe_int (nomark _)) (pw_or (pt_not (pt_val (pe_cf G_is_name (hr.mono (by decide)) (by rfl) (takes_of rfl rfl rfl rfl) (pa_cons (pe_ix (ix_all' (K := K) (w := w) hu) (pv 2) pe_int (fun _ _ => rfl)) pa_nil)))) (pw_or1 (pt_cmpR (op_inA' (K := K) hu) (pe_ix (ix_all' (K := K) (w := w) hu) (pv 2) pe_int (fun _ _ => rfl)) (pv 1) (by rfl))))))) (pss_one (ps_ret pe_bl)) pss_nil)
      (pss_cons (ps_if (PW.pt (pw_or (pt_not (pt_val (pe_callB (cl_isi' (K := K)) (by rfl) (b_isinstance T) (by decide +kernel) (pa_cons (pe_ix (ix_all' (K := K) (w := w) hu) (pv 2) pe_int (fun _ _ => rfl)) (pa_cons (pe_bltn (v := .ty "str") rfl (b_str T) (by decide +kernel) rfl) pa_nil))))) (pw_or1 (pt_cmpR (op_notinA' (K := K) hu) (pe_ix (ix_all' (K := K) (w := w) hu) (pv 2) pe_int (fun _ _ => rfl)) (pe_glob (v := v_SORTS) rfl m_SORTS r_SORTS) (by rfl))))) (pss_one (ps_ret pe_bl)) pss_nil)
      (pss_one (ps_expr (pe_bm' (K := K) PySem.F.plainAttrs_list PySem.F.slot_list_append PySem.F.type_list_append mtr_append (pv 1) (pa_cons (pe_ix (ix_all' (K := K) (w := w) hu) (pv 2) pe_int (fun _ _ => rfl)) pa_nil)))))))
      (pss_one (ps_ret pe_bl))))),
    (ss_seq (ss_if (st_or (st_not (st_B (se_call (sa_cons (se_var 0) sa_nil)))) (st_test (se_op ok_eq (se_cb ok_len (sa_cons (se_var 0) sa_nil)) (se_int _)))) (ss_ret (se_bl _)) ss_next)
      (ss_seq (ss_asg (se_lstC sa_nil) (sg_nm 1))
      (ss_seq (ss_for (si_it (se_var 0)) (sg_nm 2) (ss_seq (ss_if (st_or (st_not (st_B (se_cb (ok_isi T.isi) (sa_cons (se_var 2) (sa_cons (se_ty _) sa_nil))))) (st_or (st_test (se_op ok_ne (se_cb ok_len (sa_cons (se_var 2) sa_nil)) (se_int _))) (st_or (st_not (st_B (se_call (sa_cons (se_op (ok_ix T.tabs) (se_var 2) (se_int _)) sa_nil)))) (st_test (se_op ok_in (se_op (ok_ix T.tabs) (se_var 2) (se_int _)) (se_var 1)))))) (ss_ret (se_bl _)) ss_next)
      (ss_seq (ss_if (st_or (st_not (st_B (se_cb (ok_isi T.isi) (sa_cons (se_op (ok_ix T.tabs) (se_var 2) (se_int _)) (sa_cons (se_ty _) sa_nil))))) (st_test (se_op ok_notin (se_op (ok_ix T.tabs) (se_var 2) (se_int _)) (se_con p_SORTS)))) (ss_ret (se_bl _)) ss_next)
      (ss_expr (se_bmL ok_append (se_var 1) (sa_cons (se_op (ok_ix T.tabs) (se_var 2) (se_int _)) sa_nil))))))
      (ss_ret (se_bl _)))))⟩
theorem sc_Table___init__ : FnScope ["self", "columns", "rows", "row"] ["self", "columns", "rows"] (defScope s_Table___init__) := ⟨rfl, rfl, rfl, by decide +kernel, rfl, by decide +kernel, by decide +kernel⟩
theorem ok_Table___init__ (T : TX K w mg) (G_are_columns : GF P w K mg base "are_columns" 1 [] 2 f_are_columns) (S_InvalidTable : SupTxt P K mg "InvalidTable" "word" (He.ga K "InvalidTable") (fIof K (He.ga K "InvalidTable"))) (G_need_rows : GF P w K mg base "need_rows" 2 [] 5 f_need_rows) (G_columns_of : GF P w K mg base "columns_of" 1 [] 1 f_columns_of) (F : FunD K "__init__" "Table.__init__" (defArgs s_Table___init__) (defBody s_Table___init__) (defScope s_Table___init__) [.ref (He.dflAt ("Table", some "__init__") 0 K)] [] f fd) : FnG P w K mg base (CX P w) 6 f fd ["self", "columns", "rows"] (spFn K 3 f_Table___init__) := by
  refine FnG.loc (fn_ok F sc_Table___init__ (by decide) fun cdv Ar outer s H E xs hr => ?_)
  have hu := hu_of hr.r
  exact ⟨_, (pss_cons (ps_if (pt_not (pt_val (pe_cf G_are_columns (hr.mono (by decide)) (by rfl) (takes_of rfl rfl rfl rfl) (pa_cons (pv 1) pa_nil)))) (pss_one (ps_raiseSup rfl S_InvalidTable hr (takes_of rfl rfl rfl rfl) (pa_cons pe_str pa_nil) (by rfl))) pss_nil)
      (pss_cons (ps_expr (pe_cf G_need_rows (hr.mono (by decide)) (by rfl) (takes_of rfl rfl rfl rfl) (pa_cons (pv 1) (pa_cons (pv 2) pa_nil))))
      (pss_cons (ps_asg (pe_cf G_columns_of (hr.mono (by decide)) (by rfl) (takes_of rfl rfl rfl rfl) (pa_cons (pv 1) pa_nil)) (pg_fld' (K := K) (pv 0)))
      (pss_one (ps_asg (pe_callTy (cl_tuple' (K := K)) (by rfl) (b_tuple T) (by decide +kernel) (pa_cons (pe_lc (own := [("row", 3)]) rfl sc_Table___init__.nd (pi_any (K := K) (pv 2)) (blkOk_by (N := ["self", "columns", "rows", "row"]) (sc := defScope s_Table___init__) (by decide +kernel)) (fun _ _ _ _ _ => by exact (pg_name (i := 3) sc_Table___init__.nd rfl (Or.inl rfl))) (fun _ _ _ _ _ => by exact pts_nil) (fun _ _ _ _ _ => by exact (pe_callTy (cl_tuple' (K := K)) (by rfl) (b_tuple T) (by decide +kernel) (pa_cons (pv 3) pa_nil)))) pa_nil)) (pg_fld' (K := K) (pv 0))))))),
    (ss_seq (ss_if (st_not (st_B (se_call (sa_cons (se_var 1) sa_nil)))) (ss_raise (se_str _)) ss_next)
      (ss_seq (ss_expr (se_call (sa_cons (se_var 1) (sa_cons (se_var 2) sa_nil))))
      (ss_seq (ss_asg (se_call (sa_cons (se_var 1) sa_nil)) (sg_fl T.ct 0 _))
      (ss_asg (se_cb ok_tuple (sa_cons (se_lc (vs := [3]) (si_it (se_var 2)) (sg_nm 3) st_yes (se_cb ok_tuple (sa_cons (se_var 3) sa_nil)) (lc_w (tgo_nm (by decide)))) sa_nil)) (sg_fl T.ct 0 _)))))⟩
theorem sc__law_told : FnScope ["_law_columns_here", "_law_rows_here", "_law_found", "e"] ["_law_columns_here", "_law_rows_here"] (defScope s__law_told) := ⟨rfl, rfl, rfl, by decide +kernel, rfl, by decide +kernel, by decide +kernel⟩
theorem ok__law_told (T : TX K w mg) (EX_InvalidTable : ∀ k b, tabx_InvalidTable.lookup k = some b → PySem.W.exmOne K (k.v K) (.ref (He.ga K "InvalidTable")) = some b) (G_Table_3 : GK P w K mg base "Table" 3 [] 6 f_Table___init__) (IX : IsxOk K isx) (S_InvalidTable : SupTxt P K mg "InvalidTable" "word" (He.ga K "InvalidTable") (fIof K (He.ga K "InvalidTable"))) (F : FunD K "_law_told" "_law_told" (defArgs s__law_told) (defBody s__law_told) (defScope s__law_told) [] [] f fd) : FnG P w K mg base (CX P w) 8 f fd ["_law_columns_here", "_law_rows_here"] (spFn K 2 f__law_told) := by
  refine FnG.loc (fn_ok F sc__law_told (by decide) fun cdv Ar outer s H E xs hr => ?_)
  have hu := hu_of hr.r
  exact ⟨_, (pss_cons (ps_set (i := 2) sc__law_told.nd rfl (Or.inl rfl) pe_non)
      (pss_cons (ps_try_as (i := 3) rfl rfl sc__law_told.nd rfl rfl ⟨rfl, by decide, .inl (g_InvalidTable T)⟩ (takes_of rfl rfl rfl rfl) (fun W pn xe tk _ => by exact (pss_one (ps_expr (pe_mk G_Table_3 (hr.mono (by decide)) (by rfl) tk (pa_cons (pv 0) (pa_cons (pv 1) pa_nil)))))) (fun a oe cls d pn hz hf => by exact (pss_one (ps_set (i := 2) sc__law_told.nd rfl (Or.inl rfl) (pe_ifExp (PW.pt (pw_and (pt_val (pe_callB (call_isY hz hf) (by rfl) (b_isinstance T) (by decide +kernel) (pa_cons (pv 3) (pa_cons (pe_glob (v := .ref (He.ga K "PartError")) rfl (g_PartError T) rfl) pa_nil)))) (pw_and1 (pt_not (pt_val (pe_callB (call_isY hz hf) (by rfl) (b_isinstance T) (by decide +kernel) (pa_cons (pv 3) (pa_cons (pe_glob (v := .ref (He.ga K "InvalidWays")) rfl (g_InvalidWays T) rfl) pa_nil)))))))) (pe_bySup S_InvalidTable hz hf (pv 3)) pe_str)))))
      (pss_one (ps_ret (pv 2))))),
    (ss_seq (ss_asg se_non (sg_nm 2))
      (ss_seq (ss_try EX_InvalidTable (fun _ => by exact (ss_expr (se_make (sa_cons (se_var 0) (sa_cons (se_var 1) sa_nil))))) (fun a cls d => by exact (ss_asg (se_if (st_and (st_B (se_cb (ok_isx IX) (sa_cons (se_var 3) (sa_cons (se_glo _) sa_nil)))) (st_not (st_B (se_cb (ok_isx IX) (sa_cons (se_var 3) (sa_cons (se_glo _) sa_nil)))))) (se_xf (se_var 3)) (se_str _)) (sg_nm 2))))
      (ss_ret (se_var 2))))⟩
theorem sc__law_odd_cell : FnScope ["_law_box_here", "_law_sort", "_law_some"] ["_law_box_here", "_law_sort"] (defScope s__law_odd_cell) := ⟨rfl, rfl, rfl, by decide +kernel, rfl, by decide +kernel, by decide +kernel⟩
theorem ok__law_odd_cell (T : TX K w mg) (G__law_pick : GF P w K mg base "_law_pick" 2 [] 2 f__law_pick) (F : FunD K "_law_odd_cell" "_law_odd_cell" (defArgs s__law_odd_cell) (defBody s__law_odd_cell) (defScope s__law_odd_cell) [] [] f fd) : FnG P w K mg base (CX P w) 3 f fd ["_law_box_here", "_law_sort"] (spFn K 2 f__law_odd_cell) := by
  refine FnG.loc (fn_ok F sc__law_odd_cell (by decide) fun cdv Ar outer s H E xs hr => ?_)
  have hu := hu_of hr.r
  exact ⟨_, (pss_cons (ps_set (i := 2) sc__law_odd_cell.nd rfl (Or.inl rfl) (pe_lst (pa_cons pe_bl (pa_cons pe_bl (pa_cons (pe_lst pa_nil) (pa_cons (pe_tup (pa_cons pe_str pa_nil)) (pa_cons pe_str (pa_cons pe_str (pa_cons pe_str (pa_cons pe_str (pa_cons (pe_op (op_addA' (K := K)) pe_str (pe_op op_mulA pe_str pe_int)) (pa_cons (pe_op (op_addA' (K := K)) (pe_op op_powA pe_int pe_int) pe_int) pa_nil))))))))))))
      (pss_cons (ps_set (i := 2) sc__law_odd_cell.nd rfl (Or.inl rfl) (pe_op (op_addA' (K := K)) (pv 2) (pe_lst (pa_cons (pe_op op_subA (pe_op op_subA pe_int (pe_op op_powA pe_int pe_int)) pe_int) (pa_cons pe_str (pa_cons pe_str (pa_cons pe_str (pa_cons (pe_lst (pa_cons (pe_tup (pa_cons (pe_lst (pa_cons (pe_tup (pa_cons (pe_lst (pa_cons pe_non pa_nil)) pa_nil)) pa_nil)) pa_nil)) pa_nil)) pa_nil))))))))
      (pss_one (ps_ret (pe_cf G__law_pick (hr.mono (by decide)) (by rfl) (takes_of rfl rfl rfl rfl) (pa_cons (pv 0) (pa_cons (pe_op (op_addA' (K := K)) (pv 2) (pe_ix (ix_all' (K := K) (w := w) hu) (pe_lst (pa_cons (pe_lst (pa_cons pe_int (pa_cons pe_int (pa_cons (pe_op op_subA pe_int pe_int) pa_nil)))) (pa_cons (pe_lst (pa_cons pe_str (pa_cons pe_str (pa_cons pe_str pa_nil)))) pa_nil))) (pe_callTy cl_int (by rfl) (b_int T) (by decide +kernel) (pa_cons (pe_cmpR (op_eqA' (K := K) hr) (pv 1) pe_str (nomark _)) pa_nil)) (fun _ _ => rfl))) pa_nil))))))),
    (ss_seq (ss_asg (se_lst (sa_cons (se_bl _) (sa_cons (se_bl _) (sa_cons (se_lst sa_nil) (sa_cons (se_tup (sa_cons (se_str _) sa_nil)) (sa_cons (se_str _) (sa_cons (se_str _) (sa_cons (se_str _) (sa_cons (se_str _) (sa_cons (se_op ok_add (se_str _) (se_op ok_mul (se_str _) (se_int _))) (sa_cons (se_op ok_add (se_op ok_pow (se_int _) (se_int _)) (se_int _)) sa_nil))))))))))) (sg_nm 2))
      (ss_seq (ss_asg (se_op ok_add (se_var 2) (se_lst (sa_cons (se_op ok_sub (se_op ok_sub (se_int _) (se_op ok_pow (se_int _) (se_int _))) (se_int _)) (sa_cons (se_str _) (sa_cons (se_str _) (sa_cons (se_str _) (sa_cons (se_lst (sa_cons (se_tup (sa_cons (se_lst (sa_cons (se_tup (sa_cons (se_lst (sa_cons se_non sa_nil)) sa_nil)) sa_nil)) sa_nil)) sa_nil)) sa_nil))))))) (sg_nm 2))
      (ss_ret (se_call (sa_cons (se_var 0) (sa_cons (se_op ok_add (se_var 2) (se_op (ok_ix T.tabs) (se_lst (sa_cons (se_lst (sa_cons (se_int _) (sa_cons (se_int _) (sa_cons (se_op ok_sub (se_int _) (se_int _)) sa_nil)))) (sa_cons (se_lst (sa_cons (se_str _) (sa_cons (se_str _) (sa_cons (se_str _) sa_nil)))) sa_nil))) (se_cb ok_int (sa_cons (se_op ok_eq (se_var 1) (se_str _)) sa_nil)))) sa_nil))))))⟩
theorem sc__law_word : FnScope ["_law_box_here", "_law_letters", "_law_turn"] ["_law_box_here"] (defScope s__law_word) := ⟨rfl, rfl, rfl, by decide +kernel, rfl, by decide +kernel, by decide +kernel⟩
theorem ok__law_word (T : TX K w mg) (G__law_take : GF P w K mg base "_law_take" 2 [] 1 f__law_take) (G__law_pick : GF P w K mg base "_law_pick" 2 [] 2 f__law_pick) (F : FunD K "_law_word" "_law_word" (defArgs s__law_word) (defBody s__law_word) (defScope s__law_word) [] [] f fd) : FnG P w K mg base (CX P w) 3 f fd ["_law_box_here"] (spFn K 1 f__law_word) := by
  refine FnG.loc (fn_ok F sc__law_word (by decide) fun cdv Ar outer s H E xs hr => ?_)
  have hu := hu_of hr.r
  exact ⟨_, (pss_cons (ps_if (pt_cmpR (op_eqA' (K := K) hr) (pe_cf G__law_take (hr.mono (by decide)) (by rfl) (takes_of rfl rfl rfl rfl) (pa_cons (pv 0) (pa_cons pe_int pa_nil))) pe_int (nomark _)) (pss_one (ps_ret (pe_slice (sl_all' (K := K)) (pe_op (op_addA' (K := K)) (pe_slice (sl_all' (K := K)) pe_str (po_some (pe_cf G__law_take (hr.mono (by decide)) (by rfl) (takes_of rfl rfl rfl rfl) (pa_cons (pv 0) (pa_cons pe_int pa_nil)))) po_none) pe_str) po_none (po_some pe_int)))) pss_nil)
      (pss_cons (ps_set (i := 1) sc__law_word.nd rfl (Or.inl rfl) (pe_bm' (K := K) PySem.F.plainAttrs_str PySem.F.slot_str_join PySem.F.type_str_join (mtr_join' (K := K)) pe_str (pa_cons (pe_lc (own := [("_law_turn", 2)]) rfl sc__law_word.nd (pi_range1 rfl (b_range T) (pa_cons (pe_cf G__law_take (hr.mono (by decide)) (by rfl) (takes_of rfl rfl rfl rfl) (pa_cons (pv 0) (pa_cons pe_int pa_nil))) pa_nil)) (blkOk_by (N := ["_law_box_here", "_law_letters", "_law_turn"]) (sc := defScope s__law_word) (by decide +kernel)) (fun _ _ _ _ _ => by exact (pg_name (i := 2) sc__law_word.nd rfl (Or.inl rfl))) (fun _ _ _ _ _ => by exact pts_nil) (fun _ _ _ _ _ => by exact (pe_cf G__law_pick (hr.mono (by decide)) (by rfl) takes0 (pa_cons (pv 0) (pa_cons pe_str pa_nil))))) pa_nil)))
      (pss_one (ps_ret (pe_op (op_addA' (K := K)) (pv 1) (pe_op op_mulA pe_str (pe_ix (ix_all' (K := K) (w := w) hu) (pe_lst (pa_cons pe_int (pa_cons pe_int (pa_cons pe_int (pa_cons pe_int (pa_cons pe_int (pa_cons pe_int pa_nil))))))) (pe_cf G__law_take (hr.mono (by decide)) (by rfl) (takes_of rfl rfl rfl rfl) (pa_cons (pv 0) (pa_cons pe_int pa_nil))) (fun _ _ => rfl)))))))),
    (ss_seq (ss_if (st_test (se_op ok_eq (se_call (sa_cons (se_var 0) (sa_cons (se_int _) sa_nil))) (se_int _))) (ss_ret (se_sl (se_op ok_add (se_sl (se_str _) (so_some (se_call (sa_cons (se_var 0) (sa_cons (se_int _) sa_nil)))) so_none) (se_str _)) so_none (so_some (se_int _)))) ss_next)
      (ss_seq (ss_asg (se_bmS ok_join (se_str _) (sa_cons (se_lc (vs := [2]) (si_rg1 (sa_cons (se_call (sa_cons (se_var 0) (sa_cons (se_int _) sa_nil))) sa_nil)) (sg_nm 2) st_yes (se_call (sa_cons (se_var 0) (sa_cons (se_str _) sa_nil))) (lc_w (tgo_nm (by decide)))) sa_nil)) (sg_nm 1))
      (ss_ret (se_op ok_add (se_var 1) (se_op ok_mul (se_str _) (se_op (ok_ix T.tabs) (se_lst (sa_cons (se_int _) (sa_cons (se_int _) (sa_cons (se_int _) (sa_cons (se_int _) (sa_cons (se_int _) (sa_cons (se_int _) sa_nil))))))) (se_call (sa_cons (se_var 0) (sa_cons (se_int _) sa_nil)))))))))⟩
theorem sc__law_number : FnScope ["_law_box_here"] ["_law_box_here"] (defScope s__law_number) := ⟨rfl, rfl, rfl, by decide +kernel, rfl, by decide +kernel, by decide +kernel⟩
theorem ok__law_number (T : TX K w mg) (G__law_take : GF P w K mg base "_law_take" 2 [] 1 f__law_take) (F : FunD K "_law_number" "_law_number" (defArgs s__law_number) (defBody s__law_number) (defScope s__law_number) [] [] f fd) : FnG P w K mg base (CX P w) 2 f fd ["_law_box_here"] (spFn K 1 f__law_number) := by
  refine FnG.loc (fn_ok F sc__law_number (by decide) fun cdv Ar outer s H E xs hr => ?_)
  have hu := hu_of hr.r
  exact ⟨_, (pss_cons (ps_if (pt_cmpR (op_eqA' (K := K) hr) (pe_cf G__law_take (hr.mono (by decide)) (by rfl) (takes_of rfl rfl rfl rfl) (pa_cons (pv 0) (pa_cons pe_int pa_nil))) pe_int (nomark _)) (pss_one (ps_ret (pe_op op_mulA (pe_ix (ix_all' (K := K) (w := w) hu) (pe_lst (pa_cons pe_int (pa_cons (pe_op op_subA pe_int pe_int) pa_nil))) (pe_cf G__law_take (hr.mono (by decide)) (by rfl) (takes_of rfl rfl rfl rfl) (pa_cons (pv 0) (pa_cons pe_int pa_nil))) (fun _ _ => rfl)) (pe_op op_subA (pe_op op_powA pe_int pe_int) (pe_cf G__law_take (hr.mono (by decide)) (by rfl) (takes_of rfl rfl rfl rfl) (pa_cons (pv 0) (pa_cons pe_int pa_nil))))))) pss_nil)
      (pss_one (ps_ret (pe_op op_subA (pe_op (op_addA' (K := K)) (pe_op op_mulA pe_int (pe_op op_subA (pe_cf G__law_take (hr.mono (by decide)) (by rfl) (takes_of rfl rfl rfl rfl) (pa_cons (pv 0) (pa_cons pe_int pa_nil))) pe_int)) (pe_cf G__law_take (hr.mono (by decide)) (by rfl) (takes_of rfl rfl rfl rfl) (pa_cons (pv 0) (pa_cons pe_int pa_nil)))) pe_int)))),
    (ss_seq (ss_if (st_test (se_op ok_eq (se_call (sa_cons (se_var 0) (sa_cons (se_int _) sa_nil))) (se_int _))) (ss_ret (se_op ok_mul (se_op (ok_ix T.tabs) (se_lst (sa_cons (se_int _) (sa_cons (se_op ok_sub (se_int _) (se_int _)) sa_nil))) (se_call (sa_cons (se_var 0) (sa_cons (se_int _) sa_nil)))) (se_op ok_sub (se_op ok_pow (se_int _) (se_int _)) (se_call (sa_cons (se_var 0) (sa_cons (se_int _) sa_nil)))))) ss_next)
      (ss_ret (se_op ok_sub (se_op ok_add (se_op ok_mul (se_int _) (se_op ok_sub (se_call (sa_cons (se_var 0) (sa_cons (se_int _) sa_nil))) (se_int _))) (se_call (sa_cons (se_var 0) (sa_cons (se_int _) sa_nil)))) (se_int _))))⟩
theorem sc__law_cell : FnScope ["_law_box_here", "_law_sort"] ["_law_box_here", "_law_sort"] (defScope s__law_cell) := ⟨rfl, rfl, rfl, by decide +kernel, rfl, by decide +kernel, by decide +kernel⟩
theorem ok__law_cell (T : TX K w mg) (G__law_take : GF P w K mg base "_law_take" 2 [] 1 f__law_take) (G__law_word : GF P w K mg base "_law_word" 1 [] 3 f__law_word) (G__law_number : GF P w K mg base "_law_number" 1 [] 2 f__law_number) (F : FunD K "_law_cell" "_law_cell" (defArgs s__law_cell) (defBody s__law_cell) (defScope s__law_cell) [] [] f fd) : FnG P w K mg base (CX P w) 4 f fd ["_law_box_here", "_law_sort"] (spFn K 2 f__law_cell) := by
  refine FnG.loc (fn_ok F sc__law_cell (by decide) fun cdv Ar outer s H E xs hr => ?_)
  have hu := hu_of hr.r
  exact ⟨_, (pss_cons (ps_if (pt_cmpR (op_eqA' (K := K) hr) (pe_cf G__law_take (hr.mono (by decide)) (by rfl) (takes_of rfl rfl rfl rfl) (pa_cons (pv 0) (pa_cons pe_int pa_nil))) pe_int (nomark _)) (pss_one (ps_ret pe_non)) pss_nil)
      (pss_one (ps_ret (pe_ifExp (pt_cmpR (op_eqA' (K := K) hr) (pv 1) pe_str (nomark _)) (pe_cf G__law_word (hr.mono (by decide)) (by rfl) (takes_of rfl rfl rfl rfl) (pa_cons (pv 0) pa_nil)) (pe_cf G__law_number (hr.mono (by decide)) (by rfl) (takes_of rfl rfl rfl rfl) (pa_cons (pv 0) pa_nil)))))),
    (ss_seq (ss_if (st_test (se_op ok_eq (se_call (sa_cons (se_var 0) (sa_cons (se_int _) sa_nil))) (se_int _))) (ss_ret se_non) ss_next)
      (ss_ret (se_if (st_test (se_op ok_eq (se_var 1) (se_str _))) (se_call (sa_cons (se_var 0) sa_nil)) (se_call (sa_cons (se_var 0) sa_nil)))))⟩
theorem sc__law_row : FnScope ["_law_box_here", "_law_columns_here", "_law_name", "_law_sort"] ["_law_box_here", "_law_columns_here"] (defScope s__law_row) := ⟨rfl, rfl, rfl, by decide +kernel, rfl, by decide +kernel, by decide +kernel⟩
theorem ok__law_row (T : TX K w mg) (G__law_cell : GF P w K mg base "_law_cell" 2 [] 4 f__law_cell) (F : FunD K "_law_row" "_law_row" (defArgs s__law_row) (defBody s__law_row) (defScope s__law_row) [] [] f fd) : FnG P w K mg base (CX P w) 5 f fd ["_law_box_here", "_law_columns_here"] (spFn K 2 f__law_row) := by
  refine FnG.loc (fn_ok F sc__law_row (by decide) fun cdv Ar outer s H E xs hr => ?_)
  have hu := hu_of hr.r
  exact ⟨_, (pss_one (ps_ret (pe_callTy (cl_tuple' (K := K)) (by rfl) (b_tuple T) (by decide +kernel) (pa_cons (pe_lc (own := [("_law_name", 2), ("_law_sort", 3)]) rfl sc__law_row.nd (pi_any (K := K) (pv 1)) (blkOk_by (N := ["_law_box_here", "_law_columns_here", "_law_name", "_law_sort"]) (sc := defScope s__law_row) (by decide +kernel)) (fun _ _ _ _ _ => by exact (pg_tup' (K := K) rfl (pgs_cons (pg_name (i := 2) sc__law_row.nd rfl (Or.inl rfl)) (pgs_cons (pg_name (i := 3) sc__law_row.nd rfl (Or.inl rfl)) pgs_nil)))) (fun _ _ _ _ _ => by exact pts_nil) (fun _ _ _ _ _ => by exact (pe_cf G__law_cell (hr.mono (by decide)) (by rfl) takes0 (pa_cons (pv 0) (pa_cons (pv 3) pa_nil))))) pa_nil)))),
    (ss_ret (se_cb ok_tuple (sa_cons (se_lc (vs := [2, 3]) (si_it (se_var 1)) (sg_tp (sgs_cons (sg_nm 2) (sgs_cons (sg_nm 3) sgs_nil))) st_yes (se_call (sa_cons (se_var 0) (sa_cons (se_var 3) sa_nil))) (lc_w (tgo_tp (tgos_cons (tgo_nm (by decide)) (tgos_cons (tgo_nm (by decide)) tgos_nil))))) sa_nil)))⟩
theorem sc__law_nested : FnScope ["_law_thing", "_law_turn"] ["_law_thing"] (defScope s__law_nested) := ⟨rfl, rfl, rfl, by decide +kernel, rfl, by decide +kernel, by decide +kernel⟩
theorem ok__law_nested (T : TX K w mg)  (F : FunD K "_law_nested" "_law_nested" (defArgs s__law_nested) (defBody s__law_nested) (defScope s__law_nested) [] [] f fd) : FnG P w K mg base (CX P w) 1 f fd ["_law_thing"] (spFn K 1 f__law_nested) := by
  refine FnG.loc (fn_ok F sc__law_nested (by decide) fun cdv Ar outer s H E xs hr => ?_)
  have hu := hu_of hr.r
  exact ⟨_, (pss_cons (ps_for (passes_of rfl) rfl (pi_range1 rfl (b_range T) (pa_cons pe_int pa_nil)) (pg_name (i := 1) sc__law_nested.nd rfl (Or.inl rfl)) (pss_one (ps_set (i := 0) sc__law_nested.nd rfl (Or.inl rfl) (pe_tup (pa_cons (pe_lst (pa_cons (pv 0) pa_nil)) pa_nil)))))
      (pss_one (ps_ret (pv 0)))),
    (ss_seq (ss_for (si_rg1 (sa_cons (se_int _) sa_nil)) (sg_nm 1) (ss_asg (se_tup (sa_cons (se_lst (sa_cons (se_var 0) sa_nil)) sa_nil)) (sg_nm 0)))
      (ss_ret (se_var 0)))⟩
theorem sc__law_odd_columns : FnScope ["_law_box_here", "_law_columns_here", "_law_some"] ["_law_box_here", "_law_columns_here"] (defScope s__law_odd_columns) := ⟨rfl, rfl, rfl, by decide +kernel, rfl, by decide +kernel, by decide +kernel⟩
theorem ok__law_odd_columns (T : TX K w mg) (G__law_nested : GF P w K mg base "_law_nested" 1 [] 1 f__law_nested) (G__law_pick : GF P w K mg base "_law_pick" 2 [] 2 f__law_pick) (F : FunD K "_law_odd_columns" "_law_odd_columns" (defArgs s__law_odd_columns) (defBody s__law_odd_columns) (defScope s__law_odd_columns) [] [] f fd) : FnG P w K mg base (CX P w) 3 f fd ["_law_box_here", "_law_columns_here"] (spFn K 2 f__law_odd_columns) := by
  refine FnG.loc (fn_ok F sc__law_odd_columns (by decide) fun cdv Ar outer s H E xs hr => ?_)
  have hu := hu_of hr.r
  exact ⟨_, (pss_cons (ps_set (i := 2) sc__law_odd_columns.nd rfl (Or.inl rfl) (pe_lst (pa_cons pe_non (pa_cons (pe_lst pa_nil) (pa_cons (pe_tup pa_nil) (pa_cons pe_str (pa_cons pe_int (pa_cons pe_bl (pa_cons (pe_op (op_addA' (K := K)) (pv 1) (pe_lst (pa_cons (pe_ix (ix_all' (K := K) (w := w) hu) (pv 1) pe_int (fun _ _ => rfl)) pa_nil))) (pa_cons (pe_op (op_addA' (K := K)) (pv 1) (pe_lst (pa_cons (pe_tup (pa_cons pe_str (pa_cons pe_str pa_nil))) pa_nil))) (pa_cons (pe_op (op_addA' (K := K)) (pv 1) (pe_lst (pa_cons pe_non pa_nil))) pa_nil)))))))))))
      (pss_cons (ps_set (i := 2) sc__law_odd_columns.nd rfl (Or.inl rfl) (pe_op (op_addA' (K := K)) (pv 2) (pe_lst (pa_cons (pe_op (op_addA' (K := K)) (pv 1) (pe_lst (pa_cons (pe_tup (pa_cons pe_str (pa_cons pe_str pa_nil))) pa_nil))) (pa_cons (pe_op (op_addA' (K := K)) (pv 1) (pe_lst (pa_cons (pe_lst (pa_cons pe_str (pa_cons pe_str pa_nil))) pa_nil))) (pa_cons (pe_op (op_addA' (K := K)) (pv 1) (pe_lst (pa_cons (pe_tup (pa_cons pe_str (pa_cons pe_str (pa_cons pe_int pa_nil)))) pa_nil))) (pa_cons (pe_lst (pa_cons (pe_tup (pa_cons pe_str pa_nil)) pa_nil)) pa_nil)))))))
      (pss_cons (ps_set (i := 2) sc__law_odd_columns.nd rfl (Or.inl rfl) (pe_op (op_addA' (K := K)) (pv 2) (pe_lst (pa_cons (pe_op (op_addA' (K := K)) (pv 1) (pe_lst (pa_cons (pe_tup (pa_cons pe_str (pa_cons pe_str pa_nil))) pa_nil))) (pa_cons (pe_op (op_addA' (K := K)) (pv 1) (pe_lst (pa_cons (pe_tup (pa_cons pe_str (pa_cons pe_str pa_nil))) pa_nil))) (pa_cons (pe_op (op_addA' (K := K)) (pv 1) (pe_lst (pa_cons (pe_tup (pa_cons pe_str (pa_cons pe_non pa_nil))) pa_nil))) (pa_cons (pe_lst (pa_cons pe_str pa_nil)) pa_nil)))))))
      (pss_one (ps_ret (pe_cf G__law_pick (hr.mono (by decide)) (by rfl) (takes_of rfl rfl rfl rfl) (pa_cons (pv 0) (pa_cons (pe_op (op_addA' (K := K)) (pv 2) (pe_lst (pa_cons (pe_lst (pa_cons (pe_tup (pa_cons pe_str (pa_cons pe_str pa_nil))) pa_nil)) (pa_cons (pe_lst (pa_cons (pe_tup (pa_cons pe_int (pa_cons pe_str pa_nil))) pa_nil)) (pa_cons (pe_op (op_addA' (K := K)) (pv 1) (pe_lst (pa_cons (pe_tup (pa_cons pe_str (pa_cons pe_str pa_nil))) pa_nil))) (pa_cons (pe_cf G__law_nested (hr.mono (by decide)) (by rfl) (takes_of rfl rfl rfl rfl) (pa_cons pe_int pa_nil)) pa_nil)))))) pa_nil)))))))),
    (ss_seq (ss_asg (se_lst (sa_cons se_non (sa_cons (se_lst sa_nil) (sa_cons (se_tup sa_nil) (sa_cons (se_str _) (sa_cons (se_int _) (sa_cons (se_bl _) (sa_cons (se_op ok_add (se_var 1) (se_lst (sa_cons (se_op (ok_ix T.tabs) (se_var 1) (se_int _)) sa_nil))) (sa_cons (se_op ok_add (se_var 1) (se_lst (sa_cons (se_tup (sa_cons (se_str _) (sa_cons (se_str _) sa_nil))) sa_nil))) (sa_cons (se_op ok_add (se_var 1) (se_lst (sa_cons se_non sa_nil))) sa_nil)))))))))) (sg_nm 2))
      (ss_seq (ss_asg (se_op ok_add (se_var 2) (se_lst (sa_cons (se_op ok_add (se_var 1) (se_lst (sa_cons (se_tup (sa_cons (se_str _) (sa_cons (se_str _) sa_nil))) sa_nil))) (sa_cons (se_op ok_add (se_var 1) (se_lst (sa_cons (se_lst (sa_cons (se_str _) (sa_cons (se_str _) sa_nil))) sa_nil))) (sa_cons (se_op ok_add (se_var 1) (se_lst (sa_cons (se_tup (sa_cons (se_str _) (sa_cons (se_str _) (sa_cons (se_int _) sa_nil)))) sa_nil))) (sa_cons (se_lst (sa_cons (se_tup (sa_cons (se_str _) sa_nil)) sa_nil)) sa_nil)))))) (sg_nm 2))
      (ss_seq (ss_asg (se_op ok_add (se_var 2) (se_lst (sa_cons (se_op ok_add (se_var 1) (se_lst (sa_cons (se_tup (sa_cons (se_str _) (sa_cons (se_str _) sa_nil))) sa_nil))) (sa_cons (se_op ok_add (se_var 1) (se_lst (sa_cons (se_tup (sa_cons (se_str _) (sa_cons (se_str _) sa_nil))) sa_nil))) (sa_cons (se_op ok_add (se_var 1) (se_lst (sa_cons (se_tup (sa_cons (se_str _) (sa_cons se_non sa_nil))) sa_nil))) (sa_cons (se_lst (sa_cons (se_str _) sa_nil)) sa_nil)))))) (sg_nm 2))
      (ss_ret (se_call (sa_cons (se_var 0) (sa_cons (se_op ok_add (se_var 2) (se_lst (sa_cons (se_lst (sa_cons (se_tup (sa_cons (se_str _) (sa_cons (se_str _) sa_nil))) sa_nil)) (sa_cons (se_lst (sa_cons (se_tup (sa_cons (se_int _) (sa_cons (se_str _) sa_nil))) sa_nil)) (sa_cons (se_op ok_add (se_var 1) (se_lst (sa_cons (se_tup (sa_cons (se_str _) (sa_cons (se_str _) sa_nil))) sa_nil))) (sa_cons (se_call (sa_cons (se_int _) sa_nil)) sa_nil)))))) sa_nil)))))))⟩
theorem sc__law_rows : FnScope ["_law_box_here", "_law_columns_here", "_law_most", "_law_found", "_law_turn", "_law_again"] ["_law_box_here", "_law_columns_here", "_law_most"] (defScope s__law_rows) := ⟨rfl, rfl, rfl, by decide +kernel, rfl, by decide +kernel, by decide +kernel⟩
theorem ok__law_rows (T : TX K w mg) (G__law_take : GF P w K mg base "_law_take" 2 [] 1 f__law_take) (G__law_pick : GF P w K mg base "_law_pick" 2 [] 2 f__law_pick) (G__law_row : GF P w K mg base "_law_row" 2 [] 5 f__law_row) (F : FunD K "_law_rows" "_law_rows" (defArgs s__law_rows) (defBody s__law_rows) (defScope s__law_rows) [] [] f fd) : FnG P w K mg base (CX P w) 6 f fd ["_law_box_here", "_law_columns_here", "_law_most"] (spFn K 3 f__law_rows) := by
  refine FnG.loc (fn_ok F sc__law_rows (by decide) fun cdv Ar outer s H E xs hr => ?_)
  have hu := hu_of hr.r
  exact ⟨_, (pss_cons (ps_set (i := 3) sc__law_rows.nd rfl (Or.inl rfl) (pe_lst pa_nil))
      (pss_cons (ps_for (passes_of rfl) rfl (pi_range1 rfl (b_range T) (pa_cons (pe_cf G__law_take (hr.mono (by decide)) (by rfl) (takes_of rfl rfl rfl rfl) (pa_cons (pv 0) (pa_cons (pe_op (op_addA' (K := K)) (pv 2) pe_int) pa_nil))) pa_nil)) (pg_name (i := 4) sc__law_rows.nd rfl (Or.inl rfl)) (pss_cons (ps_set (i := 5) sc__law_rows.nd rfl (Or.inl rfl) (pe_and (pe_cmpR (op_neA' (K := K) hr) (pv 3) (pe_lst pa_nil) (nomark _)) (pe_one (pe_cmpR (op_eqA' (K := K) hr) (pe_cf G__law_take (hr.mono (by decide)) (by rfl) (takes_of rfl rfl rfl rfl) (pa_cons (pv 0) (pa_cons pe_int pa_nil))) pe_int (nomark _)))))
      (pss_one (ps_expr (pe_bm' (K := K) PySem.F.plainAttrs_list PySem.F.slot_list_append PySem.F.type_list_append mtr_append (pv 3) (pa_cons (pe_ifExp (pt_val (pv 5)) (pe_cf G__law_pick (hr.mono (by decide)) (by rfl) (takes_of rfl rfl rfl rfl) (pa_cons (pv 0) (pa_cons (pv 3) pa_nil))) (pe_cf G__law_row (hr.mono (by decide)) (by rfl) (takes_of rfl rfl rfl rfl) (pa_cons (pv 0) (pa_cons (pv 1) pa_nil)))) pa_nil))))))
      (pss_one (ps_ret (pv 3))))),
    (ss_seq (ss_asg (se_lstC sa_nil) (sg_nm 3))
      (ss_seq (ss_for (si_rg1 (sa_cons (se_call (sa_cons (se_var 0) (sa_cons (se_op ok_add (se_var 2) (se_int _)) sa_nil))) sa_nil)) (sg_nm 4) (ss_seq (ss_asg (se_andV (se_op ok_ne (se_var 3) (se_lst sa_nil)) (se_op ok_eq (se_call (sa_cons (se_var 0) (sa_cons (se_int _) sa_nil))) (se_int _))) (sg_nm 5))
      (ss_expr (se_bmL ok_append (se_var 3) (sa_cons (se_if (st_B (se_var 5)) (se_call (sa_cons (se_var 0) (sa_cons (se_var 3) sa_nil))) (se_call (sa_cons (se_var 0) (sa_cons (se_var 1) sa_nil)))) sa_nil)))))
      (ss_ret (se_var 3))))⟩
theorem sc_law : FnScope ["_law_script", "_law_k", "_law_box_here", "_law_turn", "_law_columns_here", "_law_rows_here", "_law_row_here", "_law_bad", "_law_word_here", "_law_at", "_law_odd", "_law_handed", "_law_told_here", "_law_due", "_law_is_bad"] ["_law_script"] (defScope s_law) := ⟨rfl, rfl, rfl, by decide +kernel, rfl, by decide +kernel, by decide +kernel⟩
theorem ok_law (T : TX K w mg) (G__law_pick_t : GF P w K mg base "_law_pick" 2 [] 2 t__law_pick) (G__law_box : GF P w K mg base "_law_box" 2 [] 1 f__law_box) (G__law_take : GF P w K mg base "_law_take" 2 [] 1 f__law_take) (G__law_columns : GF P w K mg base "_law_columns" 2 [] 4 f__law_columns) (G__law_rows : GF P w K mg base "_law_rows" 3 [] 6 f__law_rows) (G__law_told : GF P w K mg base "_law_told" 2 [] 8 f__law_told) (G__law_pick : GF P w K mg base "_law_pick" 2 [] 2 f__law_pick) (G__law_odd_cell : GF P w K mg base "_law_odd_cell" 2 [] 3 f__law_odd_cell) (G__law_row : GF P w K mg base "_law_row" 2 [] 5 f__law_row) (G__law_odd_columns : GF P w K mg base "_law_odd_columns" 2 [] 3 f__law_odd_columns) (F : FunD K "law" "law" (defArgs s_law) (defBody s_law) (defScope s_law) [] [] f fd) : FnG P w K mg base (CX P w) 9 f fd ["_law_script"] (spFn K 1 f_law) := by
  refine fn_ok F sc_law (by decide) fun cdv Ar outer s H E xs hr => ?_
  have hu := hu_of hr.r
  exact ⟨_, (pss_cons (ps_for (passes_of rfl) rfl (pi_range1 rfl (b_range T) (pa_cons (pe_callB (cl_max rfl) (by rfl) (b_max T) (by decide +kernel) (pa_cons pe_int (pa_cons (pe_callB (cl_min rfl) (by rfl) (b_min T) (by decide +kernel) (pa_cons pe_int (pa_cons (pe_callB (cl_len' (K := K)) (by rfl) (b_len T) (by decide +kernel) (pa_cons (pv 0) pa_nil)) pa_nil))) pa_nil))) pa_nil)) (pg_name (i := 1) sc_law.nd rfl (Or.inl rfl)) (pss_cons (ps_set (i := 2) sc_law.nd rfl (Or.inr rfl) (pe_cf G__law_box (hr.mono (by decide)) (by rfl) (takes_of rfl rfl rfl rfl) (pa_cons (pv 0) (pa_cons (pv 1) pa_nil))))
      (pss_one (ps_for (passes_of rfl) rfl (pi_range1 rfl (b_range T) (pa_cons pe_int pa_nil)) (pg_name (i := 3) sc_law.nd rfl (Or.inl rfl)) (pss_cons (ps_set (i := 4) sc_law.nd rfl (Or.inl rfl) (pe_cf G__law_columns (hr.mono (by decide)) (by rfl) (takes_of rfl rfl rfl rfl) (pa_cons (pv 2) (pa_cons (pe_op (op_addA' (K := K)) pe_int (pe_cf G__law_take (hr.mono (by decide)) (by rfl) (takes_of rfl rfl rfl rfl) (pa_cons (pv 2) (pa_cons pe_int pa_nil)))) pa_nil))))
      (pss_cons (ps_setLc (i := 5) (own := [("_law_row_here", 6)]) rfl sc_law.nd rfl rfl (sw_true rfl rfl rfl (by decide +kernel)) (pi_any (K := K) (pe_cf G__law_rows (hr.mono (by decide)) (by rfl) (takes_of rfl rfl rfl rfl) (pa_cons (pv 2) (pa_cons (pv 4) (pa_cons pe_int pa_nil))))) (blkOk_by (N := ["_law_script", "_law_k", "_law_box_here", "_law_turn", "_law_columns_here", "_law_rows_here", "_law_row_here", "_law_bad", "_law_word_here", "_law_at", "_law_odd", "_law_handed", "_law_told_here", "_law_due", "_law_is_bad"]) (sc := defScope s_law) (by decide +kernel)) (fun _ _ _ _ _ => by exact (pg_name (i := 6) sc_law.nd rfl (Or.inl rfl))) (fun _ _ _ _ _ => by exact pts_nil) (fun _ _ _ _ _ => by exact (pe_callTy (cl_list' (K := K)) (by rfl) (b_list T) (by decide +kernel) (pa_cons (pv 6) pa_nil))))
      (pss_cons (ps_if (pt_cmpR op_notA (pe_cf G__law_told (hr.mono (by decide)) (by rfl) (takes_of rfl rfl rfl rfl) (pa_cons (pv 4) (pa_cons (pv 5) pa_nil))) pe_non (nomark _)) (pss_one (ps_ret pe_bl)) pss_nil)
      (pss_cons (ps_setLc (i := 7) (own := [("_law_word_here", 8)]) rfl sc_law.nd rfl rfl (sw_true rfl rfl rfl (by decide +kernel)) (pi_range1 rfl (b_range T) (pa_cons pe_int pa_nil)) (blkOk_by (N := ["_law_script", "_law_k", "_law_box_here", "_law_turn", "_law_columns_here", "_law_rows_here", "_law_row_here", "_law_bad", "_law_word_here", "_law_at", "_law_odd", "_law_handed", "_law_told_here", "_law_due", "_law_is_bad"]) (sc := defScope s_law) (by decide +kernel)) (fun _ _ _ _ _ => by exact (pg_name (i := 8) sc_law.nd rfl (Or.inl rfl))) (fun _ _ _ _ _ => by exact pts_nil) (fun _ _ _ _ _ => by exact (pe_cmpR (op_eqA' (K := K) hr) (pe_cf G__law_take (hr.mono (by decide)) (by rfl) takes0 (pa_cons (pv 2) (pa_cons pe_int pa_nil))) pe_int (nomark _))))
      (pss_cons (ps_if (PW.pt (pw_and (pt_val (pe_ix (ix_all' (K := K) (w := w) hu) (pv 7) pe_int (fun _ _ => rfl))) (pw_and1 (pt_cmpR (op_neA' (K := K) hr) (pv 5) (pe_lst pa_nil) (nomark _))))) (pss_cons (ps_par (i := 6) (j := 9) rfl sc_law.nd rfl rfl (by decide) rfl rfl (pa_cons (pe_cf G__law_pick_t (hr.mono (by decide)) (by rfl) (takes_of rfl rfl rfl rfl) (pa_cons (pv 2) (pa_cons (pv 5) pa_nil))) (pa_cons (pe_cf G__law_take (hr.mono (by decide)) (by rfl) (takes_of rfl rfl rfl rfl) (pa_cons (pv 2) (pa_cons (pe_callB (cl_len' (K := K)) (by rfl) (b_len T) (by decide +kernel) (pa_cons (pv 4) pa_nil)) pa_nil))) pa_nil)) (by rfl))
      (pss_one (ps_asg (pe_cf G__law_odd_cell (hr.mono (by decide)) (by rfl) (takes_of rfl rfl rfl rfl) (pa_cons (pv 2) (pa_cons (pe_ix (ix_all' (K := K) (w := w) hu) (pe_ix (ix_all' (K := K) (w := w) hu) (pv 4) (pv 9) (fun _ _ => rfl)) pe_int (fun _ _ => rfl)) pa_nil))) (pg_sub (pv 6) (pv 9) set_list)))) pss_nil)
      (pss_cons (ps_if (pt_val (pe_ix (ix_all' (K := K) (w := w) hu) (pv 7) pe_int (fun _ _ => rfl))) (pss_cons (ps_set (i := 6) sc_law.nd rfl (Or.inl rfl) (pe_cf G__law_row (hr.mono (by decide)) (by rfl) (takes_of rfl rfl rfl rfl) (pa_cons (pv 2) (pa_cons (pv 4) pa_nil))))
      (pss_cons (ps_set (i := 10) sc_law.nd rfl (Or.inl rfl) (pe_cf G__law_pick (hr.mono (by decide)) (by rfl) (takes_of rfl rfl rfl rfl) (pa_cons (pv 2) (pa_cons (pe_lst (pa_cons (pe_op (op_addA' (K := K)) (pv 6) (pe_tup (pa_cons pe_non pa_nil))) (pa_cons (pe_slice (sl_all' (K := K)) (pv 6) (po_some pe_int) po_none) (pa_cons pe_non (pa_cons pe_int (pa_cons pe_str (pa_cons pe_bl (pa_cons (pe_tup pa_nil) pa_nil)))))))) pa_nil))))
      (pss_one (ps_expr (pe_bm' (K := K) PySem.F.plainAttrs_list PySem.F.slot_list_insert PySem.F.type_list_insert mtr_insert (pv 5) (pa_cons (pe_cf G__law_take (hr.mono (by decide)) (by rfl) (takes_of rfl rfl rfl rfl) (pa_cons (pv 2) (pa_cons (pe_op (op_addA' (K := K)) (pe_callB (cl_len' (K := K)) (by rfl) (b_len T) (by decide +kernel) (pa_cons (pv 5) pa_nil)) pe_int) pa_nil))) (pa_cons (pv 10) pa_nil))))))) pss_nil)
      (pss_cons (ps_set (i := 11) sc_law.nd rfl (Or.inl rfl) (pe_ifExp (pt_val (pe_ix (ix_all' (K := K) (w := w) hu) (pv 7) pe_int (fun _ _ => rfl))) (pe_cf G__law_pick (hr.mono (by decide)) (by rfl) (takes_of rfl rfl rfl rfl) (pa_cons (pv 2) (pa_cons (pe_lst (pa_cons pe_non (pa_cons pe_str (pa_cons pe_int (pa_cons pe_bl (pa_cons (pe_ix (ix_all' (K := K) (w := w) hu) (pe_ix (ix_all' (K := K) (w := w) hu) (pv 4) pe_int (fun _ _ => rfl)) pe_int (fun _ _ => rfl)) pa_nil)))))) pa_nil))) (pv 5)))
      (pss_cons (ps_set (i := 12) sc_law.nd rfl (Or.inl rfl) (pe_ifExp (pt_val (pe_ix (ix_all' (K := K) (w := w) hu) (pv 7) pe_int (fun _ _ => rfl))) (pe_cf G__law_odd_columns (hr.mono (by decide)) (by rfl) (takes_of rfl rfl rfl rfl) (pa_cons (pv 2) (pa_cons (pv 4) pa_nil))) (pv 4)))
      (pss_cons (ps_setLc (i := 13) (own := [("_law_word_here", 8), ("_law_is_bad", 14)]) rfl sc_law.nd rfl rfl (sw_true rfl rfl rfl (by decide +kernel)) (pi_zipM (K := K) rfl (b_zip T) (pa_cons (pe_tup (pa_cons pe_str (pa_cons pe_str (pa_cons pe_str pa_nil)))) (pa_cons (pv 7) pa_nil))) (blkOk_by (N := ["_law_script", "_law_k", "_law_box_here", "_law_turn", "_law_columns_here", "_law_rows_here", "_law_row_here", "_law_bad", "_law_word_here", "_law_at", "_law_odd", "_law_handed", "_law_told_here", "_law_due", "_law_is_bad"]) (sc := defScope s_law) (by decide +kernel)) (fun _ _ _ _ _ => by exact (pg_tup' (K := K) rfl (pgs_cons (pg_name (i := 8) sc_law.nd rfl (Or.inl rfl)) (pgs_cons (pg_name (i := 14) sc_law.nd rfl (Or.inl rfl)) pgs_nil)))) (fun _ _ _ _ _ => by exact pts_one (pt_val (pv 14))) (fun _ _ _ _ _ => by exact (pv 8)))
      (pss_cons (ps_set (i := 13) sc_law.nd rfl (Or.inl rfl) (pe_op (op_addA' (K := K)) (pv 13) (pe_op op_mulA (pe_lst (pa_cons pe_str pa_nil)) (pe_callTy cl_int (by rfl) (b_int T) (by decide +kernel) (pa_cons (pe_and (pe_ix (ix_all' (K := K) (w := w) hu) (pv 7) pe_int (fun _ _ => rfl)) (pe_and (pe_cmpR (op_neA' (K := K) hr) (pv 5) (pe_lst pa_nil) (nomark _)) (pe_one (pe_cmpR (op_eqA' (K := K) hr) (pv 13) (pe_lst pa_nil) (nomark _))))) pa_nil)))))
      (pss_one (ps_if (pt_cmpR (op_neA' (K := K) hr) (pe_cf G__law_told (hr.mono (by decide)) (by rfl) (takes_of rfl rfl rfl rfl) (pa_cons (pv 12) (pa_cons (pv 11) pa_nil))) (pe_ix (ix_all' (K := K) (w := w) hu) (pe_op (op_addA' (K := K)) (pv 13) (pe_lst (pa_cons pe_non pa_nil))) pe_int (fun _ _ => rfl)) (nomark _)) (pss_one (ps_ret pe_bl)) pss_nil))))))))))))))))
      (pss_one (ps_ret pe_bl))),
    (ss_seq (ss_forC (si_rg1 (sa_cons (se_cb ok_max (sa_cons (se_int _) (sa_cons (se_cb ok_min (sa_cons (se_int _) (sa_cons (se_cb ok_len (sa_cons (se_var 0) sa_nil)) sa_nil))) sa_nil))) sa_nil)) (sg_nm 1) (ss_seq (ss_asg (se_call (sa_cons (se_var 0) (sa_cons (se_var 1) sa_nil))) (sg_nm 2))
      (ss_forC (si_rg1 (sa_cons (se_int _) sa_nil)) (sg_nm 3) (ss_seq (ss_asg (se_call (sa_cons (se_var 2) (sa_cons (se_op ok_add (se_int _) (se_call (sa_cons (se_var 2) (sa_cons (se_int _) sa_nil)))) sa_nil))) (sg_nm 4))
      (ss_seq (ss_asg (se_lcV (vs := [6]) (si_it (se_call (sa_cons (se_var 2) (sa_cons (se_var 4) (sa_cons (se_int _) sa_nil))))) (sg_nm 6) st_yes (se_cb ok_listC (sa_cons (se_var 6) sa_nil)) (lc_w (tgo_nm (by decide)))) (sg_nm 5))
      (ss_seq (ss_if (st_test (se_op ok_isnot (se_thaw (is := [5]) (se_call (sa_cons (se_var 4) (sa_cons (se_var 5) sa_nil)))) se_non)) (ss_ret (se_bl _)) ss_next)
      (ss_seq (ss_asg (se_lc (vs := [8]) (si_rg1 (sa_cons (se_int _) sa_nil)) (sg_nm 8) st_yes (se_op ok_eq (se_call (sa_cons (se_var 2) (sa_cons (se_int _) sa_nil))) (se_int _)) (lc_w (tgo_nm (by decide)))) (sg_nm 7))
      (ss_seq (ss_if (st_and (st_B (se_op (ok_ix T.tabs) (se_var 7) (se_int _))) (st_test (se_thaw (is := [5]) (se_op ok_ne (se_var 5) (se_lst sa_nil))))) (ss_seq (ss_par (sa_cons (se_call (sa_cons (se_var 2) (sa_cons (se_var 5) sa_nil))) (sa_cons (se_call (sa_cons (se_var 2) (sa_cons (se_cb ok_len (sa_cons (se_var 4) sa_nil)) sa_nil))) sa_nil)))
      (ss_asg (se_call (sa_cons (se_var 2) (sa_cons (se_op (ok_ix T.tabs) (se_op (ok_ix T.tabs) (se_var 4) (se_var 9)) (se_int _)) sa_nil))) (sg_ix (se_var 6) (se_var 9)))) ss_next)
      (ss_seq (ss_if (st_B (se_op (ok_ix T.tabs) (se_var 7) (se_int _))) (ss_seq (ss_asg (se_call (sa_cons (se_var 2) (sa_cons (se_var 4) sa_nil))) (sg_nm 6))
      (ss_seq (ss_asg (se_call (sa_cons (se_var 2) (sa_cons (se_lst (sa_cons (se_op ok_add (se_var 6) (se_tup (sa_cons se_non sa_nil))) (sa_cons (se_sl (se_var 6) (so_some (se_int _)) so_none) (sa_cons se_non (sa_cons (se_int _) (sa_cons (se_str _) (sa_cons (se_bl _) (sa_cons (se_tup sa_nil) sa_nil)))))))) sa_nil))) (sg_nm 10))
      (ss_expr (se_bmL ok_insert (se_var 5) (sa_cons (se_call (sa_cons (se_var 2) (sa_cons (se_op ok_add (se_thaw (is := [5]) (se_cb ok_len (sa_cons (se_var 5) sa_nil))) (se_int _)) sa_nil))) (sa_cons (se_var 10) sa_nil)))))) ss_next)
      (ss_seq (ss_asg (se_if (st_B (se_op (ok_ix T.tabs) (se_var 7) (se_int _))) (se_call (sa_cons (se_var 2) (sa_cons (se_lst (sa_cons se_non (sa_cons (se_str _) (sa_cons (se_int _) (sa_cons (se_bl _) (sa_cons (se_op (ok_ix T.tabs) (se_op (ok_ix T.tabs) (se_var 4) (se_int _)) (se_int _)) sa_nil)))))) sa_nil))) (se_var 5)) (sg_nm 11))
      (ss_seq (ss_asg (se_if (st_B (se_op (ok_ix T.tabs) (se_var 7) (se_int _))) (se_call (sa_cons (se_var 2) (sa_cons (se_var 4) sa_nil))) (se_var 4)) (sg_nm 12))
      (ss_seq (ss_asg (se_lc (vs := [8, 14]) (si_zipM (sa_cons (se_tup (sa_cons (se_str _) (sa_cons (se_str _) (sa_cons (se_str _) sa_nil)))) (sa_cons (se_var 7) sa_nil))) (sg_tp (sgs_cons (sg_nm 8) (sgs_cons (sg_nm 14) sgs_nil))) (st_B (se_var 14)) (se_var 8) (lc_w (tgo_tp (tgos_cons (tgo_nm (by decide)) (tgos_cons (tgo_nm (by decide)) tgos_nil))))) (sg_nm 13))
      (ss_seq (ss_asg (se_op ok_add (se_var 13) (se_op ok_mulL (se_lst (sa_cons (se_str _) sa_nil)) (se_cb ok_int (sa_cons (se_andV (se_op (ok_ix T.tabs) (se_var 7) (se_int _)) (se_andV (se_thaw (is := [5]) (se_op ok_ne (se_var 5) (se_lst sa_nil))) (se_op ok_eq (se_var 13) (se_lst sa_nil)))) sa_nil)))) (sg_nm 13))
      (ss_if (st_test (se_op ok_ne (se_thaw (is := [11]) (se_call (sa_cons (se_var 12) (sa_cons (se_var 11) sa_nil)))) (se_op (ok_ix T.tabs) (se_op ok_add (se_var 13) (se_lst (sa_cons se_non sa_nil))) (se_int _)))) (ss_ret (se_bl _)) ss_next))))))))))))))
      (ss_ret (se_bl _)))⟩
end
/-! ### the head -/
theorem fld_word : FldOk "word" := ⟨rfl, rfl, rfl, by decide +kernel, by decide +kernel, fun _ _ _ _ _ _ _ _ _ _ _ _ _ => rfl⟩
theorem tx_of {w : World} {K : PySem.W.Frag} {h : Heap} {mg : Str → Option Value} (X : K.In h) (G : h.Ns mainGlobals mg) (c : He.SaysX fa fn ts [] exB w h K) : TX K w mg := by
  refine txB_ok X G (and2 c.more).1 fun x kvs hx => ?_
  cases hx
theorem facts {P : Program} {w : World} {K : PySem.W.Frag} {h : Heap} {mg : Str → Option Value} {f : Addr} (X : K.In h) (G : h.Ns mainGlobals mg) (hfa : mg ("law" : Str) = some (.ref f)) (c : He.SaysX fa fn ts [] exB w h K) (hP : P.main.file = PySem.Challenge.pw_sentparts_k10_tables_refused.main.file) (hT : (P.main.scope.names.lookup ("super" : Str)).isSome = false) :
    ∃ fd : FuncData, (∀ (s : Shared) (v : Value), BindsTo s fd ⟨[v], []⟩ [("_law_script", v)]) ∧ ∀ base : Heap, K.In base → base.Ns mainGlobals mg → FnG P w K mg base (CX P w) 9 f fd ["_law_script"] (spFn K 1 f_law) := by
  have T := tx_of X G c
  have cd := c.t.d
  have gl : ∀ x, He.Fa.glo x ∈ fa → mg x = some (.ref (He.ga K x)) := fun x hx => He.glo_ok X G (cd.facts hx)
  obtain ⟨fd0, F0⟩ := cd.def_ 0
  obtain ⟨fd1, F1⟩ := cd.def_ 1
  obtain ⟨fd2, F2⟩ := cd.def_ 2
  obtain ⟨fd3, F3⟩ := cd.def_ 3
  obtain ⟨fd4, F4⟩ := cd.def_ 4
  obtain ⟨fd5, F5⟩ := cd.def_ 5
  obtain ⟨fd6, F6⟩ := cd.def_ 6
  obtain ⟨fd7, F7⟩ := cd.def_ 7
  obtain ⟨fd8, F8⟩ := cd.def_ 8
  obtain ⟨fd9, F9⟩ := cd.def_ 9
  obtain ⟨fd10, F10⟩ := cd.def_ 10
  obtain ⟨fd11, F11⟩ := cd.def_ 11
  obtain ⟨fd12, F12⟩ := cd.def_ 12
  obtain ⟨fd13, F13⟩ := cd.def_ 13
  obtain ⟨fd14, F14⟩ := cd.def_ 14
  obtain ⟨fd15, F15⟩ := cd.def_ 15
  obtain ⟨fd16, F16⟩ := cd.def_ 16
  obtain ⟨fd17, F17⟩ := cd.def_ 17
  obtain ⟨fd18, F18⟩ := cd.def_ 18
  obtain ⟨fd19, F19⟩ := cd.def_ 19
  obtain ⟨fd20, F20⟩ := cd.def_ 20
  obtain ⟨fd21, F21⟩ := cd.def_ 21
  obtain ⟨fd22, F22⟩ := cd.def_ 22
  obtain ⟨fd23, F23⟩ := cd.def_ 23
  obtain ⟨fd24, F24⟩ := cd.def_ 24
  obtain ⟨fd25, F25⟩ := cd.def_ 25
  obtain ⟨fd26, F26⟩ := cd.def_ 26
  have xb := (and2 c.more).2
  have xb0 := (and2 xb).1
  have xb := (and2 xb).2
  have xb1 := (and2 xb).1
  have xb := (and2 xb).2
  have xb2 := (and2 xb).1
  have xb := (and2 xb).2
  have xb3 := xb
  have S_InvalidTable : SupTxt P K mg "InvalidTable" "word" (He.ga K "InvalidTable") (fIof K (He.ga K "InvalidTable")) := supB_ok fld_word (gl "InvalidTable" (by simp [fa])) (b_super T) hT (by rw [hP]; exact xb0)
  have EX_InvalidTable := exmB_ok xb1
  have IX := isxB_ok xb2
  have df_Table___init___0 := repB_ref xb3
  have e := hfa.symm.trans (gl "law" (by simp [fa]))
  cases e
  have b := FunD.bindsA (ps := ["_law_script"]) F26 fun _ _ _ _ _ _ us hl => match us, hl with | [_], _ => rfl
  refine ⟨fd26, fun s v => b s [v] rfl, fun base _ _ => ?_⟩
  have G__law_take : GF P w K mg base "_law_take" 2 [] 1 f__law_take := ⟨_, fd1, _, [], [], ok__law_take T  F1, gl _ (by simp [fa]), F1.kp, (F1.bindsN fun _ _ _ _ _ _ us hl => match us, hl with | [_, _], _ => rfl), .nil, fun _ => rfl⟩
  have G__law_shuffled : GF P w K mg base "_law_shuffled" 2 [] 2 f__law_shuffled := ⟨_, fd3, _, [], [], ok__law_shuffled T G__law_take F3, gl _ (by simp [fa]), F3.kp, (F3.bindsN fun _ _ _ _ _ _ us hl => match us, hl with | [_, _], _ => rfl), .nil, fun _ => rfl⟩
  have G__law_names : GF P w K mg base "_law_names" 2 [] 3 f__law_names := ⟨_, fd4, _, [], [], ok__law_names T G__law_take G__law_shuffled F4, gl _ (by simp [fa]), F4.kp, (F4.bindsN fun _ _ _ _ _ _ us hl => match us, hl with | [_, _], _ => rfl), .nil, fun _ => rfl⟩
  have G__law_pick_t : GF P w K mg base "_law_pick" 2 [] 2 t__law_pick := ⟨_, fd2, _, [], [], ok__law_pick_t T G__law_take F2, gl _ (by simp [fa]), F2.kp, (F2.bindsN fun _ _ _ _ _ _ us hl => match us, hl with | [_, _], _ => rfl), .nil, fun _ => rfl⟩
  have G__law_pick : GF P w K mg base "_law_pick" 2 [] 2 f__law_pick := ⟨_, fd2, _, [], [], ok__law_pick T G__law_take F2, gl _ (by simp [fa]), F2.kp, (F2.bindsN fun _ _ _ _ _ _ us hl => match us, hl with | [_, _], _ => rfl), .nil, fun _ => rfl⟩
  have G_is_integer : GF P w K mg base "is_integer" 1 [] 1 f_is_integer := ⟨_, fd8, _, [], [], ok_is_integer T  F8, gl _ (by simp [fa]), F8.kp, (F8.bindsN fun _ _ _ _ _ _ us hl => match us, hl with | [_], _ => rfl), .nil, fun _ => rfl⟩
  have G_is_text : GF P w K mg base "is_text" 1 [] 1 f_is_text := ⟨_, fd7, _, [], [], ok_is_text T  F7, gl _ (by simp [fa]), F7.kp, (F7.bindsN fun _ _ _ _ _ _ us hl => match us, hl with | [_], _ => rfl), .nil, fun _ => rfl⟩
  have G_is_number : GF P w K mg base "is_number" 1 [] 2 f_is_number := ⟨_, fd9, _, [], [], ok_is_number T G_is_integer F9, gl _ (by simp [fa]), F9.kp, (F9.bindsN fun _ _ _ _ _ _ us hl => match us, hl with | [_], _ => rfl), .nil, fun _ => rfl⟩
  have G_is_of_sort : GF P w K mg base "is_of_sort" 2 [] 3 f_is_of_sort := ⟨_, fd10, _, [], [], ok_is_of_sort T G_is_text G_is_number F10, gl _ (by simp [fa]), F10.kp, (F10.bindsN fun _ _ _ _ _ _ us hl => match us, hl with | [_, _], _ => rfl), .nil, fun _ => rfl⟩
  have G_is_sequence : GF P w K mg base "is_sequence" 1 [] 1 f_is_sequence := ⟨_, fd6, _, [], [], ok_is_sequence T  F6, gl _ (by simp [fa]), F6.kp, (F6.bindsN fun _ _ _ _ _ _ us hl => match us, hl with | [_], _ => rfl), .nil, fun _ => rfl⟩
  have G_is_row : GF P w K mg base "is_row" 2 [] 4 f_is_row := ⟨_, fd11, _, [], [], ok_is_row T G_is_of_sort F11, gl _ (by simp [fa]), F11.kp, (F11.bindsN fun _ _ _ _ _ _ us hl => match us, hl with | [_, _], _ => rfl), .nil, fun _ => rfl⟩
  have G_is_name : GF P w K mg base "is_name" 1 [] 1 f_is_name := ⟨_, fd14, _, [], [], ok_is_name T  F14, gl _ (by simp [fa]), F14.kp, (F14.bindsN fun _ _ _ _ _ _ us hl => match us, hl with | [_], _ => rfl), .nil, fun _ => rfl⟩
  have G_are_columns : GF P w K mg base "are_columns" 1 [] 2 f_are_columns := ⟨_, fd15, _, [], [], ok_are_columns T G_is_sequence G_is_name F15, gl _ (by simp [fa]), F15.kp, (F15.bindsN fun _ _ _ _ _ _ us hl => match us, hl with | [_], _ => rfl), .nil, fun _ => rfl⟩
  have G_need_rows : GF P w K mg base "need_rows" 2 [] 5 f_need_rows := ⟨_, fd12, _, [], [], ok_need_rows T G_is_sequence S_InvalidTable G_is_row F12, gl _ (by simp [fa]), F12.kp, (F12.bindsN fun _ _ _ _ _ _ us hl => match us, hl with | [_, _], _ => rfl), .nil, fun _ => rfl⟩
  have G_columns_of : GF P w K mg base "columns_of" 1 [] 1 f_columns_of := ⟨_, fd13, _, [], [], ok_columns_of T  F13, gl _ (by simp [fa]), F13.kp, (F13.bindsN fun _ _ _ _ _ _ us hl => match us, hl with | [_], _ => rfl), .nil, fun _ => rfl⟩
  obtain ⟨ds_Table_3, vs_Table_3, b_Table_3⟩ := FunD.binds1 (ps := ["self", "columns", "rows"]) F16 3 1 (by intro z; cases z) rfl fun _ _ _ _ _ _ _ us its h1 h2 => match us, its, h1, h2 with | [_, _, _], [_], _, _ => ⟨_, rfl, rfl⟩
  have G_Table_3 : GK P w K mg base "Table" 3 [] 6 f_Table___init__ := ⟨_, fd16, _, ds_Table_3, _, (ok_Table___init__ T G_are_columns S_InvalidTable G_need_rows G_columns_of F16), He.mkr_ok (cd.facts (f := .mkr "Table") (by simp [fa])), gl _ (by simp [fa]), b_Table_3, vs_Table_3, fun _ => rfl⟩
  have G__law_word : GF P w K mg base "_law_word" 1 [] 3 f__law_word := ⟨_, fd19, _, [], [], ok__law_word T G__law_take G__law_pick F19, gl _ (by simp [fa]), F19.kp, (F19.bindsN fun _ _ _ _ _ _ us hl => match us, hl with | [_], _ => rfl), .nil, fun _ => rfl⟩
  have G__law_number : GF P w K mg base "_law_number" 1 [] 2 f__law_number := ⟨_, fd20, _, [], [], ok__law_number T G__law_take F20, gl _ (by simp [fa]), F20.kp, (F20.bindsN fun _ _ _ _ _ _ us hl => match us, hl with | [_], _ => rfl), .nil, fun _ => rfl⟩
  have G__law_cell : GF P w K mg base "_law_cell" 2 [] 4 f__law_cell := ⟨_, fd21, _, [], [], ok__law_cell T G__law_take G__law_word G__law_number F21, gl _ (by simp [fa]), F21.kp, (F21.bindsN fun _ _ _ _ _ _ us hl => match us, hl with | [_, _], _ => rfl), .nil, fun _ => rfl⟩
  have G__law_nested : GF P w K mg base "_law_nested" 1 [] 1 f__law_nested := ⟨_, fd23, _, [], [], ok__law_nested T  F23, gl _ (by simp [fa]), F23.kp, (F23.bindsN fun _ _ _ _ _ _ us hl => match us, hl with | [_], _ => rfl), .nil, fun _ => rfl⟩
  have G__law_row : GF P w K mg base "_law_row" 2 [] 5 f__law_row := ⟨_, fd22, _, [], [], ok__law_row T G__law_cell F22, gl _ (by simp [fa]), F22.kp, (F22.bindsN fun _ _ _ _ _ _ us hl => match us, hl with | [_, _], _ => rfl), .nil, fun _ => rfl⟩
  have G__law_box : GF P w K mg base "_law_box" 2 [] 1 f__law_box := ⟨_, fd0, _, [], [], ok__law_box T  F0, gl _ (by simp [fa]), F0.kp, (F0.bindsN fun _ _ _ _ _ _ us hl => match us, hl with | [_, _], _ => rfl), .nil, fun _ => rfl⟩
  have G__law_columns : GF P w K mg base "_law_columns" 2 [] 4 f__law_columns := ⟨_, fd5, _, [], [], ok__law_columns T G__law_names G__law_pick F5, gl _ (by simp [fa]), F5.kp, (F5.bindsN fun _ _ _ _ _ _ us hl => match us, hl with | [_, _], _ => rfl), .nil, fun _ => rfl⟩
  have G__law_rows : GF P w K mg base "_law_rows" 3 [] 6 f__law_rows := ⟨_, fd25, _, [], [], ok__law_rows T G__law_take G__law_pick G__law_row F25, gl _ (by simp [fa]), F25.kp, (F25.bindsN fun _ _ _ _ _ _ us hl => match us, hl with | [_, _, _], _ => rfl), .nil, fun _ => rfl⟩
  have G__law_told : GF P w K mg base "_law_told" 2 [] 8 f__law_told := ⟨_, fd17, _, [], [], ok__law_told T EX_InvalidTable G_Table_3 IX S_InvalidTable F17, gl _ (by simp [fa]), F17.kp, (F17.bindsN fun _ _ _ _ _ _ us hl => match us, hl with | [_, _], _ => rfl), .nil, fun _ => rfl⟩
  have G__law_odd_cell : GF P w K mg base "_law_odd_cell" 2 [] 3 f__law_odd_cell := ⟨_, fd18, _, [], [], ok__law_odd_cell T G__law_pick F18, gl _ (by simp [fa]), F18.kp, (F18.bindsN fun _ _ _ _ _ _ us hl => match us, hl with | [_, _], _ => rfl), .nil, fun _ => rfl⟩
  have G__law_odd_columns : GF P w K mg base "_law_odd_columns" 2 [] 3 f__law_odd_columns := ⟨_, fd24, _, [], [], ok__law_odd_columns T G__law_nested G__law_pick F24, gl _ (by simp [fa]), F24.kp, (F24.bindsN fun _ _ _ _ _ _ us hl => match us, hl with | [_, _], _ => rfl), .nil, fun _ => rfl⟩
  exact ok_law T G__law_pick_t G__law_box G__law_take G__law_columns G__law_rows G__law_told G__law_pick G__law_odd_cell G__law_row G__law_odd_columns F26
end K10
open PySem PySem.W PySem.Calls PyProof.Rows
theorem PySem.Challenge.cw_sentparts_k10_tables_refused_holds : PySem.Challenge.rw_sentparts_k10_tables_refused.Holds := by
  w_on; o_law
  refine HandSHeadRun.head_any (r := OpenLaw.row PySem.Challenge.rw_sentparts_k10_tables_refused) (q := view (OpenLaw.row PySem.Challenge.rw_sentparts_k10_tables_refused).prog [53]) (H := K10.hk) (ob := K10.ob) (M := 6000) (loose := K10.others) (d := HandSHeadRun.topDef (OpenLaw.row PySem.Challenge.rw_sentparts_k10_tables_refused).prog 53) (kwd := []) K10.ob_eq
    (by kernel_rfl) (fun s => by kernel_rfl) K10.run (by kernel_rfl) (by kernel_rfl) (by kernel_rfl) (by rfl) (by first | assumption | decide +kernel) (by decide +kernel) ⟨rfl, rfl, rfl, rfl, rfl, by decide +kernel⟩ ?hw ?hc
  case hw => w_witness2
  case hc =>
    refine Fx.walk_ofW (l := PySem.Challenge.rw_sentparts_k10_tables_refused) (n := 63) (k := 9) (x := "_law_script") rfl (by decide) (by kernel_rfl) ⟨rfl, by decide, by decide⟩ ?F
    intro w mg fa h Y G hmg0
    obtain ⟨K, KX, c⟩ := Y
    have hmg : mg ("law" : PySem.Str) = some (.ref fa) := by
      have e : (HandSHeadRun.topDef (OpenLaw.row PySem.Challenge.rw_sentparts_k10_tables_refused).prog 53).name = ("law" : PySem.Str) := by kernel_rfl
      rw [← e]
      exact hmg0
    obtain ⟨fd, hb, hF⟩ := K10.facts (P := (PySem.Challenge.rw_sentparts_k10_tables_refused).prog) (w := w) KX G hmg c rfl (by decide +kernel)
    exact ⟨K, fd, Fx.spFn K 1 K10.f_law, KX, hb, fun H a ns hl _ hS => let ⟨ce, h⟩ := K10.law_true ns hl; Fx.sp_start hS h, hF⟩
