import PyProof.Rows.All
import Wide.All
import OpenK.AllK
import Wide.FinOn
import KE.KStateDown
import HandS.ForMost
import HandS.More
import HandS.Wide
import HandS.Conv
import HandS.WordsExc
import HandS.Defaults
import HandS.IsInst
import HandS.Flow
import HandS.RaiseMore
import HandS.CallSlots
import HandS.StrMore
import HandS.Head0
import HandS.Head1
import HandS.Head2
import HandS.HeadEnd
import HandS.HeadHook1
import HandS.HeadHook2
import HandS.HeadHook4
import HandS.Lambda
import HandS.EndTab
import HandS.EndOwn
import HandS.Ends
import HandS.Star
import HandS.Style
import HandS.TupAny
import HandS.MakeKw
import KE.KExcSuper
import HandS.ExcIs
import PyProof.ReprRoads
import HandS.Zip
import KE.KCallOwn
import KE.KFmtOwn
import PyProof.InstNe
import HandS.ClsMeth
import HandS.CallLocal
import HandS.ExcCtx
import HandS.RaiseFrom
import HandS.SuiteRaise
import HandS.HeadNt
import HandS.DictComp
import PyProof.Rows.StrItems
import PyProof.Rows.StrSplitJoin
import PyProof.StrLawsChain
import HandS.Codes
import KE.KOpsOwn
import HandS.Small
import HandS.NoneIn
import KE.GoesMore
import KE.GoesZip
import KE.GoesEnum
import HandS.FStr
import KE.KUnpackStar
import KE.IntTextLaws
import PyProof.ListStr
import HandS.Deep
import KE.KIntText
import PySem.Challenge.RW_sentparts_k07_ways_but_other_rules
set_option Elab.async false
set_option linter.all false
set_option autoImplicit false
set_option maxRecDepth 100000
set_option maxHeartbeats 2000000
namespace Fx
open PySem L2

/-! ## data: values as trees; slf binds me -/
inductive D where
  | non | bl (b : Bool) | int (i : Int) | str (x : Str) | ty (n : String) | glo (x : Str)
  | lst (xs : List D) | tup (xs : List D) | dic (kvs : List (Key × D)) | ins (C : Str) (fs : List (Str × D)) | slf (C : Str) (fs : List (Str × D)) | me
  | scr (ns : List Int)
instance : Inhabited D := ⟨.non⟩

section
variable (K : PySem.W.Frag) (H : Hp)
mutual
def Rep : D → V → Prop
  | .non, v => v = .non
  | .bl b, v => v = .bl b
  | .int i, v => v = .int i
  | .str x, v => v = .str x
  | .ty n, v => v = .ty n
  | .glo x, v => v = .ref (He.ga K x)
  | .lst ds, v => ∃ a vs, v = .ref a ∧ H a = some (.lst vs) ∧ RepL ds vs
  | .tup ds, v => ∃ a vs, v = .ref a ∧ SqT K H a vs ∧ RepL ds vs
  | .dic kds, v => ∃ a kvs, v = .ref a ∧ Rd H a (.dK kvs) ∧ RepK kds kvs
  | .ins C fds, v => ∃ a dx fs, v = .ref a ∧ H a = some (.ins (He.ga K C) dx fs) ∧ RepF fds fs
  | .slf C fds, v => ∃ a dx fs, v = .ref a ∧ H a = some (.ins (He.ga K C) dx fs) ∧ RepS a fds fs
  | .me, _ => False
  | .scr ns, v => ∃ a, v = .ref a ∧ SqL K H a (ns.map V.int)
def RepL : List D → List V → Prop
  | [], vs => vs = []
  | d :: ds, vs => ∃ v r, vs = v :: r ∧ Rep d v ∧ RepL ds r
def RepK : List (Key × D) → List (Key × V) → Prop
  | [], vs => vs = []
  | (k, d) :: ds, vs => ∃ v r, vs = (k, v) :: r ∧ Rep d v ∧ RepK ds r
def RepF : List (Str × D) → List (Str × V) → Prop
  | [], vs => vs = []
  | (k, d) :: ds, vs => ∃ v r, vs = (k, v) :: r ∧ Rep d v ∧ RepF ds r
def RepS : Addr → List (Str × D) → List (Str × V) → Prop
  | _, [], vs => vs = []
  | a, (k, d) :: ds, vs => ∃ v r, vs = (k, v) :: r ∧ ((d = .me ∧ ∃ t, v = .ref t ∧ SqT K H t [.ref a]) ∨ Rep d v) ∧ RepS a ds r
end
end
/-- a field of a slf, read from outside -/
def selfF (e : D) : D → D
  | .me => .tup [e]
  | d => d
theorem same_t {K : PySem.W.Frag} {H H' : Hp} {a : Addr} {xs : List V} (e : Same H H') (h : SqT K H a xs) : SqT K H' a xs := by
  rcases h with (h | ⟨o, h⟩) | h
  · exact .inl (.inl (e _ _ h))
  · exact .inl (.inr ⟨o, e _ _ h⟩)
  · exact .inr h
theorem same_rd {H H' : Hp} {a : Addr} {u : HO} (e : Same H H') (h : Rd H a u) : Rd H' a u := by
  rcases h with h | ⟨o, h⟩
  · exact .inl (e _ _ h)
  · exact .inr ⟨o, e _ _ h⟩
section
variable {K : PySem.W.Frag} {H H' : Hp}
mutual
theorem Rep.mono (e : Same H H') : ∀ (d : D) (v : V), Rep K H d v → Rep K H' d v
  | .non, _, h => h
  | .bl _, _, h => h
  | .int _, _, h => h
  | .str _, _, h => h
  | .ty _, _, h => h
  | .glo _, _, h => h
  | .lst ds, _, ⟨a, vs, h1, h2, h3⟩ => ⟨a, vs, h1, e _ _ h2, RepL.mono e ds vs h3⟩
  | .tup ds, _, ⟨a, vs, h1, h2, h3⟩ => ⟨a, vs, h1, same_t e h2, RepL.mono e ds vs h3⟩
  | .dic ds, _, ⟨a, vs, h1, h2, h3⟩ => ⟨a, vs, h1, same_rd e h2, RepK.mono e ds vs h3⟩
  | .ins _ ds, _, ⟨a, dx, vs, h1, h2, h3⟩ => ⟨a, dx, vs, h1, e _ _ h2, RepF.mono e ds vs h3⟩
  | .slf _ ds, _, ⟨a, dx, vs, h1, h2, h3⟩ => ⟨a, dx, vs, h1, e _ _ h2, RepS.mono e a ds vs h3⟩
  | .me, _, h => h
  | .scr ns, _, ⟨a, h1, h2⟩ => ⟨a, h1, e.seq h2⟩
theorem RepL.mono (e : Same H H') : ∀ (d : List D) (v : List V), RepL K H d v → RepL K H' d v
  | [], _, h => h
  | d :: ds, _, ⟨v, r, h1, h2, h3⟩ => ⟨v, r, h1, Rep.mono e d v h2, RepL.mono e ds r h3⟩
theorem RepK.mono (e : Same H H') : ∀ (d : List (Key × D)) (v : List (Key × V)), RepK K H d v → RepK K H' d v
  | [], _, h => h
  | (_, d) :: ds, _, ⟨v, r, h1, h2, h3⟩ => ⟨v, r, h1, Rep.mono e d v h2, RepK.mono e ds r h3⟩
theorem RepF.mono (e : Same H H') : ∀ (d : List (Str × D)) (v : List (Str × V)), RepF K H d v → RepF K H' d v
  | [], _, h => h
  | (_, d) :: ds, _, ⟨v, r, h1, h2, h3⟩ => ⟨v, r, h1, Rep.mono e d v h2, RepF.mono e ds r h3⟩
theorem RepS.mono (e : Same H H') (a : Addr) : ∀ (d : List (Str × D)) (v : List (Str × V)), RepS K H a d v → RepS K H' a d v
  | [], _, h => h
  | (_, d) :: ds, _, ⟨v, r, h1, h2, h3⟩ => ⟨v, r, h1, h2.elim (fun ⟨z, t, q1, q2⟩ => .inl ⟨z, t, q1, same_t e q2⟩) (fun h2 => .inr (Rep.mono e d v h2)), RepS.mono e a ds r h3⟩
end
theorem RepL.length : ∀ {d : List D} {v : List V}, RepL K H d v → v.length = d.length
  | [], _, h => by rw [show _ = [] from h]; rfl
  | d :: ds, _, ⟨v, r, h1, h2, h3⟩ => by rw [h1]; simp [RepL.length h3]
theorem RepK.length : ∀ {d : List (Key × D)} {v : List (Key × V)}, RepK K H d v → v.length = d.length
  | [], _, h => by rw [show _ = [] from h]; rfl
  | (_, d) :: ds, _, ⟨v, r, h1, h2, h3⟩ => by rw [h1]; simp [RepK.length h3]
theorem RepL.get : ∀ {d : List D} {v : List V} {i : Nat} {x : D}, RepL K H d v → d[i]? = some x → ∃ u, v[i]? = some u ∧ Rep K H x u
  | [], _, i, x, h, e => by simp at e
  | d :: ds, _, 0, x, ⟨v, r, h1, h2, h3⟩, e => by
    simp at e; subst e; subst h1; exact ⟨v, rfl, h2⟩
  | d :: ds, _, i + 1, x, ⟨v, r, h1, h2, h3⟩, e => by
    subst h1
    obtain ⟨u, q1, q2⟩ := RepL.get (i := i) (x := x) h3 (by simpa using e)
    exact ⟨u, by simpa using q1, q2⟩
theorem RepF.look : ∀ {d : List (Str × D)} {v : List (Str × V)} {f : Str} {x : D}, RepF K H d v → d.lookup f = some x → ∃ u, v.lookup f = some u ∧ Rep K H x u
  | [], _, f, x, h, e => by simp at e
  | (k, d) :: ds, _, f, x, ⟨v, r, h1, h2, h3⟩, e => by
    subst h1
    by_cases hk : f == k
    · simp only [List.lookup_cons, hk] at e ⊢
      cases e; exact ⟨v, rfl, h2⟩
    · simp only [List.lookup_cons, hk] at e ⊢
      exact RepF.look h3 e
theorem RepF.lookN : ∀ {d : List (Str × D)} {v : List (Str × V)} {f : Str}, RepF K H d v → d.lookup f = none → v.lookup f = none
  | [], _, f, h, e => by rw [show _ = [] from h]; rfl
  | (k, d) :: ds, _, f, ⟨v, r, h1, h2, h3⟩, e => by
    subst h1
    by_cases hk : f == k
    · simp only [List.lookup_cons, hk] at e
      cases e
    · simp only [List.lookup_cons, hk] at e ⊢
      exact RepF.lookN h3 e
theorem RepS.look {a : Addr} {e : D} (he : Rep K H e (.ref a)) : ∀ {d : List (Str × D)} {v : List (Str × V)} {f : Str} {x : D}, RepS K H a d v → d.lookup f = some x → ∃ u, v.lookup f = some u ∧ Rep K H (selfF e x) u
  | [], _, f, x, h, e => by simp at e
  | (k, d) :: ds, _, f, x, ⟨v, r, h1, h2, h3⟩, e => by
    subst h1
    by_cases hk : f == k
    · simp only [List.lookup_cons, hk] at e ⊢
      cases e
      refine ⟨v, rfl, ?_⟩
      rcases h2 with ⟨rfl, t, rfl, q⟩ | h2
      · exact ⟨t, _, rfl, q, _, _, rfl, he, rfl⟩
      · cases d <;> first | exact h2 | exact False.elim h2
    · simp only [List.lookup_cons, hk] at e ⊢
      exact RepS.look he h3 e
theorem RepS.lookN {a : Addr} : ∀ {d : List (Str × D)} {v : List (Str × V)} {f : Str}, RepS K H a d v → d.lookup f = none → v.lookup f = none
  | [], _, f, h, e => by rw [show _ = [] from h]; rfl
  | (k, d) :: ds, _, f, ⟨v, r, h1, h2, h3⟩, e => by
    subst h1
    by_cases hk : f == k
    · simp only [List.lookup_cons, hk] at e
      cases e
    · simp only [List.lookup_cons, hk] at e ⊢
      exact RepS.lookN h3 e
theorem RepL.append : ∀ {xs ys : List D} {vs ws : List V}, RepL K H xs vs → RepL K H ys ws → RepL K H (xs ++ ys) (vs ++ ws)
  | [], _, vs, _, h1, h2 => by rw [show vs = [] from h1]; exact h2
  | x :: xs, _, _, _, ⟨v, r, e, h, hr⟩, h2 => by subst e; exact ⟨v, _, rfl, h, RepL.append hr h2⟩
end

/-- the class of an exception: of the module, by its name, or a built-in one -/
inductive XC where
  | own (x : Str) | blt (n : String)
  deriving DecidableEq
instance : Inhabited XC := ⟨.blt ""⟩
def XC.v (K : PySem.W.Frag) : XC → Value
  | .own x => .ref (He.ga K x)
  | .blt n => .type n
/-- what stands around: the caught errors (place, class, dict); what is kept as it is -/
inductive FO where
  | ho (u : HO) | tb (q : Str)
abbrev Fr := Addr → Option FO
structure EC where
  xs : List (Addr × Value × Option Addr)
  fr : Fr
/-- a table of code objects, each of which bears the name q -/
def TabI (I : Hp) (ps : Array Value) (q : Str) : Prop := TriplesOk ps.toList ∧ ∀ (pos : Pos) (cv : Value), codeAmong pos ps.toList = some cv → ∃ c, cv = .ref c ∧ I c = some (LamX.CodeO c q)
theorem TabI.mono {I I' : Hp} {ps : Array Value} {q : Str} (e : ∀ b u, I b = some u → I' b = some u) (h : TabI I ps q) : TabI I' ps q := ⟨h.1, fun pos cv hc => let ⟨c, e1, e2⟩ := h.2 pos cv hc; ⟨c, e1, e _ _ e2⟩⟩
/-- the name of a lambda within the def x; the code object of the def x, and its table -/
def lamQ (x : Str) : Str := (x ++ (".<locals>." : Str)) ++ ("<lambda>" : Str)
def codA (K : PySem.W.Frag) (x : Str) : Addr := match K.lookup (He.ga K x) with
  | some ⟨_, _, .func fd, _⟩ => (match fd.code with
    | .ref c => c
    | _ => 0)
  | _ => 0
def tabA (K : PySem.W.Frag) (x : Str) : Addr := match K.lookup (codA K x) with
  | some ⟨_, _, .fields vs, _⟩ => (match (vs[11]? : Option Value) with
    | some (.ref p) => p
    | _ => 0)
  | _ => 0
/-- neither a code object nor a table of such -/
def NotC (u : HO) : Prop := (∀ c q, u ≠ LamX.CodeO c q) ∧ ∀ ps, u ≠ .tbl ps
def FrH (I H : Hp) (b : Addr) : FO → Prop
  | .ho u => H b = some u ∧ NotC u
  | .tb q => ∃ ps, H b = some (.tbl ps) ∧ TabI I ps (lamQ q)
theorem FrH.live {I H : Hp} {b : Addr} : ∀ {w : FO}, FrH I H b w → ∃ u, H b = some u
  | .ho u, h => ⟨u, h.1⟩
  | .tb _, ⟨ps, h, _⟩ => ⟨_, h⟩
theorem FrH.mono {I H I' H' : Hp} {b : Addr} (e : ∀ b u, I b = some u → I' b = some u) (k : ∀ u, H b = some u → H' b = some u) : ∀ {w : FO}, FrH I H b w → FrH I' H' b w
  | .ho u, h => ⟨k _ h.1, h.2⟩
  | .tb _, ⟨ps, h, h2⟩ => ⟨ps, k _ h, h2.mono e⟩
theorem FrH.upd {I I' H : Hp} {b p : Addr} {o : HO} {w : FO} (h : FrH I H b w) (hb : b ≠ p) (e : ∀ b u, I b = some u → I' b = some u) : FrH I' (L2.upd H p o) b w := h.mono e fun u hu => by rw [upd_ne hb]; exact hu
theorem ne_fr {fr : Fr} {a b : Addr} {w : FO} (h : fr b = some w) (h2 : fr a = none) : b ≠ a := fun e => by rw [e, h2] at h; cases h
theorem FrH.ne {I H : Hp} {b p : Addr} {w : FO} (h : FrH I H b w) (hp : H p = none) : b ≠ p := fun e => by
  obtain ⟨u, hu⟩ := h.live
  rw [e, hp] at hu
  cases hu
/-! ## states: slots and numbered cells -/
inductive SV where
  | no | im (d : D) | cl (c : Nat)
instance : Inhabited SV := ⟨.no⟩
/-- a cell: a list, a tuple that holds cells, a dict, an instance, a caught error, a thing that is data from now on -/
inductive CO where
  | lst (xs : List SV) | tup (xs : List SV) | dic (kvs : List (Key × SV)) | ins (C : Str) (fs : List (Str × SV)) | exc (C : XC) (fs : List (Str × SV)) | fz (d : D) | dead | tbl (q : Str)
instance : Inhabited CO := ⟨.dead⟩
structure Sta where
  sl : List SV
  ce : List CO

section
variable (K : PySem.W.Frag) (ec : EC) (I : Hp) (as : List Addr)
def RV : SV → V → Prop
  | .no, _ => False
  | .im d, v => Rep K I d v
  | .cl c, v => ∃ a, as[c]? = some a ∧ v = .ref a
def RVL : List SV → List V → Prop
  | [], vs => vs = []
  | s :: ss, vs => ∃ v r, vs = v :: r ∧ RV K I as s v ∧ RVL ss r
def RVK : List (Key × SV) → List (Key × V) → Prop
  | [], vs => vs = []
  | (k, s) :: ss, vs => ∃ v r, vs = (k, v) :: r ∧ RV K I as s v ∧ RVK ss r
def RVF : List (Str × SV) → List (Str × V) → Prop
  | [], vs => vs = []
  | (k, s) :: ss, vs => ∃ v r, vs = (k, v) :: r ∧ RV K I as s v ∧ RVF ss r
/-- an exception's own dict -/
def XRel (fs : List (Str × SV)) : Option Addr → Prop
  | none => fs = []
  | some d => ∃ vs, I d = some (.xd vs) ∧ RVF K I as fs vs
def CellOk (H : Hp) (a : Addr) : CO → Prop
  | .lst xs => I a = none ∧ ∃ vs, H a = some (.lst vs) ∧ RVL K I as xs vs
  | .tup xs => I a = none ∧ ∃ vs, H a = some (.tup vs) ∧ RVL K I as xs vs
  | .dic kvs => I a = none ∧ ∃ vs, H a = some (.dK vs) ∧ RVK K I as kvs vs
  | .ins C fs => I a = none ∧ ∃ dx vs, H a = some (.ins (He.ga K C) dx vs) ∧ RVF K I as fs vs
  | .exc C fs => ∃ d, (a, C.v K, d) ∈ ec.xs ∧ XRel K I as fs d
  | .fz d => Rep K I d (.ref a)
  | .dead => True
  | .tbl q => a = tabA K q ∧ I a = none ∧ ∃ ps : Array Value, H a = some (.tbl ps) ∧ TabI I ps (lamQ q)
end
def CO.live : CO → Bool
  | .lst _ => true | .tup _ => true | .dic _ => true | .ins _ _ => true | .tbl _ => true | _ => false
structure R (K : PySem.W.Frag) (ec : EC) (δ : Sta) (σ : St) (I : Hp) (as : List Addr) (H : Hp) : Prop where
  fh : ∀ (b : Addr) (w : FO), ec.fr b = some w → FrH I H b w
  cf : ∀ (c : Nat) (o : CO) (a : Addr), δ.ce[c]? = some o → as[c]? = some a → o.live = true → ec.fr a = none
  fi : ∀ (a : Addr) (u : FO), ec.fr a = some u → I a = none
  ih : Same I H
  len : σ.length = δ.sl.length
  slots : ∀ (i : Nat) (s : SV), δ.sl[i]? = some s → s = .no ∨ ∃ v, σ[i]? = some (some v) ∧ RV K I as s v
  clen : as.length = δ.ce.length
  cells : ∀ (c : Nat) (o : CO) (a : Addr), δ.ce[c]? = some o → as[c]? = some a → CellOk K ec I as H a o
  inj : ∀ (c c' : Nat) (o o' : CO) (a : Addr), δ.ce[c]? = some o → δ.ce[c']? = some o' → o.live = true → o'.live = true → as[c]? = some a → as[c']? = some a → c = c'
  it : ∀ (b : Addr) (ps : Array Value), I b ≠ some (.tbl ps)
theorem it_upd {I : Hp} {p : Addr} {o : HO} (h : ∀ (b : Addr) (ps : Array Value), I b ≠ some (.tbl ps)) (ho : ∀ ps, o ≠ .tbl ps) : ∀ (b : Addr) (ps : Array Value), upd I p o b ≠ some (.tbl ps) := fun b ps z => by
  by_cases hb : b = p
  · rw [hb, upd_same] at z; exact ho ps (Option.some.inj z)
  · rw [upd_ne hb] at z; exact h b ps z
/-- later: more frozen things, more cells -/
structure Le (I : Hp) (as : List Addr) (I' : Hp) (as' : List Addr) : Prop where
  i : Same I I'
  a : ∀ (c : Nat) (x : Addr), as[c]? = some x → as'[c]? = some x
theorem Le.refl (I : Hp) (as : List Addr) : Le I as I as := ⟨Same.refl I, fun _ _ h => h⟩
theorem Le.trans {I I1 I2 : Hp} {as as1 as2 : List Addr} (a : Le I as I1 as1) (b : Le I1 as1 I2 as2) : Le I as I2 as2 := ⟨a.i.trans b.i, fun c x h => b.a c x (a.a c x h)⟩
section
variable {K : PySem.W.Frag} {ec : EC} {I I' : Hp} {as as' : List Addr}
theorem RV.mono (e : Le I as I' as') : ∀ {s : SV} {v : V}, RV K I as s v → RV K I' as' s v
  | .no, _, h => h
  | .im d, v, h => Rep.mono e.i d v h
  | .cl c, v, ⟨a, h1, h2⟩ => ⟨a, e.a c a h1, h2⟩
theorem RVL.mono (e : Le I as I' as') : ∀ {s : List SV} {v : List V}, RVL K I as s v → RVL K I' as' s v
  | [], _, h => h
  | s :: ss, _, ⟨v, r, h1, h2, h3⟩ => ⟨v, r, h1, h2.mono e, h3.mono e⟩
theorem RVK.mono (e : Le I as I' as') : ∀ {s : List (Key × SV)} {v : List (Key × V)}, RVK K I as s v → RVK K I' as' s v
  | [], _, h => h
  | (_, s) :: ss, _, ⟨v, r, h1, h2, h3⟩ => ⟨v, r, h1, h2.mono e, h3.mono e⟩
theorem RVF.mono (e : Le I as I' as') : ∀ {s : List (Str × SV)} {v : List (Str × V)}, RVF K I as s v → RVF K I' as' s v
  | [], _, h => h
  | (_, s) :: ss, _, ⟨v, r, h1, h2, h3⟩ => ⟨v, r, h1, h2.mono e, h3.mono e⟩
theorem XRel.mono (e : Le I as I' as') {fs : List (Str × SV)} : ∀ {d : Option Addr}, XRel K I as fs d → XRel K I' as' fs d
  | none, h => h
  | some _, ⟨vs, h1, h2⟩ => ⟨vs, e.i _ _ h1, h2.mono e⟩
end

/-! ## exceptions that leave -/
structure Xn where
  cls : XC
  fs : List (Str × SV)
end Fx

set_option Elab.async false
set_option linter.all false
set_option autoImplicit false
set_option maxRecDepth 100000
set_option maxHeartbeats 2000000
namespace Fx
open PySem L2

/-! ## reading data off states -/
def imS (ce : List CO) : SV → Option D
  | .no => none
  | .im d => some d
  | .cl c => match ce[c]? with
    | some (.fz d) => some d
    | _ => none
def imL (ce : List CO) : List SV → Option (List D)
  | [] => some []
  | s :: ss => match imS ce s, imL ce ss with
    | some d, some ds => some (d :: ds)
    | _, _ => none
def imK (ce : List CO) : List (Key × SV) → Option (List (Key × D))
  | [] => some []
  | (k, s) :: ss => match imS ce s, imK ce ss with
    | some d, some ds => some ((k, d) :: ds)
    | _, _ => none
def imF (ce : List CO) : List (Str × SV) → Option (List (Str × D))
  | [] => some []
  | (k, s) :: ss => match imS ce s, imF ce ss with
    | some d, some ds => some ((k, d) :: ds)
    | _, _ => none
def dv (ce : List CO) : SV → Option D
  | .no => none
  | .im d => some d
  | .cl c => match ce[c]? with
    | some (.fz d) => some d
    | some (.lst xs) => (imL ce xs).map .lst
    | some (.tup xs) => (imL ce xs).map .tup
    | some (.dic kvs) => (imK ce kvs).map .dic
    | some (.ins C fs) => (imF ce fs).map (.ins C)
    | _ => none
/-- fields of which one is the tuple of the instance itself, the cell t -/
def imFS (ce : List CO) (t : Nat) : List (Str × SV) → Option (List (Str × D))
  | [] => some []
  | (k, s) :: ss => match (match s with | .cl c => if c = t then some D.me else imS ce s | s => imS ce s), imFS ce t ss with
    | some d, some ds => some ((k, d) :: ds)
    | _, _ => none
def findT (ce : List CO) (c : Nat) : List (Str × SV) → Option Nat
  | [] => none
  | (_, .cl t) :: ss => match ce[t]? with
    | some (.tup [.cl c']) => if c' = c then some t else findT ce c ss
    | _ => findT ce c ss
  | _ :: ss => findT ce c ss
/-- a cell becomes data -/
def frz (ce : List CO) (c : Nat) : Option (D × List CO) :=
  match dv ce (.cl c) with
  | some d => some (d, ce.set c (.fz d))
  | none => match ce[c]? with
    | some (.ins C fs) => match findT ce c fs with
      | some t => if t = c then none else (imFS ce t fs).map fun ds => (.slf C ds, (ce.set c (.fz (.slf C ds))).set t .dead)
      | none => none
    | _ => none
section
variable {K : PySem.W.Frag} {ec : EC} {δ : Sta} {σ : L2.St} {I : Hp} {as : List Addr} {H : Hp}
theorem R.imS (r : R K ec δ σ I as H) : ∀ {s : SV} {d : D} {v : V}, Fx.imS δ.ce s = some d → RV K I as s v → Rep K I d v
  | .no, _, _, e, _ => by cases e
  | .im d, _, _, e, h => by cases e; exact h
  | .cl c, d, v, e, ⟨a, ha, hv⟩ => by
    simp only [Fx.imS] at e
    cases q : δ.ce[c]? with
    | none => rw [q] at e; cases e
    | some o =>
      rw [q] at e
      cases o with
      | fz d' =>
        cases e
        subst hv
        exact r.cells c _ a q ha
      | _ => cases e
theorem R.imL (r : R K ec δ σ I as H) : ∀ {s : List SV} {d : List D} {v : List V}, Fx.imL δ.ce s = some d → RVL K I as s v → RepL K I d v
  | [], _, _, e, h => by cases e; exact h
  | s :: ss, d, v, e, ⟨u, w, h1, h2, h3⟩ => by
    simp only [Fx.imL] at e
    cases q1 : Fx.imS δ.ce s with
    | none => rw [q1] at e; cases e
    | some x =>
      cases q2 : Fx.imL δ.ce ss with
      | none => rw [q1, q2] at e; cases e
      | some xs =>
        rw [q1, q2] at e
        cases e
        exact ⟨u, w, h1, r.imS q1 h2, r.imL q2 h3⟩
theorem R.imK (r : R K ec δ σ I as H) : ∀ {s : List (Key × SV)} {d : List (Key × D)} {v : List (Key × V)}, Fx.imK δ.ce s = some d → RVK K I as s v → RepK K I d v
  | [], _, _, e, h => by cases e; exact h
  | (k, s) :: ss, d, v, e, ⟨u, w, h1, h2, h3⟩ => by
    simp only [Fx.imK] at e
    cases q1 : Fx.imS δ.ce s with
    | none => rw [q1] at e; cases e
    | some x =>
      cases q2 : Fx.imK δ.ce ss with
      | none => rw [q1, q2] at e; cases e
      | some xs =>
        rw [q1, q2] at e
        cases e
        exact ⟨u, w, h1, r.imS q1 h2, r.imK q2 h3⟩
theorem R.imF (r : R K ec δ σ I as H) : ∀ {s : List (Str × SV)} {d : List (Str × D)} {v : List (Str × V)}, Fx.imF δ.ce s = some d → RVF K I as s v → RepF K I d v
  | [], _, _, e, h => by cases e; exact h
  | (k, s) :: ss, d, v, e, ⟨u, w, h1, h2, h3⟩ => by
    simp only [Fx.imF] at e
    cases q1 : Fx.imS δ.ce s with
    | none => rw [q1] at e; cases e
    | some x =>
      cases q2 : Fx.imF δ.ce ss with
      | none => rw [q1, q2] at e; cases e
      | some xs =>
        rw [q1, q2] at e
        cases e
        exact ⟨u, w, h1, r.imS q1 h2, r.imF q2 h3⟩
/-- what a cell holds, read off I with the cell's own object put in -/
theorem R.dvAt (r : R K ec δ σ I as H) {c : Nat} {a : Addr} {o : CO} {d : D} (q : δ.ce[c]? = some o) (ha : as[c]? = some a) (e : Fx.dv δ.ce (.cl c) = some d) {J : Hp} (hJ : Same I J) (hJa : ∀ u, o.live = true → H a = some u → J a = some u) : Rep K J d (.ref a) := by
  simp only [Fx.dv] at e
  rw [q] at e
  have z := r.cells c o a q ha
  cases o with
  | fz d' => cases e; exact Rep.mono hJ _ _ z
  | dead => cases e
  | tbl _ => cases e
  | exc _ _ => cases e
  | lst xs =>
    obtain ⟨_, vs, h1, h2⟩ := z
    cases q2 : Fx.imL δ.ce xs with
    | none => simp only [q2] at e; cases e
    | some ds =>
      simp only [q2] at e
      cases e
      exact ⟨a, vs, rfl, hJa _ rfl h1, RepL.mono hJ _ _ (r.imL q2 h2)⟩
  | tup xs =>
    obtain ⟨_, vs, h1, h2⟩ := z
    cases q2 : Fx.imL δ.ce xs with
    | none => simp only [q2] at e; cases e
    | some ds =>
      simp only [q2] at e
      cases e
      exact ⟨a, vs, rfl, SqT.of (hJa _ rfl h1), RepL.mono hJ _ _ (r.imL q2 h2)⟩
  | dic kvs =>
    obtain ⟨_, vs, h1, h2⟩ := z
    cases q2 : Fx.imK δ.ce kvs with
    | none => simp only [q2] at e; cases e
    | some ds =>
      simp only [q2] at e
      cases e
      exact ⟨a, vs, rfl, Rd.of (hJa _ rfl h1), RepK.mono hJ _ _ (r.imK q2 h2)⟩
  | ins C fs =>
    obtain ⟨_, dx, vs, h1, h2⟩ := z
    cases q2 : Fx.imF δ.ce fs with
    | none => simp only [q2] at e; cases e
    | some ds =>
      simp only [q2] at e
      cases e
      exact ⟨a, dx, vs, rfl, hJa _ rfl h1, RepF.mono hJ _ _ (r.imF q2 h2)⟩
theorem R.dv (r : R K ec δ σ I as H) : ∀ {s : SV} {d : D} {v : V}, Fx.dv δ.ce s = some d → RV K I as s v → Rep K H d v
  | .no, _, _, e, _ => by cases e
  | .im d, _, _, e, h => by cases e; exact Rep.mono r.ih _ _ h
  | .cl c, d, v, e, ⟨a, ha, hv⟩ => by
    subst hv
    cases q : δ.ce[c]? with
    | none => simp only [Fx.dv] at e; rw [q] at e; cases e
    | some o => exact r.dvAt q ha e r.ih fun _ _ h => h
/-- a list that is read: its items are data -/
theorem R.dvL (r : R K ec δ σ I as H) : ∀ {s : SV} {ds : List D} {v : V}, Fx.dv δ.ce s = some (.lst ds) → RV K I as s v → ∃ a vs, v = .ref a ∧ H a = some (.lst vs) ∧ RepL K I ds vs
  | .no, _, _, e, _ => by cases e
  | .im d, _, _, e, h => by cases e; obtain ⟨a, vs, h1, h2, h3⟩ := h; exact ⟨a, vs, h1, r.ih _ _ h2, h3⟩
  | .cl c, ds, v, e, ⟨a, ha, hv⟩ => by
    subst hv
    simp only [Fx.dv] at e
    cases q : δ.ce[c]? with
    | none => rw [q] at e; cases e
    | some o =>
      rw [q] at e
      have z := r.cells c o a q ha
      cases o with
      | fz d' => cases e; obtain ⟨b, vs, h1, h2, h3⟩ := (show Rep K I (.lst ds) (.ref a) from z); cases h1; exact ⟨a, vs, rfl, r.ih _ _ h2, h3⟩
      | lst xs =>
        obtain ⟨_, vs, h1, h2⟩ := z
        cases q2 : Fx.imL δ.ce xs with
        | none => simp only [q2] at e; cases e
        | some ds' => simp only [q2] at e; cases e; exact ⟨a, vs, rfl, h1, r.imL q2 h2⟩
      | tup xs => simp only [Option.map_eq_some_iff] at e; obtain ⟨_, _, e⟩ := e; cases e
      | dic xs => simp only [Option.map_eq_some_iff] at e; obtain ⟨_, _, e⟩ := e; cases e
      | ins C xs => simp only [Option.map_eq_some_iff] at e; obtain ⟨_, _, e⟩ := e; cases e
      | _ => cases e
theorem R.dvK (r : R K ec δ σ I as H) : ∀ {s : SV} {ds : List (Key × D)} {v : V}, Fx.dv δ.ce s = some (.dic ds) → RV K I as s v → ∃ a vs, v = .ref a ∧ Rd H a (.dK vs) ∧ RepK K I ds vs
  | .no, _, _, e, _ => by cases e
  | .im d, _, _, e, h => by cases e; obtain ⟨a, vs, h1, h2, h3⟩ := h; exact ⟨a, vs, h1, same_rd r.ih h2, h3⟩
  | .cl c, ds, v, e, ⟨a, ha, hv⟩ => by
    subst hv
    simp only [Fx.dv] at e
    cases q : δ.ce[c]? with
    | none => rw [q] at e; cases e
    | some o =>
      rw [q] at e
      have z := r.cells c o a q ha
      cases o with
      | fz d' => cases e; obtain ⟨b, vs, h1, h2, h3⟩ := (show Rep K I (.dic ds) (.ref a) from z); cases h1; exact ⟨a, vs, rfl, same_rd r.ih h2, h3⟩
      | dic xs =>
        obtain ⟨_, vs, h1, h2⟩ := z
        cases q2 : Fx.imK δ.ce xs with
        | none => simp only [q2] at e; cases e
        | some ds' => simp only [q2] at e; cases e; exact ⟨a, vs, rfl, Rd.of h1, r.imK q2 h2⟩
      | lst xs => simp only [Option.map_eq_some_iff] at e; obtain ⟨_, _, e⟩ := e; cases e
      | tup xs => simp only [Option.map_eq_some_iff] at e; obtain ⟨_, _, e⟩ := e; cases e
      | ins C xs => simp only [Option.map_eq_some_iff] at e; obtain ⟨_, _, e⟩ := e; cases e
      | _ => cases e
theorem get_of_lt {α : Type} {l : List α} {c : Nat} (h : c < l.length) : ∃ x, l[c]? = some x := ⟨l[c], List.getElem?_eq_getElem h⟩
theorem lt_of_get {α : Type} {l : List α} {c : Nat} {x : α} (h : l[c]? = some x) : c < l.length := (List.getElem?_eq_some_iff.mp h).1
theorem R.adr (r : R K ec δ σ I as H) {c : Nat} {o : CO} (q : δ.ce[c]? = some o) : ∃ a, as[c]? = some a := get_of_lt (by rw [r.clen]; exact lt_of_get q)
theorem same_upd {I : Hp} {a : Addr} {o : HO} (h : I a = none) : Same I (upd I a o) := fun b u e => by
  rw [upd_ne (ne_of_none e h)]; exact e
theorem none_back {I H : Hp} (e : Same I H) {p : Addr} (h : H p = none) : I p = none := by
  cases q : I p with
  | none => rfl
  | some o => rw [e p o q] at h; cases h
theorem CellOk.mono {I' : Hp} {as' : List Addr} {H' : Hp} {a : Addr} : ∀ {o : CO}, CellOk K ec I as H a o → Le I as I' as' → (o.live = true → I' a = none) → (o.live = true → ∀ u, H a = some u → H' a = some u) → CellOk K ec I' as' H' a o
  | .lst xs, ⟨_, vs, h2, h3⟩, e, n, k => ⟨n rfl, vs, k rfl _ h2, h3.mono e⟩
  | .tup xs, ⟨_, vs, h2, h3⟩, e, n, k => ⟨n rfl, vs, k rfl _ h2, h3.mono e⟩
  | .dic xs, ⟨_, vs, h2, h3⟩, e, n, k => ⟨n rfl, vs, k rfl _ h2, h3.mono e⟩
  | .ins C xs, ⟨_, dx, vs, h2, h3⟩, e, n, k => ⟨n rfl, dx, vs, k rfl _ h2, h3.mono e⟩
  | .exc _ _, ⟨d, h1, h2⟩, e, _, _ => ⟨d, h1, h2.mono e⟩
  | .fz d, h, e, _, _ => Rep.mono e.i _ _ h
  | .dead, _, _, _, _ => trivial
  | .tbl q, ⟨g, _, ps, h2, h3⟩, e, n, k => ⟨g, n rfl, ps, k rfl _ h2, h3.mono e.i⟩
theorem R.none_fr {p : Addr} (r : R K ec δ σ I as H) (h : H p = none) : ec.fr p = none := by
  cases q : ec.fr p with
  | none => rfl
  | some w =>
    obtain ⟨u, hu⟩ := (r.fh p w q).live
    rw [h] at hu
    cases hu
theorem CellOk.free {a : Addr} : ∀ {o : CO}, o.live = true → CellOk K ec I as H a o → I a = none ∧ ∃ u, H a = some u
  | .lst xs, _, ⟨h, _, h2, _⟩ => ⟨h, _, h2⟩
  | .tup xs, _, ⟨h, _, h2, _⟩ => ⟨h, _, h2⟩
  | .dic xs, _, ⟨h, _, h2, _⟩ => ⟨h, _, h2⟩
  | .ins C xs, _, ⟨h, _, _, h2, _⟩ => ⟨h, _, h2⟩
  | .exc _ _, l, _ => by cases l
  | .fz d, l, _ => by cases l
  | .dead, l, _ => by cases l
  | .tbl q, _, ⟨_, h, _, h2, _⟩ => ⟨h, _, h2⟩
theorem CellOk.notC {a : Addr} {u : HO} : ∀ {o : CO}, o.live = true → CellOk K ec I as H a o → H a = some u → ∀ c q, u ≠ LamX.CodeO c q
  | .lst xs, _, ⟨_, _, h2, _⟩, e, c, q, z => by rw [h2] at e; cases e; cases z
  | .tup xs, _, ⟨_, _, h2, _⟩, e, c, q, z => by rw [h2] at e; cases e; cases z
  | .dic xs, _, ⟨_, _, h2, _⟩, e, c, q, z => by rw [h2] at e; cases e; cases z
  | .ins C xs, _, ⟨_, _, _, h2, _⟩, e, c, q, z => by rw [h2] at e; cases e; cases z
  | .tbl _, _, ⟨_, _, _, h2, _⟩, e, c, q, z => by rw [h2] at e; cases e; cases z
  | .exc _ _, l, _, _, _, _, _ => by cases l
  | .fz d, l, _, _, _, _, _ => by cases l
  | .dead, l, _, _, _, _, _ => by cases l
theorem CellOk.notT {a : Addr} {u : HO} : ∀ {o : CO}, o.live = true → (∀ q, o ≠ .tbl q) → CellOk K ec I as H a o → H a = some u → ∀ ps, u ≠ .tbl ps
  | .lst xs, _, _, ⟨_, _, h2, _⟩, e, c, z => by rw [h2] at e; cases e; cases z
  | .tup xs, _, _, ⟨_, _, h2, _⟩, e, c, z => by rw [h2] at e; cases e; cases z
  | .dic xs, _, _, ⟨_, _, h2, _⟩, e, c, z => by rw [h2] at e; cases e; cases z
  | .ins C xs, _, _, ⟨_, _, _, h2, _⟩, e, c, z => by rw [h2] at e; cases e; cases z
  | .tbl q, _, t, _, _, _, _ => (t q rfl).elim
  | .exc _ _, l, _, _, _, _, _ => by cases l
  | .fz d, l, _, _, _, _, _ => by cases l
  | .dead, l, _, _, _, _, _ => by cases l
/-- some cells become data: J is I with their objects -/
theorem R.lockS (r : R K ec δ σ I as H) (T : Nat → Prop) {J : Hp} (hJt : ∀ (b : Addr) (ps : Array Value), J b ≠ some (.tbl ps)) (hJ : Same I J) (hJH : Same J H) (hJ2 : ∀ b u, J b = some u → I b = some u ∨ ∃ c o, T c ∧ δ.ce[c]? = some o ∧ o.live = true ∧ as[c]? = some b) {new : List CO} (hlen : new.length = δ.ce.length)
    (hnew : ∀ c o', new[c]? = some o' → (¬ T c ∧ δ.ce[c]? = some o') ∨ (o'.live = false ∧ ∀ a, as[c]? = some a → CellOk K ec J as H a o')) : R K ec ⟨δ.sl, new⟩ σ J as H ∧ Le I as J as := by
  have le : Le I as J as := ⟨hJ, fun _ _ h => h⟩
  refine ⟨⟨fun b w h => (r.fh b w h).mono hJ fun _ h => h, fun c o a h1 h2 l => ?_, fun a u h => ?_, hJH, r.len, fun i s h => ?_, by rw [r.clen, hlen], fun c o a h1 h2 => ?_, fun c1 c2 o1 o2 a1 h1 h2 l1 l2 h3 h4 => ?_, hJt⟩, le⟩
  · rcases hnew c o h1 with ⟨_, g⟩ | ⟨g, _⟩
    · exact r.cf c o a g h2 l
    · rw [g] at l; cases l
  · cases q : J a with
    | none => rfl
    | some w =>
      rcases hJ2 a w q with q' | ⟨c, o, _, g, l, q'⟩
      · rw [r.fi a u h] at q'; cases q'
      · rw [r.cf c o a g q' l] at h; cases h
  · rcases r.slots i s h with h | ⟨v, h1, h2⟩
    · exact .inl h
    · exact .inr ⟨v, h1, h2.mono le⟩
  · rcases hnew c o h1 with ⟨nt, g⟩ | ⟨_, g⟩
    · have z := r.cells c o a g h2
      refine z.mono le (fun l => ?_) fun _ _ h => h
      cases q : J a with
      | none => rfl
      | some u =>
        rcases hJ2 a u q with q' | ⟨c', o', t, g', l', q'⟩
        · rw [(z.free l).1] at q'; cases q'
        · exact absurd (r.inj c c' o o' a g g' l l' h2 q' ▸ t) nt
    · exact g a h2
  · rcases hnew c1 o1 h1 with ⟨_, g1⟩ | ⟨g1, _⟩
    · rcases hnew c2 o2 h2 with ⟨_, g2⟩ | ⟨g2, _⟩
      · exact r.inj c1 c2 o1 o2 a1 g1 g2 l1 l2 h3 h4
      · rw [g2] at l2; cases l2
    · rw [g1] at l1; cases l1
theorem R.freeze (r : R K ec δ σ I as H) {c : Nat} {d : D} (e : Fx.dv δ.ce (.cl c) = some d) :
    ∃ I', R K ec { δ with ce := δ.ce.set c (.fz d) } σ I' as H ∧ Le I as I' as := by
  cases q : δ.ce[c]? with
  | none => simp only [Fx.dv] at e; rw [q] at e; cases e
  | some o =>
    obtain ⟨a, ha⟩ := r.adr q
    have hc : c < δ.ce.length := lt_of_get q
    have get : ∀ c' o', (δ.ce.set c (.fz d))[c']? = some o' → (c' ≠ c ∧ δ.ce[c']? = some o') ∨ (c' = c ∧ o' = .fz d) := fun c' o' h => by
      by_cases hcc : c' = c
      · subst hcc; rw [List.getElem?_set_self hc] at h; exact .inr ⟨rfl, (Option.some.inj h).symm⟩
      · rw [List.getElem?_set_ne (Ne.symm hcc)] at h; exact .inl ⟨hcc, h⟩
    by_cases hl : o.live = true
    · have z := r.cells c o a q ha
      obtain ⟨hn, u, hu⟩ := z.free hl
      have hut : ∀ ps, u ≠ .tbl ps := fun ps eu => by
        subst eu
        cases o with
        | lst _ => obtain ⟨_, _, y, _⟩ := z; rw [hu] at y; cases y
        | tup _ => obtain ⟨_, _, y, _⟩ := z; rw [hu] at y; cases y
        | dic _ => obtain ⟨_, _, y, _⟩ := z; rw [hu] at y; cases y
        | ins _ _ => obtain ⟨_, _, _, y, _⟩ := z; rw [hu] at y; cases y
        | tbl _ => simp only [Fx.dv] at e; rw [q] at e; cases e
        | fz _ => cases hl
        | exc _ _ => cases hl
        | dead => cases hl
      refine ⟨upd I a u, r.lockS (fun c' => c' = c) (it_upd r.it hut) (same_upd hn) (fun b w h => ?_) (fun b w h => ?_) (by simp) fun c' o' h => ?_⟩
      · by_cases hb : b = a
        · subst hb; rw [upd_same] at h; cases h; exact hu
        · rw [upd_ne hb] at h; exact r.ih b w h
      · by_cases hb : b = a
        · subst hb; exact .inr ⟨c, o, rfl, q, hl, ha⟩
        · rw [upd_ne hb] at h; exact .inl h
      · rcases get c' o' h with h | ⟨rfl, rfl⟩
        · exact .inl h
        · refine .inr ⟨rfl, fun a' ha' => ?_⟩
          rw [ha] at ha'; cases ha'
          exact r.dvAt q ha e (same_upd hn) fun w _ hw => by rw [upd_same]; rw [← hw]; exact hu.symm
    · refine ⟨I, r.lockS (fun c' => c' = c) r.it (Same.refl I) r.ih (fun b w h => .inl h) (by simp) fun c' o' h => ?_⟩
      rcases get c' o' h with h | ⟨rfl, rfl⟩
      · exact .inl h
      · refine .inr ⟨rfl, fun a' ha' => ?_⟩
        rw [ha] at ha'; cases ha'
        exact r.dvAt q ha e (Same.refl I) fun w l _ => absurd l hl
theorem findT_ok {ce : List CO} {c t : Nat} : ∀ {fs : List (Str × SV)}, findT ce c fs = some t → ce[t]? = some (.tup [.cl c])
  | [], h => by cases h
  | (_, .no) :: ss, h => findT_ok (fs := ss) h
  | (_, .im d) :: ss, h => findT_ok (fs := ss) h
  | (k, .cl t') :: ss, h => by
    simp only [findT] at h
    split at h
    · rename_i c' q
      split at h
      · rename_i e; cases h; rw [q, e]
      · exact findT_ok (fs := ss) h
    · exact findT_ok (fs := ss) h
theorem R.imFS (r : R K ec δ σ I as H) {t : Nat} {p a : Addr} {J : Hp} (hJ : Same I J) (ht : as[t]? = some p) (hp : SqT K J p [.ref a]) : ∀ {fs : List (Str × SV)} {ds : List (Str × D)} {vs : List (Str × V)}, Fx.imFS δ.ce t fs = some ds → RVF K I as fs vs → RepS K J a ds vs
  | [], _, _, e, h => by cases e; exact h
  | (k, s) :: ss, d, v, e, ⟨u, w, h1, h2, h3⟩ => by
    simp only [Fx.imFS] at e
    cases q2 : Fx.imFS δ.ce t ss with
    | none =>
      rw [q2] at e
      split at e
      · rename_i z; cases z
      · cases e
    | some xs =>
      rw [q2] at e
      cases s with
      | no => cases h2
      | im d' =>
        simp only [Fx.imS] at e
        cases e
        exact ⟨u, w, h1, .inr (Rep.mono hJ _ _ h2), r.imFS hJ ht hp q2 h3⟩
      | cl c =>
        by_cases hc : c = t
        · simp only [hc, if_pos] at e
          cases e
          obtain ⟨b, hb, rfl⟩ := h2
          rw [hc, ht] at hb; cases hb
          exact ⟨_, w, h1, .inl ⟨rfl, p, rfl, hp⟩, r.imFS hJ ht hp q2 h3⟩
        · simp only [if_neg hc] at e
          cases q1 : Fx.imS δ.ce (.cl c) with
          | none => rw [q1] at e; cases e
          | some d' =>
            rw [q1] at e
            cases e
            exact ⟨u, w, h1, .inr (Rep.mono hJ _ _ (r.imS q1 h2)), r.imFS hJ ht hp q2 h3⟩
theorem R.frz (r : R K ec δ σ I as H) {c : Nat} {d : D} {ce' : List CO} (e : Fx.frz δ.ce c = some (d, ce')) : ∃ I', R K ec ⟨δ.sl, ce'⟩ σ I' as H ∧ Le I as I' as ∧ ∀ a, as[c]? = some a → Rep K I' d (.ref a) := by
  unfold Fx.frz at e
  cases q : Fx.dv δ.ce (.cl c) with
  | some d' =>
    rw [q] at e
    cases e
    obtain ⟨I', r', l⟩ := r.freeze q
    refine ⟨I', r', l, fun a ha => ?_⟩
    have hc : c < δ.ce.length := by rw [← r.clen]; exact lt_of_get ha
    exact r'.cells c (.fz d) a (List.getElem?_set_self hc) ha
  | none =>
    rw [q] at e
    dsimp only at e
    split at e
    · rename_i C fs qi
      split at e
      · rename_i t qt
        split at e
        · cases e
        · rename_i hne
          rw [Option.map_eq_some_iff] at e
          obtain ⟨ds, q3, e⟩ := e
          cases e
          have qtt := findT_ok qt
          obtain ⟨a, ha⟩ := r.adr qi
          obtain ⟨p, hp⟩ := r.adr qtt
          obtain ⟨hna, dx, vs, hha, rf⟩ := r.cells c _ a qi ha
          obtain ⟨hnp, ws, hhp, rl⟩ := r.cells t _ p qtt hp
          obtain ⟨w, _, rfl, ⟨b, hb, rfl⟩, rfl⟩ := rl
          rw [ha] at hb; cases hb
          have hpa : p ≠ a := fun z => hne (r.inj t c _ _ a qtt qi rfl rfl (z ▸ hp) ha)
          have s1 : Same I (upd I p (.tup [.ref a])) := same_upd hnp
          have hna' : upd I p (.tup [.ref a]) a = none := by rw [upd_ne (Ne.symm hpa)]; exact hna
          have s2 := s1.trans (same_upd (o := .ins (He.ga K C) dx vs) hna')
          have hc : c < δ.ce.length := lt_of_get qi
          have htl : t < δ.ce.length := lt_of_get qtt
          have hJp : upd (upd I p (.tup [.ref a])) a (.ins (He.ga K C) dx vs) p = some (.tup [.ref a]) := by rw [upd_ne hpa, upd_same]
          have rep : Rep K (upd (upd I p (.tup [.ref a])) a (.ins (He.ga K C) dx vs)) (.slf C ds) (.ref a) := ⟨a, dx, vs, rfl, upd_same, r.imFS s2 hp (SqT.of hJp) q3 rf⟩
          have key : R K ec ⟨δ.sl, (δ.ce.set c (.fz (.slf C ds))).set t .dead⟩ σ (upd (upd I p (.tup [.ref a])) a (.ins (He.ga K C) dx vs)) as H ∧ Le I as (upd (upd I p (.tup [.ref a])) a (.ins (He.ga K C) dx vs)) as := by
            refine r.lockS (fun c' => c' = c ∨ c' = t) (it_upd (it_upd r.it fun _ z => by cases z) fun _ z => by cases z) s2 (fun b w h => ?_) (fun b w h => ?_) (by simp) fun c' o' h => ?_
            · by_cases hb : b = a
              · subst hb; rw [upd_same] at h; cases h; exact hha
              · rw [upd_ne hb] at h
                by_cases hb2 : b = p
                · subst hb2; rw [upd_same] at h; cases h; exact hhp
                · rw [upd_ne hb2] at h; exact r.ih b w h
            · by_cases hb : b = a
              · subst hb; exact .inr ⟨c, _, .inl rfl, qi, rfl, ha⟩
              · rw [upd_ne hb] at h
                by_cases hb2 : b = p
                · subst hb2; exact .inr ⟨t, _, .inr rfl, qtt, rfl, hp⟩
                · rw [upd_ne hb2] at h; exact .inl h
            · by_cases h1 : c' = t
              · subst h1
                rw [List.getElem?_set_self (by simpa using htl)] at h
                cases h
                exact .inr ⟨rfl, fun _ _ => trivial⟩
              · rw [List.getElem?_set_ne (Ne.symm h1)] at h
                by_cases h2 : c' = c
                · subst h2
                  rw [List.getElem?_set_self hc] at h
                  cases h
                  refine .inr ⟨rfl, fun a' ha' => ?_⟩
                  rw [ha] at ha'; cases ha'
                  exact rep
                · rw [List.getElem?_set_ne (Ne.symm h2)] at h
                  exact .inl ⟨fun z => z.elim h2 h1, h⟩
          refine ⟨_, key.1, key.2, fun a' ha' => ?_⟩
          rw [ha] at ha'; cases ha'
          exact rep
      · cases e
    · cases e
theorem getElem?_snoc_lt {α : Type} {l : List α} {x : α} {c : Nat} {y : α} (h : l[c]? = some y) : (l ++ [x])[c]? = some y := by
  have : c < l.length := lt_of_get h
  rw [List.getElem?_append_left this]; exact h
/-- a new frozen object -/
theorem R.newF (r : R K ec δ σ I as H) {p : Addr} {o : HO} (hp : H p = none) (ho : ∀ ps, o ≠ .tbl ps := by intro _ z; cases z) : R K ec δ σ (upd I p o) as (upd H p o) ∧ Le I as (upd I p o) as := by
  have hn := none_back r.ih hp
  have le : Le I as (upd I p o) as := ⟨same_upd hn, fun _ _ h => h⟩
  refine ⟨⟨fun b w h => ?_, r.cf, fun b w h => ?_, fun b w h => ?_, r.len, fun i s h => ?_, r.clen, fun c' o' a' h1 h2 => ?_, r.inj, it_upd r.it ho⟩, le⟩
  · exact (r.fh b w h).upd ((r.fh b w h).ne hp) le.i
  · rw [upd_ne ((r.fh b w h).ne hp)]; exact r.fi b w h
  · by_cases hb : b = p
    · subst hb; rw [upd_same] at h ⊢; exact h
    · rw [upd_ne hb] at h ⊢; exact r.ih b w h
  · rcases r.slots i s h with h | ⟨v, h1, h2⟩
    · exact .inl h
    · exact .inr ⟨v, h1, h2.mono le⟩
  · have z := r.cells c' o' a' h1 h2
    refine z.mono le (fun l => ?_) fun l u hu => ?_
    · obtain ⟨n, u, hu⟩ := z.free l
      rw [upd_ne (ne_of_none hu hp)]; exact n
    · rw [upd_ne (ne_of_none hu hp)]; exact hu
/-- a new cell -/
theorem R.newC (r : R K ec δ σ I as H) {p : Addr} {o : HO} {co : CO} (hp : H p = none) (hc : CellOk K ec I as (upd H p o) p co) (hl : co.live = true) :
    R K ec { δ with ce := δ.ce ++ [co] } σ I (as ++ [p]) (upd H p o) ∧ Le I as I (as ++ [p]) := by
  have le : Le I as I (as ++ [p]) := ⟨Same.refl I, fun _ _ h => getElem?_snoc_lt h⟩
  have hn := none_back r.ih hp
  have hlen : as.length = δ.ce.length := r.clen
  have cut : ∀ (c : Nat) (o' : CO) (a' : Addr), (δ.ce ++ [co])[c]? = some o' → (as ++ [p])[c]? = some a' → (δ.ce[c]? = some o' ∧ as[c]? = some a') ∨ (c = δ.ce.length ∧ o' = co ∧ a' = p) := fun c o' a' h1 h2 => by
    by_cases hcc : c < δ.ce.length
    · rw [List.getElem?_append_left hcc] at h1
      rw [List.getElem?_append_left (by omega)] at h2
      exact .inl ⟨h1, h2⟩
    · have hlt : c < (δ.ce ++ [co]).length := lt_of_get h1
      simp at hlt
      have : c = δ.ce.length := by omega
      subst this
      simp at h1
      rw [← hlen] at h2
      simp at h2
      exact .inr ⟨rfl, h1.symm, h2.symm⟩
  refine ⟨⟨fun b w h => ?_, fun c' o' a' h1 h2 l' => ?_, r.fi, fun b w h => ?_, r.len, fun i s h => ?_, by simp [hlen], fun c' o' a' h1 h2 => ?_, fun c1 c2 o1 o2 a1 h1 h2 l1 l2 h3 h4 => ?_, r.it⟩, le⟩
  · exact (r.fh b w h).upd ((r.fh b w h).ne hp) fun _ _ h => h
  · rcases cut c' o' a' h1 h2 with ⟨g1, g2⟩ | ⟨_, _, z⟩
    · exact r.cf c' o' a' g1 g2 l'
    · rw [z]; exact r.none_fr hp
  · rw [upd_ne (ne_of_none h hn)]; exact r.ih b w h
  · rcases r.slots i s h with h | ⟨v, h1, h2⟩
    · exact .inl h
    · exact .inr ⟨v, h1, h2.mono le⟩
  · rcases cut c' o' a' h1 h2 with ⟨h1, h2⟩ | ⟨_, rfl, rfl⟩
    · have z := r.cells c' o' a' h1 h2
      refine z.mono le (fun l => (z.free l).1) fun l u hu => ?_
      rw [upd_ne (ne_of_none hu hp)]; exact hu
    · exact hc.mono le (fun _ => hn) fun _ _ h => h
  · rcases cut c1 o1 a1 h1 h3 with ⟨g1, g3⟩ | ⟨e1, _, z1⟩
    · rcases cut c2 o2 a1 h2 h4 with ⟨g2, g4⟩ | ⟨e2, _, z2⟩
      · exact r.inj c1 c2 o1 o2 a1 g1 g2 l1 l2 g3 g4
      · obtain ⟨_, u, hu⟩ := (r.cells c1 o1 a1 g1 g3).free l1
        rw [z2, hp] at hu; cases hu
    · rcases cut c2 o2 a1 h2 h4 with ⟨g2, g4⟩ | ⟨e2, _, _⟩
      · obtain ⟨_, u, hu⟩ := (r.cells c2 o2 a1 g2 g4).free l2
        rw [z1, hp] at hu; cases hu
      · exact e1.trans e2.symm
/-- a cell is written -/
theorem R.setC (r : R K ec δ σ I as H) {c : Nat} {o co : CO} {a : Addr} {u : HO} (q : δ.ce[c]? = some o) (hl : o.live = true) (ha : as[c]? = some a) (hc : CellOk K ec I as (upd H a u) a co) (hl' : co.live = true) :
    R K ec { δ with ce := δ.ce.set c co } σ I as (upd H a u) := by
  have z := r.cells c o a q ha
  obtain ⟨hn, w0, hw0⟩ := z.free hl
  have hlt : c < δ.ce.length := lt_of_get q
  refine ⟨fun b w h => ?_, fun c' o' a' h1 h2 l' => ?_, r.fi, fun b w h => ?_, r.len, r.slots, by simp [r.clen], fun c' o' a' h1 h2 => ?_, fun c1 c2 o1 o2 a1 h1 h2 l1 l2 h3 h4 => ?_, r.it⟩
  · exact (r.fh b w h).upd (ne_fr h (r.cf c o a q ha hl)) fun _ _ h => h
  · by_cases hcc : c' = c
    · subst hcc; exact r.cf c' o a' q h2 hl
    · simp only [List.getElem?_set_ne (Ne.symm hcc)] at h1
      exact r.cf c' o' a' h1 h2 l'
  · rw [upd_ne (ne_of_none h hn)]; exact r.ih b w h
  · by_cases hcc : c' = c
    · subst hcc
      simp only [List.getElem?_set_self hlt] at h1
      cases h1
      rw [ha] at h2; cases h2
      exact hc
    · simp only [List.getElem?_set_ne (Ne.symm hcc)] at h1
      have z' := r.cells c' o' a' h1 h2
      refine z'.mono (Le.refl I as) (fun l => (z'.free l).1) fun l w hw => ?_
      have ne : a' ≠ a := fun ea => hcc (r.inj c' c o' o a' h1 q l hl h2 (ea ▸ ha))
      rw [upd_ne ne]; exact hw
  · have g : ∀ (c1 : Nat) (o1 : CO), (δ.ce.set c co)[c1]? = some o1 → o1.live = true → ∃ o1', δ.ce[c1]? = some o1' ∧ o1'.live = true := fun c1 o1 h1 l1 => by
      by_cases hcc : c1 = c
      · subst hcc; exact ⟨o, q, hl⟩
      · simp only [List.getElem?_set_ne (Ne.symm hcc)] at h1; exact ⟨o1, h1, l1⟩
    obtain ⟨p1, g1, k1⟩ := g c1 o1 h1 l1
    obtain ⟨p2, g2, k2⟩ := g c2 o2 h2 l2
    exact r.inj c1 c2 p1 p2 a1 g1 g2 k1 k2 h3 h4
/-- a name is stored -/
theorem R.store (r : R K ec δ σ I as H) {i : Nat} {s : SV} {v : V} (h : RV K I as s v) : R K ec { δ with sl := δ.sl.set i s } (σ.set i (some v)) I as H := by
  refine ⟨r.fh, r.cf, r.fi, r.ih, by simp [r.len], fun j t hj => ?_, r.clen, r.cells, r.inj, r.it⟩
  by_cases hij : j = i
  · subst hij
    by_cases hlt : j < δ.sl.length
    · simp only [List.getElem?_set_self hlt] at hj
      cases hj
      exact .inr ⟨v, List.getElem?_set_self (by rw [r.len]; exact hlt), h⟩
    · have hj' : j < (δ.sl.set j s).length := lt_of_get hj
      simp at hj'
      exact absurd hj' hlt
  · simp only [List.getElem?_set_ne (Ne.symm hij)] at hj
    rcases r.slots j t hj with h | ⟨w, h1, h2⟩
    · exact .inl h
    · exact .inr ⟨w, by rw [List.getElem?_set_ne (Ne.symm hij)]; exact h1, h2⟩
/-- other slots -/
theorem R.reslot {sl : List SV} {ce : List CO} {σ σ' : L2.St} {I' : Hp} {as' : List Addr} {H' : Hp} (r' : R K ec ⟨sl, ce⟩ σ' I' as' H') (r : R K ec δ σ I as H) (l : Le I as I' as') : R K ec ⟨δ.sl, ce⟩ σ I' as' H' :=
  ⟨r'.fh, r'.cf, r'.fi, r'.ih, r.len, fun i s h => by
    rcases r.slots i s h with z | ⟨v, z1, z2⟩
    · exact .inl z
    · exact .inr ⟨v, z1, z2.mono l⟩, r'.clen, r'.cells, r'.inj, r'.it⟩
theorem R.bare (r : R K ec δ σ I as H) : R K ec ⟨[], δ.ce⟩ [] I as H := ⟨r.fh, r.cf, r.fi, r.ih, rfl, fun i s h => by simp at h, r.clen, r.cells, r.inj, r.it⟩
end
/-! ## cells at the end dropped -/
def SV.bnd (n : Nat) : SV → Bool
  | .cl c => decide (c < n)
  | _ => true
def CO.bnd (n : Nat) : CO → Bool
  | .lst xs => xs.all (SV.bnd n)
  | .tup xs => xs.all (SV.bnd n)
  | .dic kvs => kvs.all fun p => p.2.bnd n
  | .ins _ fs => fs.all fun p => p.2.bnd n
  | .exc _ fs => fs.all fun p => p.2.bnd n
  | _ => true
def cutS (k : Nat) : SV → SV
  | .cl c => if c < k then .cl c else .no
  | s => s
section
variable {K : PySem.W.Frag} {ec : EC} {δ : Sta} {σ : L2.St} {I : Hp} {as : List Addr} {H : Hp}
theorem take_get {α : Type} {l : List α} {k c : Nat} {x : α} : (l.take k)[c]? = some x ↔ c < k ∧ l[c]? = some x := by
  rw [List.getElem?_take]
  by_cases h : c < k
  · simp [h]
  · simp [h]
theorem RV.cut {k : Nat} : ∀ {s : SV} {v : V}, s.bnd k = true → RV K I as s v → RV K I (as.take k) s v
  | .no, _, _, h => h
  | .im d, v, _, h => h
  | .cl c, v, b, ⟨a, h1, h2⟩ => ⟨a, take_get.mpr ⟨of_decide_eq_true b, h1⟩, h2⟩
theorem RVL.cut {k : Nat} : ∀ {s : List SV} {v : List V}, s.all (SV.bnd k) = true → RVL K I as s v → RVL K I (as.take k) s v
  | [], _, _, h => h
  | s :: ss, _, b, ⟨v, r, h1, h2, h3⟩ => by
    have b' : (s.bnd k && ss.all (SV.bnd k)) = true := b
    rw [Bool.and_eq_true] at b'
    exact ⟨v, r, h1, h2.cut b'.1, h3.cut b'.2⟩
theorem RVK.cut {k : Nat} : ∀ {s : List (Key × SV)} {v : List (Key × V)}, (s.all fun p => p.2.bnd k) = true → RVK K I as s v → RVK K I (as.take k) s v
  | [], _, _, h => h
  | (_, s) :: ss, _, b, ⟨v, r, h1, h2, h3⟩ => by
    have b' : (s.bnd k && ss.all fun p => p.2.bnd k) = true := b
    rw [Bool.and_eq_true] at b'
    exact ⟨v, r, h1, h2.cut b'.1, h3.cut b'.2⟩
theorem RVF.cut {k : Nat} : ∀ {s : List (Str × SV)} {v : List (Str × V)}, (s.all fun p => p.2.bnd k) = true → RVF K I as s v → RVF K I (as.take k) s v
  | [], _, _, h => h
  | (_, s) :: ss, _, b, ⟨v, r, h1, h2, h3⟩ => by
    have b' : (s.bnd k && ss.all fun p => p.2.bnd k) = true := b
    rw [Bool.and_eq_true] at b'
    exact ⟨v, r, h1, h2.cut b'.1, h3.cut b'.2⟩
theorem XRel.cut {k : Nat} {fs : List (Str × SV)} (hb : (fs.all fun p => p.2.bnd k) = true) : ∀ {d : Option Addr}, XRel K I as fs d → XRel K I (as.take k) fs d
  | none, h => h
  | some _, ⟨vs, h1, h2⟩ => ⟨vs, h1, h2.cut hb⟩
theorem CellOk.cut {k : Nat} {a : Addr} : ∀ {o : CO}, o.bnd k = true → CellOk K ec I as H a o → CellOk K ec I (as.take k) H a o
  | .lst xs, b, ⟨h1, vs, h2, h3⟩ => ⟨h1, vs, h2, h3.cut b⟩
  | .tup xs, b, ⟨h1, vs, h2, h3⟩ => ⟨h1, vs, h2, h3.cut b⟩
  | .dic xs, b, ⟨h1, vs, h2, h3⟩ => ⟨h1, vs, h2, h3.cut b⟩
  | .ins C xs, b, ⟨h1, dx, vs, h2, h3⟩ => ⟨h1, dx, vs, h2, h3.cut b⟩
  | .exc C xs, b, ⟨d, h1, h2⟩ => ⟨d, h1, h2.cut b⟩
  | .fz d, _, h => h
  | .dead, _, _ => trivial
  | .tbl q, _, h => h
theorem R.cut (r : R K ec δ σ I as H) {k : Nat} (hb : (δ.ce.take k).all (CO.bnd k) = true) : R K ec ⟨δ.sl.map (cutS k), δ.ce.take k⟩ σ I (as.take k) H := by
  refine ⟨r.fh, fun c o a h1 h2 l => r.cf c o a (take_get.mp h1).2 (take_get.mp h2).2 l, r.fi, r.ih, by simp [r.len], fun i s h => ?_, by simp [r.clen], fun c o a h1 h2 => ?_, fun c c' o o' a h1 h2 l1 l2 h3 h4 => ?_, r.it⟩
  · have h' : (δ.sl.map (cutS k))[i]? = some s := h
    rw [List.getElem?_map] at h'
    cases q : δ.sl[i]? with
    | none => rw [q] at h'; cases h'
    | some t =>
      rw [q] at h'
      have e : cutS k t = s := Option.some.inj h'
      subst e
      rcases r.slots i t q with z | ⟨v, z1, z2⟩
      · subst z; exact .inl rfl
      · cases t with
        | no => exact .inl rfl
        | im d => exact .inr ⟨v, z1, z2⟩
        | cl c =>
          by_cases hc : c < k
          · right
            refine ⟨v, z1, ?_⟩
            show RV K I (as.take k) (if c < k then .cl c else .no) v
            rw [if_pos hc]
            exact RV.cut (s := .cl c) (decide_eq_true hc) z2
          · left
            show (if c < k then SV.cl c else .no) = .no
            rw [if_neg hc]
  · have bo : o.bnd k = true := List.all_eq_true.mp hb o (List.mem_of_getElem? h1)
    exact (r.cells c o a (take_get.mp h1).2 (take_get.mp h2).2).cut bo
  · exact r.inj c c' o o' a (take_get.mp h1).2 (take_get.mp h2).2 l1 l2 (take_get.mp h3).2 (take_get.mp h4).2
theorem Le.cut {I' : Hp} {as' : List Addr} (l : Le I as I' as') {k : Nat} (hk : as.length ≤ k) : Le I as I' (as'.take k) := ⟨l.i, fun c x h => take_get.mpr ⟨Nat.lt_of_lt_of_le (lt_of_get h) hk, l.a c x h⟩⟩
/-! what R itself bounds -/
theorem RV.bnd : ∀ {s : SV} {v : V}, RV K I as s v → s.bnd as.length = true
  | .no, _, h => rfl
  | .im d, v, h => rfl
  | .cl c, v, ⟨a, h1, h2⟩ => decide_eq_true (lt_of_get h1)
theorem RVL.bnd : ∀ {s : List SV} {v : List V}, RVL K I as s v → s.all (SV.bnd as.length) = true
  | [], _, h => rfl
  | s :: ss, _, ⟨v, r, h1, h2, h3⟩ => by
    show (s.bnd as.length && ss.all (SV.bnd as.length)) = true
    rw [h2.bnd, h3.bnd]; rfl
theorem RVK.bnd : ∀ {s : List (Key × SV)} {v : List (Key × V)}, RVK K I as s v → (s.all fun p => p.2.bnd as.length) = true
  | [], _, h => rfl
  | (k, s) :: ss, _, ⟨v, r, h1, h2, h3⟩ => by
    show (s.bnd as.length && ss.all fun p => p.2.bnd as.length) = true
    rw [h2.bnd, h3.bnd]; rfl
theorem RVF.bnd : ∀ {s : List (Str × SV)} {v : List (Str × V)}, RVF K I as s v → (s.all fun p => p.2.bnd as.length) = true
  | [], _, h => rfl
  | (k, s) :: ss, _, ⟨v, r, h1, h2, h3⟩ => by
    show (s.bnd as.length && ss.all fun p => p.2.bnd as.length) = true
    rw [h2.bnd, h3.bnd]; rfl
theorem CellOk.bnd {a : Addr} : ∀ {o : CO}, CellOk K ec I as H a o → o.bnd as.length = true
  | .lst xs, ⟨h1, vs, h2, h3⟩ => h3.bnd
  | .tup xs, ⟨h1, vs, h2, h3⟩ => h3.bnd
  | .dic xs, ⟨h1, vs, h2, h3⟩ => h3.bnd
  | .ins C xs, ⟨h1, dx, vs, h2, h3⟩ => h3.bnd
  | .exc C xs, ⟨none, h1, h2⟩ => by rw [show xs = [] from h2]; rfl
  | .exc C xs, ⟨some d, h1, vs, h2, h3⟩ => h3.bnd
  | .fz d, _ => rfl
  | .dead, _ => rfl
  | .tbl q, _ => rfl
theorem R.bndAll (r : R K ec δ σ I as H) : δ.ce.all (CO.bnd δ.ce.length) = true := by
  refine List.all_eq_true.mpr fun o ho => ?_
  obtain ⟨c, hc⟩ := List.getElem?_of_mem ho
  obtain ⟨a, ha⟩ := r.adr hc
  have := (r.cells c o a hc ha).bnd
  rw [r.clen] at this; exact this
end
end Fx

set_option Elab.async false
set_option linter.all false
set_option autoImplicit false
set_option maxRecDepth 100000
set_option maxHeartbeats 2000000
namespace Fx
open PySem L2
abbrev W0 : WX := fun _ _ _ _ => False
/-! ## what is wanted behind an expression -/
structure ConE (K : PySem.W.Frag) (ec : EC) (σ : St) (I : Hp) (as : List Addr) (W : WX) (Ψ : SV → Sta → Prop) (Ξ : Xn → Sta → Prop) (Q : VK) : Prop where
  v : ∀ s δ' v I' as' H', R K ec δ' σ I' as' H' → Le I as I' as' → RV K I' as' s v → Ψ s δ' → Q v H'
  x : ∀ (x : Xn) δ' d I' as' H', R K ec δ' σ I' as' H' → Le I as I' as' → XRel K I' as' x.fs d → Ξ x δ' → W (x.cls.v K) d σ H'
def WE (K : PySem.W.Frag) (ec : EC) (W : WX) (te : TE) (Ψ : SV → Sta → Prop) (Ξ : Xn → Sta → Prop) (δ : Sta) : Prop :=
  ∀ (σ : St) (I : Hp) (as : List Addr) (H : Hp) (Q : VK), R K ec δ σ I as H → ConE K ec σ I as W Ψ Ξ Q → te σ H Q
structure ConT (K : PySem.W.Frag) (ec : EC) (σ : St) (I : Hp) (as : List Addr) (W : WX) (Ψ : Bool → Sta → Prop) (Ξ : Xn → Sta → Prop) (Q : Bool → Hp → Prop) : Prop where
  v : ∀ b δ' I' as' H', R K ec δ' σ I' as' H' → Le I as I' as' → Ψ b δ' → Q b H'
  x : ∀ (x : Xn) δ' d I' as' H', R K ec δ' σ I' as' H' → Le I as I' as' → XRel K I' as' x.fs d → Ξ x δ' → W (x.cls.v K) d σ H'
def WT (K : PySem.W.Frag) (ec : EC) (W : WX) (t : TT) (Ψ : Bool → Sta → Prop) (Ξ : Xn → Sta → Prop) (δ : Sta) : Prop :=
  ∀ (σ : St) (I : Hp) (as : List Addr) (H : Hp) (Q : Bool → Hp → Prop), R K ec δ σ I as H → ConT K ec σ I as W Ψ Ξ Q → t σ H Q
structure ConA (K : PySem.W.Frag) (ec : EC) (σ : St) (I : Hp) (as : List Addr) (W : WX) (Ψ : List SV → Sta → Prop) (Ξ : Xn → Sta → Prop) (Q : List V → Hp → Prop) : Prop where
  v : ∀ s δ' v I' as' H', R K ec δ' σ I' as' H' → Le I as I' as' → RVL K I' as' s v → Ψ s δ' → Q v H'
  x : ∀ (x : Xn) δ' d I' as' H', R K ec δ' σ I' as' H' → Le I as I' as' → XRel K I' as' x.fs d → Ξ x δ' → W (x.cls.v K) d σ H'
def WA (K : PySem.W.Frag) (ec : EC) (W : WX) (t : TA) (Ψ : List SV → Sta → Prop) (Ξ : Xn → Sta → Prop) (δ : Sta) : Prop :=
  ∀ (σ : St) (I : Hp) (as : List Addr) (H : Hp) (Q : List V → Hp → Prop), R K ec δ σ I as H → ConA K ec σ I as W Ψ Ξ Q → t σ H Q
structure Post where
  nx : Sta → Prop
  rt : SV → Sta → Prop
  bk : Sta → Prop := fun _ => False
  ct : Sta → Prop := fun _ => False
  ex : Xn → Sta → Prop := fun _ _ => False
structure ConS (K : PySem.W.Frag) (ec : EC) (I : Hp) (as : List Addr) (W : WX) (Φ : Post) (D : Ends) : Prop where
  nx : ∀ δ' σ' I' as' H', R K ec δ' σ' I' as' H' → Le I as I' as' → Φ.nx δ' → D.nx σ' H'
  rt : ∀ s δ' σ' v I' as' H', R K ec δ' σ' I' as' H' → Le I as I' as' → RV K I' as' s v → Φ.rt s δ' → D.rt v H'
  bk : ∀ δ' σ' I' as' H', R K ec δ' σ' I' as' H' → Le I as I' as' → Φ.bk δ' → D.bk σ' H'
  ct : ∀ δ' σ' I' as' H', R K ec δ' σ' I' as' H' → Le I as I' as' → Φ.ct δ' → D.ct σ' H'
  x : ∀ (x : Xn) δ' σ' d I' as' H', R K ec δ' σ' I' as' H' → Le I as I' as' → XRel K I' as' x.fs d → Φ.ex x δ' → W (x.cls.v K) d σ' H'
def WS (K : PySem.W.Frag) (ec : EC) (W : WX) (t : TS) (Φ : Post) (δ : Sta) : Prop :=
  ∀ (σ : St) (I : Hp) (as : List Addr) (H : Hp) (D : Ends), R K ec δ σ I as H → ConS K ec I as W Φ D → t D σ H
section
variable {K : PySem.W.Frag} {ec : EC} {σ : L2.St} {I I1 : Hp} {as as1 : List Addr} {W : WX}
theorem ConE.later {Ψ : SV → Sta → Prop} {Ξ : Xn → Sta → Prop} {Q : VK} (c : ConE K ec σ I as W Ψ Ξ Q) (e : Le I as I1 as1) : ConE K ec σ I1 as1 W Ψ Ξ Q :=
  ⟨fun s δ' v I' as' H' r l => c.v s δ' v I' as' H' r (e.trans l), fun x δ' d I' as' H' r l => c.x x δ' d I' as' H' r (e.trans l)⟩
theorem ConT.later {Ψ : Bool → Sta → Prop} {Ξ : Xn → Sta → Prop} {Q : Bool → Hp → Prop} (c : ConT K ec σ I as W Ψ Ξ Q) (e : Le I as I1 as1) : ConT K ec σ I1 as1 W Ψ Ξ Q :=
  ⟨fun s δ' I' as' H' r l => c.v s δ' I' as' H' r (e.trans l), fun x δ' d I' as' H' r l => c.x x δ' d I' as' H' r (e.trans l)⟩
theorem ConA.later {Ψ : List SV → Sta → Prop} {Ξ : Xn → Sta → Prop} {Q : List V → Hp → Prop} (c : ConA K ec σ I as W Ψ Ξ Q) (e : Le I as I1 as1) : ConA K ec σ I1 as1 W Ψ Ξ Q :=
  ⟨fun s δ' v I' as' H' r l => c.v s δ' v I' as' H' r (e.trans l), fun x δ' d I' as' H' r l => c.x x δ' d I' as' H' r (e.trans l)⟩
theorem ConS.later {Φ : Post} {D : Ends} (c : ConS K ec I as W Φ D) (e : Le I as I1 as1) : ConS K ec I1 as1 W Φ D :=
  ⟨fun δ' σ' I' as' H' r l => c.nx δ' σ' I' as' H' r (e.trans l), fun s δ' σ' v I' as' H' r l => c.rt s δ' σ' v I' as' H' r (e.trans l),
   fun δ' σ' I' as' H' r l => c.bk δ' σ' I' as' H' r (e.trans l), fun δ' σ' I' as' H' r l => c.ct δ' σ' I' as' H' r (e.trans l),
   fun x δ' σ' d I' as' H' r l => c.x x δ' σ' d I' as' H' r (e.trans l)⟩
end


section
variable {K : PySem.W.Frag} {ec : EC} {W : WX} {Ψ : SV → Sta → Prop} {Ξ : Xn → Sta → Prop} {δ : Sta} {ta tb te tx : TE}
/-! ## expressions -/
theorem we_c {v : V} {d : D} (hd : ∀ I, Rep K I d v) (k : Ψ (.im d) δ) : WE K ec W (tC v) Ψ Ξ δ := fun σ I as H Q r c => c.v (.im d) δ v I as H r (Le.refl I as) (hd I) k
theorem we_int {i : Int} (k : Ψ (.im (.int i)) δ) : WE K ec W (tC (.int i)) Ψ Ξ δ := we_c (d := .int i) (fun _ => rfl) k
theorem we_str {x : Str} (k : Ψ (.im (.str x)) δ) : WE K ec W (tC (.str x)) Ψ Ξ δ := we_c (d := .str x) (fun _ => rfl) k
theorem we_bl {b : Bool} (k : Ψ (.im (.bl b)) δ) : WE K ec W (tC (.bl b)) Ψ Ξ δ := we_c (d := .bl b) (fun _ => rfl) k
theorem we_non (k : Ψ (.im .non) δ) : WE K ec W (tC .non) Ψ Ξ δ := we_c (d := .non) (fun _ => rfl) k
theorem we_ty {n : String} (k : Ψ (.im (.ty n)) δ) : WE K ec W (tC (.ty n)) Ψ Ξ δ := we_c (d := .ty n) (fun _ => rfl) k
theorem we_glo {x : Str} (k : Ψ (.im (.glo x)) δ) : WE K ec W (tC (.ref (He.ga K x))) Ψ Ξ δ := we_c (d := .glo x) (fun _ => rfl) k
/-- an operation on values that are come to -/
def OpW (K : PySem.W.Frag) (ec : EC) (r : R2) (s1 s2 : SV) (Ψ : SV → Sta → Prop) (δ : Sta) : Prop :=
  ∀ (σ : L2.St) (I : Hp) (as : List Addr) (H : Hp) (Q : VK) (v w : V), R K ec δ σ I as H → RV K I as s1 v → RV K I as s2 w →
    (∀ s δ' v I' as' H', R K ec δ' σ I' as' H' → Le I as I' as' → RV K I' as' s v → Ψ s δ' → Q v H') → r v w H Q
theorem we_op {r : R2} (h : WE K ec W ta (fun s1 δ1 => WE K ec W tb (fun s2 δ2 => OpW K ec r s1 s2 Ψ δ2) Ξ δ1) Ξ δ) : WE K ec W (tOp r ta tb) Ψ Ξ δ := by
  intro σ I as H Q r c
  refine h σ I as H _ r ⟨fun s1 δ1 v1 I1 as1 H1 r1 l1 rv1 k1 => ?_, c.x⟩
  refine k1 σ I1 as1 H1 _ r1 ⟨fun s2 δ2 v2 I2 as2 H2 r2 l2 rv2 k2 => ?_, (c.later l1).x⟩
  exact k2 σ I2 as2 H2 Q v1 v2 r2 (rv1.mono l2) rv2 ((c.later l1).later l2).v
theorem ow_l {r r' : R2} {s1 s2 : SV} (h : OpW K ec r s1 s2 Ψ δ) : OpW K ec (fun x y H Q => r x y H Q ∨ r' x y H Q) s1 s2 Ψ δ := fun σ I as H Q v w r h1 h2 c => .inl (h σ I as H Q v w r h1 h2 c)
theorem ow_r {r r' : R2} {s1 s2 : SV} (h : OpW K ec r' s1 s2 Ψ δ) : OpW K ec (fun x y H Q => r x y H Q ∨ r' x y H Q) s1 s2 Ψ δ := fun σ I as H Q v w r h1 h2 c => .inr (h σ I as H Q v w r h1 h2 c)
/-- ints -/
theorem ow_i0 {g : Int → Int → V} {s1 s2 : SV} {i j : Int} {d : D} (e1 : dv δ.ce s1 = some (.int i)) (e2 : dv δ.ce s2 = some (.int j)) (hd : ∀ I, Rep K I d (g i j)) (k : Ψ (.im d) δ) : OpW K ec (rI0 g) s1 s2 Ψ δ :=
  fun σ I as H Q v w r h1 h2 c => ⟨i, j, r.dv e1 h1, r.dv e2 h2, c (.im d) δ _ I as H r (Le.refl I as) (hd I) k⟩
theorem ow_i {C : Int → Int → Prop} {g : Int → Int → V} {s1 s2 : SV} {i j : Int} {d : D} (e1 : dv δ.ce s1 = some (.int i)) (e2 : dv δ.ce s2 = some (.int j)) (hd : ∀ I, Rep K I d (g i j)) (hc : C i j) (k : Ψ (.im d) δ) : OpW K ec (rI C g) s1 s2 Ψ δ :=
  fun σ I as H Q v w r h1 h2 c => ⟨i, j, r.dv e1 h1, r.dv e2 h2, hc, c (.im d) δ _ I as H r (Le.refl I as) (hd I) k⟩
theorem ow_add {s1 s2 : SV} {i j : Int} (e1 : dv δ.ce s1 = some (.int i)) (e2 : dv δ.ce s2 = some (.int j)) (k : Ψ (.im (.int (i + j))) δ) : OpW K ec (rI0 fun i j => .int (i + j)) s1 s2 Ψ δ := ow_i0 (d := .int (i + j)) e1 e2 (fun _ => rfl) k
theorem ow_lt {s1 s2 : SV} {i j : Int} (e1 : dv δ.ce s1 = some (.int i)) (e2 : dv δ.ce s2 = some (.int j)) (k : Ψ (.im (.bl (decide (i < j)))) δ) : OpW K ec (rI0 fun i j => .bl (decide (i < j))) s1 s2 Ψ δ := ow_i0 (d := .bl _) e1 e2 (fun _ => rfl) k
theorem ow_gt {s1 s2 : SV} {i j : Int} (e1 : dv δ.ce s1 = some (.int i)) (e2 : dv δ.ce s2 = some (.int j)) (k : Ψ (.im (.bl (decide (j < i)))) δ) : OpW K ec (rI0 fun i j => .bl (decide (j < i))) s1 s2 Ψ δ := ow_i0 (d := .bl _) e1 e2 (fun _ => rfl) k
theorem ow_ge {s1 s2 : SV} {i j : Int} (e1 : dv δ.ce s1 = some (.int i)) (e2 : dv δ.ce s2 = some (.int j)) (k : Ψ (.im (.bl (decide (j ≤ i)))) δ) : OpW K ec (rI0 fun i j => .bl (decide (j ≤ i))) s1 s2 Ψ δ := ow_i0 (d := .bl _) e1 e2 (fun _ => rfl) k
theorem ow_mul {s1 s2 : SV} {i j : Int} (e1 : dv δ.ce s1 = some (.int i)) (e2 : dv δ.ce s2 = some (.int j)) (hc : CMul i j) (k : Ψ (.im (.int (i * j))) δ) : OpW K ec (rI CMul fun i j => .int (i * j)) s1 s2 Ψ δ := ow_i (d := .int (i * j)) e1 e2 (fun _ => rfl) hc k
theorem ow_div {s1 s2 : SV} {i j : Int} (e1 : dv δ.ce s1 = some (.int i)) (e2 : dv δ.ce s2 = some (.int j)) (hc : CDiv i j) (k : Ψ (.im (.int (i / j))) δ) : OpW K ec (rI CDiv fun i j => .int (i / j)) s1 s2 Ψ δ := ow_i (d := .int (i / j)) e1 e2 (fun _ => rfl) hc k
theorem ow_mod {s1 s2 : SV} {i j : Int} (e1 : dv δ.ce s1 = some (.int i)) (e2 : dv δ.ce s2 = some (.int j)) (hc : 0 < j) (k : Ψ (.im (.int (i % j))) δ) : OpW K ec (rI (fun _ j => 0 < j) fun i j => .int (i % j)) s1 s2 Ψ δ := ow_i (d := .int (i % j)) e1 e2 (fun _ => rfl) hc k
theorem ow_pow {s1 s2 : SV} {i j : Int} (e1 : dv δ.ce s1 = some (.int i)) (e2 : dv δ.ce s2 = some (.int j)) (hc : CPow i j) (k : Ψ (.im (.int (i ^ j.toNat))) δ) : OpW K ec (rI CPow fun i j => .int (i ^ j.toNat)) s1 s2 Ψ δ := ow_i (d := .int (i ^ j.toNat)) e1 e2 (fun _ => rfl) hc k
def rAddStr : R2 := fun x y H Q => ∃ i j, x = .str i ∧ y = .str j ∧ i.length + j.length ≤ sizeLine ∧ Q (.str (i ++ j)) H
theorem ow_addS {s1 s2 : SV} {i j : Str} (e1 : dv δ.ce s1 = some (.str i)) (e2 : dv δ.ce s2 = some (.str j)) (hc : i.length + j.length ≤ sizeLine) (k : Ψ (.im (.str (i ++ j))) δ) : OpW K ec rAddStr s1 s2 Ψ δ :=
  fun σ I as H Q v w r h1 h2 c => ⟨i, j, r.dv e1 h1, r.dv e2 h2, hc, c (.im (.str (i ++ j))) δ _ I as H r (Le.refl I as) rfl k⟩
/-- is None -/
def isNon : D → Bool
  | .non => true
  | _ => false
/-- s < t -/
def rLtStr : R2 := fun x y H Q => ∃ i j, x = .str i ∧ y = .str j ∧ Q (.bl (decide (i.cps.toList < j.cps.toList))) H
theorem ow_ltS {s1 s2 : SV} {i j : Str} (e1 : dv δ.ce s1 = some (.str i)) (e2 : dv δ.ce s2 = some (.str j)) (k : Ψ (.im (.bl (decide (i.cps.toList < j.cps.toList)))) δ) : OpW K ec rLtStr s1 s2 Ψ δ :=
  fun σ I as H Q v w r h1 h2 c => ⟨i, j, r.dv e1 h1, r.dv e2 h2, c (.im (.bl _)) δ _ I as H r (Le.refl I as) rfl k⟩

/-! subscripts -/
def lookD (kvs : List (Key × D)) (k : Key) : Option D := (kvs.find? fun kv => decide (kv.1 = k)).map (·.2)
def lookC (kvs : List (Key × SV)) (k : Key) : Option SV := (kvs.find? fun kv => decide (kv.1 = k)).map (·.2)
theorem RepK.val {I : Hp} {k : Key} : ∀ {kds : List (Key × D)} {kvs : List (Key × V)} {d : D}, RepK K I kds kvs → lookD kds k = some d → ∃ v, valV kvs k = some v ∧ Rep K I d v
  | [], _, _, _, e => by simp [lookD] at e
  | (j, x) :: ds, _, d, ⟨v, r, e1, h, hr⟩, e => by
    subst e1
    by_cases hk : j = k
    · subst hk
      have : d = x := by simp [lookD] at e; exact e.symm
      subst this
      exact ⟨v, by simp [valV], h⟩
    · have e' : lookD ds k = some d := by simpa [lookD, List.find?_cons, hk] using e
      obtain ⟨w, q1, q2⟩ := RepK.val hr e'
      exact ⟨w, by rw [valV_neg (p := (j, v)) hk]; exact q1, q2⟩
theorem RVK.val {I : Hp} {as : List Addr} {k : Key} : ∀ {kds : List (Key × SV)} {kvs : List (Key × V)} {d : SV}, RVK K I as kds kvs → lookC kds k = some d → ∃ v, valV kvs k = some v ∧ RV K I as d v
  | [], _, _, _, e => by simp [lookC] at e
  | (j, x) :: ds, _, d, ⟨v, r, e1, h, hr⟩, e => by
    subst e1
    by_cases hk : j = k
    · subst hk
      have : d = x := by simp [lookC] at e; exact e.symm
      subst this
      exact ⟨v, by simp [valV], h⟩
    · have e' : lookC ds k = some d := by simpa [lookC, List.find?_cons, hk] using e
      obtain ⟨w, q1, q2⟩ := RVK.val hr e'
      exact ⟨w, by rw [valV_neg (p := (j, v)) hk]; exact q1, q2⟩
theorem RVL.length {I : Hp} {as : List Addr} : ∀ {d : List SV} {v : List V}, RVL K I as d v → v.length = d.length
  | [], _, h => by rw [show _ = [] from h]; rfl
  | d :: ds, _, ⟨v, r, h1, h2, h3⟩ => by rw [h1]; simp [RVL.length h3]
theorem RVL.get {I : Hp} {as : List Addr} : ∀ {d : List SV} {v : List V} {i : Nat} {x : SV}, RVL K I as d v → d[i]? = some x → ∃ u, v[i]? = some u ∧ RV K I as x u
  | [], _, i, x, h, e => by simp at e
  | d :: ds, _, 0, x, ⟨v, r, h1, h2, h3⟩, e => by
    simp at e; subst e; subst h1; exact ⟨v, rfl, h2⟩
  | d :: ds, _, i + 1, x, ⟨v, r, h1, h2, h3⟩, e => by
    subst h1
    obtain ⟨u, q1, q2⟩ := RVL.get (i := i) (x := x) h3 (by simpa using e)
    exact ⟨u, by simpa using q1, q2⟩
theorem atI_rep {I : Hp} {ds : List D} {vs : List V} {i : Int} {d : D} (h : RepL K I ds vs) (e : atI ds i = some d) : ∃ v, atI vs i = some v ∧ Rep K I d v := by
  unfold atI at e ⊢
  rw [h.length]
  cases q : ixN ds.length i with
  | none => rw [q] at e; cases e
  | some j =>
    rw [q] at e
    exact h.get e
theorem atI_rv {I : Hp} {as : List Addr} {ds : List SV} {vs : List V} {i : Int} {d : SV} (h : RVL K I as ds vs) (e : atI ds i = some d) : ∃ v, atI vs i = some v ∧ RV K I as d v := by
  unfold atI at e ⊢
  rw [h.length]
  cases q : ixN ds.length i with
  | none => rw [q] at e; cases e
  | some j =>
    rw [q] at e
    exact h.get e
def rIxD : R2 := fun x y H Q => ∃ a v, x = .ref a ∧ DGet H a y (some v) ∧ Q v H
def rIxA (K : PySem.W.Frag) : R2 := fun x y H Q => rIx K x y H Q ∨ rIxD x y H Q
def keyOf : D → Option Key
  | .int i => some (.inl i)
  | .str x => some (.inr x)
  | _ => none
theorem rep_key {d : D} {kk : Key} {H : Hp} {v : V} (h : keyOf d = some kk) (r : Rep K H d v) : v = kV kk := by
  cases d with
  | int i => cases h; exact r
  | str x => cases h; exact r
  | _ => cases h
/-! arguments -/
variable {Ψa : List SV → Sta → Prop} {tr : TA}
theorem wa_nil (k : Ψa [] δ) : WA K ec W tNil Ψa Ξ δ := fun σ I as H Q r c => c.v [] δ [] I as H r (Le.refl I as) rfl k
theorem wa_cons (h : WE K ec W te (fun s δ1 => WA K ec W tr (fun ss δ2 => Ψa (s :: ss) δ2) Ξ δ1) Ξ δ) : WA K ec W (tCons te tr) Ψa Ξ δ := by
  intro σ I as H Q r c
  refine h σ I as H _ r ⟨fun s1 δ1 v1 I1 as1 H1 r1 l1 rv1 k1 => ?_, c.x⟩
  refine k1 σ I1 as1 H1 _ r1 ⟨fun ss δ2 vs I2 as2 H2 r2 l2 rv2 k2 => ?_, (c.later l1).x⟩
  exact c.v (s1 :: ss) δ2 (v1 :: vs) I2 as2 H2 r2 (l1.trans l2) ⟨v1, vs, rfl, rv1.mono l2, rv2⟩ k2
theorem we_lst (h : WA K ec W tr (fun ss δ1 => ss.length ≤ 1000 ∧ Ψ (.cl δ1.ce.length) { δ1 with ce := δ1.ce ++ [.lst ss] }) Ξ δ) : WE K ec W (tLst tr) Ψ Ξ δ := by
  intro σ I as H Q r c
  refine h σ I as H _ r ⟨fun ss δ1 vs I1 as1 H1 r1 l1 rv1 k1 => ?_, c.x⟩
  refine ⟨by rw [rv1.length]; exact Nat.le_trans k1.1 (by decide), fun p hp => ?_⟩
  have hn := none_back r1.ih hp
  obtain ⟨r2, l2⟩ := r1.newC (o := .lst vs) (co := .lst ss) hp ⟨hn, vs, upd_same, rv1⟩ rfl
  refine c.v (.cl δ1.ce.length) _ _ I1 (as1 ++ [p]) _ r2 (l1.trans l2) ⟨p, ?_, rfl⟩ k1.2
  rw [← r1.clen]; simp
theorem we_lstF (h : WA K ec W tr (fun ss δ1 => ∃ ds, ss.length ≤ 1000 ∧ imL δ1.ce ss = some ds ∧ Ψ (.im (.lst ds)) δ1) Ξ δ) : WE K ec W (tLst tr) Ψ Ξ δ := by
  intro σ I as H Q r c
  refine h σ I as H _ r ⟨fun ss δ1 vs I1 as1 H1 r1 l1 rv1 k1 => ?_, c.x⟩
  obtain ⟨ds, k0, k1, k2⟩ := k1
  refine ⟨by rw [rv1.length]; exact Nat.le_trans k0 (by decide), fun p hp => ?_⟩
  obtain ⟨r2, l2⟩ := r1.newF (o := .lst vs) hp
  exact c.v (.im (.lst ds)) _ _ _ as1 _ r2 (l1.trans l2) ⟨p, vs, rfl, upd_same, RepL.mono l2.i _ _ (r1.imL k1 rv1)⟩ k2
/-! built-in calls -/
def CbW (K : PySem.W.Frag) (ec : EC) (r : List V → Hp → VK → Prop) (ss : List SV) (Ψ : SV → Sta → Prop) (δ : Sta) : Prop :=
  ∀ (σ : L2.St) (I : Hp) (as : List Addr) (H : Hp) (Q : VK) (vs : List V), R K ec δ σ I as H → RVL K I as ss vs →
    (∀ s δ' v I' as' H', R K ec δ' σ I' as' H' → Le I as I' as' → RV K I' as' s v → Ψ s δ' → Q v H') → r vs H Q
theorem we_cb {r : List V → Hp → VK → Prop} (h : WA K ec W tr (fun ss δ1 => CbW K ec r ss Ψ δ1) Ξ δ) : WE K ec W (tCB r tr) Ψ Ξ δ := by
  intro σ I as H Q r c
  refine h σ I as H _ r ⟨fun ss δ1 vs I1 as1 H1 r1 l1 rv1 k1 => ?_, c.x⟩
  exact k1 σ I1 as1 H1 Q vs r1 rv1 (c.later l1).v
theorem cb_l {r r' : List V → Hp → VK → Prop} {ss : List SV} (h : CbW K ec r ss Ψ δ) : CbW K ec (fun xs H Q => r xs H Q ∨ r' xs H Q) ss Ψ δ := fun σ I as H Q v r h1 c => .inl (h σ I as H Q v r h1 c)
theorem cb_r {r r' : List V → Hp → VK → Prop} {ss : List SV} (h : CbW K ec r' ss Ψ δ) : CbW K ec (fun xs H Q => r xs H Q ∨ r' xs H Q) ss Ψ δ := fun σ I as H Q v r h1 c => .inr (h σ I as H Q v r h1 c)
/-- one scalar in, one scalar out -/
theorem cb_1 {r : List V → Hp → VK → Prop} {s : SV} {x : D} {v u : V} {d : D} (e : dv δ.ce s = some x) (hx : ∀ H w, Rep K H x w → w = v) (hr : ∀ H (Q : VK), Q u H → r [v] H Q) (hd : ∀ I, Rep K I d u) (k : Ψ (.im d) δ) : CbW K ec r [s] Ψ δ := by
  intro σ I as H Q vs r h1 c
  obtain ⟨w, t, rfl, h, rfl⟩ := h1
  have ew : w = v := hx H w (r.dv e h)
  subst ew
  exact hr H Q (c (.im d) δ u I as H r (Le.refl I as) (hd I) k)
theorem cb_2 {r : List V → Hp → VK → Prop} {s s' : SV} {x x' : D} {v v' u : V} {d : D} (e : dv δ.ce s = some x) (e' : dv δ.ce s' = some x') (hx : ∀ H w, Rep K H x w → w = v) (hx' : ∀ H w, Rep K H x' w → w = v') (hr : ∀ H (Q : VK), Q u H → r [v, v'] H Q) (hd : ∀ I, Rep K I d u) (k : Ψ (.im d) δ) : CbW K ec r [s, s'] Ψ δ := by
  intro σ I as H Q vs r h1 c
  obtain ⟨w, t, rfl, h, w', t', rfl, h', rfl⟩ := h1
  have ew : w = v := hx H w (r.dv e h)
  have ew' : w' = v' := hx' H w' (r.dv e' h')
  subst ew ew'
  exact hr H Q (c (.im d) δ u I as H r (Le.refl I as) (hd I) k)
def rAbs : List V → Hp → VK → Prop := fun xs H Q => ∃ i, xs = [.int i] ∧ Q (.int (if i < 0 then -i else i)) H
def rInt1 : List V → Hp → VK → Prop := fun xs H Q => (∃ i, xs = [.int i] ∧ Q (.int i) H) ∨ ∃ k, xs = [.bl k] ∧ Q (.int (if k then 1 else 0)) H
def rMax2 : List V → Hp → VK → Prop := fun xs H Q => ∃ i j, xs = [.int i, .int j] ∧ Q (.int (if j > i then j else i)) H
def rMin2 : List V → Hp → VK → Prop := fun xs H Q => ∃ i j, xs = [.int i, .int j] ∧ Q (.int (if j < i then j else i)) H
def rReprI : List V → Hp → VK → Prop := fun xs H Q => ∃ i, xs = [.int i] ∧ i.natAbs.log2 < 1920 ∧ Q (.str (toString i)) H
def rLenA (K : PySem.W.Frag) : List V → Hp → VK → Prop := fun xs H Q => ∃ x n, xs = [x] ∧ LenV K x H n ∧ Q (.int n) H
theorem cb_abs {s : SV} {i : Int} (e : dv δ.ce s = some (.int i)) (k : Ψ (.im (.int (if i < 0 then -i else i))) δ) : CbW K ec rAbs [s] Ψ δ := cb_1 (v := .int i) (u := .int (if i < 0 then -i else i)) (d := .int (if i < 0 then -i else i)) e (fun _ _ h => h) (fun _ _ q => ⟨i, rfl, q⟩) (fun _ => rfl) k
theorem cb_int {s : SV} {i : Int} (e : dv δ.ce s = some (.int i)) (k : Ψ (.im (.int i)) δ) : CbW K ec rInt1 [s] Ψ δ := cb_1 (v := .int i) (u := .int i) (d := .int i) e (fun _ _ h => h) (fun _ _ q => .inl ⟨i, rfl, q⟩) (fun _ => rfl) k
theorem cb_intB {s : SV} {b : Bool} (e : dv δ.ce s = some (.bl b)) (k : Ψ (.im (.int (if b then 1 else 0))) δ) : CbW K ec rInt1 [s] Ψ δ := cb_1 (v := .bl b) (u := .int (if b then 1 else 0)) (d := .int (if b then 1 else 0)) e (fun _ _ h => h) (fun _ _ q => .inr ⟨b, rfl, q⟩) (fun _ => rfl) k
theorem cb_max {s s' : SV} {i j : Int} (e : dv δ.ce s = some (.int i)) (e' : dv δ.ce s' = some (.int j)) (k : Ψ (.im (.int (if j > i then j else i))) δ) : CbW K ec rMax2 [s, s'] Ψ δ := cb_2 (v := .int i) (v' := .int j) (u := .int (if j > i then j else i)) (d := .int (if j > i then j else i)) e e' (fun _ _ h => h) (fun _ _ h => h) (fun _ _ q => ⟨i, j, rfl, q⟩) (fun _ => rfl) k
theorem cb_min {s s' : SV} {i j : Int} (e : dv δ.ce s = some (.int i)) (e' : dv δ.ce s' = some (.int j)) (k : Ψ (.im (.int (if j < i then j else i))) δ) : CbW K ec rMin2 [s, s'] Ψ δ := cb_2 (v := .int i) (v' := .int j) (u := .int (if j < i then j else i)) (d := .int (if j < i then j else i)) e e' (fun _ _ h => h) (fun _ _ h => h) (fun _ _ q => ⟨i, j, rfl, q⟩) (fun _ => rfl) k
theorem cb_len {s : SV} {x : D} {n : Nat} (e : dv δ.ce s = some x) (hx : ∀ H w, Rep K H x w → LenV K w H n) (k : Ψ (.im (.int n)) δ) : CbW K ec (rLenA K) [s] Ψ δ := by
  intro σ I as H Q vs r h1 c
  obtain ⟨w, t, rfl, h, rfl⟩ := h1
  exact ⟨w, n, rfl, hx H w (r.dv e h), c (.im (.int n)) δ _ I as H r (Le.refl I as) rfl k⟩
theorem len_lst {ds : List D} : ∀ (H : Hp) (w : V), Rep K H (.lst ds) w → LenV K w H ds.length := fun H w h => by
  obtain ⟨a, vs, rfl, ha, ra⟩ := h
  exact .inl ⟨vs, SqL.of ha, ra.length.symm⟩
theorem len_scr {ns : List Int} : ∀ (H : Hp) (w : V), Rep K H (.scr ns) w → LenV K w H ns.length := fun H w h => by
  obtain ⟨a, rfl, ha⟩ := h
  exact .inl ⟨_, ha, by simp⟩
theorem len_tup {ds : List D} : ∀ (H : Hp) (w : V), Rep K H (.tup ds) w → LenV K w H ds.length := fun H w h => by
  obtain ⟨a, vs, rfl, ha, ra⟩ := h
  exact .inr ⟨vs, ha, ra.length.symm⟩
theorem len_str {z : Str} (hz : z.length ≤ sizeLine) : ∀ (H : Hp) (w : V), Rep K H (.str z) w → LenV K w H z.length := fun H w h => by
  cases (show w = _ from h)
  exact ⟨hz, rfl⟩
end


section
variable {K : PySem.W.Frag} {ec : EC} {W : WX} {Ξ : Xn → Sta → Prop} {δ : Sta} {ta tb te tx : TE} {t u : TT} {Ψ : SV → Sta → Prop} {Ψt : Bool → Sta → Prop}
/-! ## tests -/
theorem wt_test (h : WE K ec W te (fun s δ1 => ∃ b, dv δ1.ce s = some (.bl b) ∧ Ψt b δ1) Ξ δ) : WT K ec W (tTest te) Ψt Ξ δ := fun σ I as H Q r c =>
  h σ I as H _ r ⟨fun s δ1 v I1 as1 H1 r1 l1 rv k => by
    obtain ⟨b, e, k⟩ := k
    exact ⟨b, r1.dv e rv, c.v b δ1 I1 as1 H1 r1 l1 k⟩, c.x⟩
theorem wt_B (h : WE K ec W te (fun s δ1 => ∃ b, dv δ1.ce s = some (.bl b) ∧ Ψt b δ1) Ξ δ) : WT K ec W (tB te) Ψt Ξ δ := fun σ I as H Q r c =>
  h σ I as H _ r ⟨fun s δ1 v I1 as1 H1 r1 l1 rv k => by
    obtain ⟨b, e, k⟩ := k
    exact ⟨b, r1.dv e rv, c.v b δ1 I1 as1 H1 r1 l1 k⟩, c.x⟩
theorem wt_or (h : WT K ec W t (fun b δ1 => (b = false → WT K ec W u Ψt Ξ δ1) ∧ (b = true → Ψt true δ1)) Ξ δ) : WT K ec W (tOr t u) Ψt Ξ δ := fun σ I as H Q r c =>
  h σ I as H _ r ⟨fun b δ1 I1 as1 H1 r1 l1 k => by
    cases b with
    | false => exact k.1 rfl σ I1 as1 H1 Q r1 (c.later l1)
    | true => exact c.v true δ1 I1 as1 H1 r1 l1 (k.2 rfl), c.x⟩
theorem wt_not (h : WT K ec W t (fun b δ1 => Ψt (!b) δ1) Ξ δ) : WT K ec W (tNot t) Ψt Ξ δ := fun σ I as H Q r c =>
  h σ I as H _ r ⟨fun b δ1 I1 as1 H1 r1 l1 k => c.v (!b) δ1 I1 as1 H1 r1 l1 k, c.x⟩
theorem we_andV (h : WE K ec W ta (fun s δ1 => ∃ b, dv δ1.ce s = some (.bl b) ∧ (b = true → WE K ec W tb Ψ Ξ δ1) ∧ (b = false → Ψ (.im (.bl false)) δ1)) Ξ δ) : WE K ec W (tAndV ta tb) Ψ Ξ δ := fun σ I as H Q r c =>
  h σ I as H _ r ⟨fun s δ1 v I1 as1 H1 r1 l1 rv k => by
    obtain ⟨b, e, k1, k2⟩ := k
    refine ⟨b, r1.dv e rv, ?_⟩
    cases b with
    | true => exact k1 rfl σ I1 as1 H1 Q r1 (c.later l1)
    | false => exact c.v (.im (.bl false)) δ1 _ I1 as1 H1 r1 l1 rfl (k2 rfl), c.x⟩
theorem we_notV (h : WE K ec W ta (fun s δ1 => ∃ b, dv δ1.ce s = some (.bl b) ∧ Ψ (.im (.bl (!b))) δ1) Ξ δ) : WE K ec W (tNotV ta) Ψ Ξ δ := fun σ I as H Q r c =>
  h σ I as H _ r ⟨fun s δ1 v I1 as1 H1 r1 l1 rv k => by
    obtain ⟨b, e, k⟩ := k
    exact ⟨b, r1.dv e rv, c.v (.im (.bl (!b))) δ1 _ I1 as1 H1 r1 l1 rfl k⟩, c.x⟩
theorem we_if (h : WT K ec W t (fun b δ1 => (b = true → WE K ec W ta Ψ Ξ δ1) ∧ (b = false → WE K ec W tb Ψ Ξ δ1)) Ξ δ) : WE K ec W (tIf t ta tb) Ψ Ξ δ := fun σ I as H Q r c =>
  h σ I as H _ r ⟨fun b δ1 I1 as1 H1 r1 l1 k => by
    cases b with
    | true => exact k.1 rfl σ I1 as1 H1 Q r1 (c.later l1)
    | false => exact k.2 rfl σ I1 as1 H1 Q r1 (c.later l1), c.x⟩
/-! ## targets -/
def WG (K : PySem.W.Frag) (ec : EC) (g : TG) (s : SV) (Φ : Sta → Prop) (δ : Sta) : Prop :=
  ∀ (σ : L2.St) (I : Hp) (as : List Addr) (H : Hp) (v : V) (Q : L2.St → Hp → Prop), R K ec δ σ I as H → RV K I as s v →
    (∀ δ' σ' I' as' H', R K ec δ' σ' I' as' H' → Le I as I' as' → Φ δ' → Q σ' H') → g v σ H Q
def WGs (K : PySem.W.Frag) (ec : EC) (g : TGs) (s : List D) (Φ : Sta → Prop) (δ : Sta) : Prop :=
  ∀ (σ : L2.St) (I : Hp) (as : List Addr) (H : Hp) (v : List V) (Q : L2.St → Hp → Prop), R K ec δ σ I as H → RepL K I s v →
    (∀ δ' σ' I' as' H', R K ec δ' σ' I' as' H' → Le I as I' as' → Φ δ' → Q σ' H') → g v σ H Q
variable {Φ' : Sta → Prop}
theorem wg_name {i : Nat} {s : SV} (k : Φ' { δ with sl := δ.sl.set i s }) : WG K ec (gName i) s Φ' δ := fun σ I as H v Q r rv c => c _ _ I as H (r.store rv) (Le.refl I as) k
theorem wgs_nil (k : Φ' δ) : WGs K ec gNil [] Φ' δ := fun σ I as H v Q r rv c => ⟨rv, c _ _ I as H r (Le.refl I as) k⟩
theorem wgs_cons {g : TG} {gs : TGs} {d : D} {ds : List D} (h : WG K ec g (.im d) (fun δ1 => WGs K ec gs ds Φ' δ1) δ) : WGs K ec (gCons g gs) (d :: ds) Φ' δ := fun σ I as H v Q r rv c => by
  obtain ⟨w, vs, e, h1, h2⟩ := rv
  refine ⟨w, vs, e, h σ I as H w _ r h1 fun δ1 σ1 I1 as1 H1 r1 l1 k1 => ?_⟩
  exact k1 σ1 I1 as1 H1 vs Q r1 (RepL.mono l1.i _ _ h2) fun δ2 σ2 I2 as2 H2 r2 l2 k2 => c δ2 σ2 I2 as2 H2 r2 (l1.trans l2) k2
theorem wg_tup {n : Nat} {gs : TGs} {s : SV} {ds : List D} (e : imS δ.ce s = some (.tup ds)) (hn : ds.length = n) (h : WGs K ec gs ds Φ' δ) : WG K ec (gTup K n gs) s Φ' δ := fun σ I as H v Q r rv c => by
  obtain ⟨a, vs, rfl, ha, ra⟩ := r.imS e rv
  exact ⟨a, vs, rfl, same_t r.ih ha, ra.length.trans hn, h σ I as H vs Q r ra c⟩

/-! ## statements -/
variable {Φ : Post} {ts us : TS}
theorem ws_next (k : Φ.nx δ) : WS K ec W tNext Φ δ := fun σ I as H D r c => c.nx δ σ I as H r (Le.refl I as) k
theorem ws_seq (h : WS K ec W ts { Φ with nx := fun δ1 => WS K ec W us Φ δ1 } δ) : WS K ec W (tSeq ts us) Φ δ := fun σ I as H D r c =>
  h σ I as H _ r ⟨fun δ1 σ1 I1 as1 H1 r1 l1 k1 => k1 σ1 I1 as1 H1 D r1 (c.later l1), c.rt, c.bk, c.ct, c.x⟩
theorem ws_asg {g : TG} (h : WE K ec W te (fun s δ1 => WG K ec g s Φ.nx δ1) Φ.ex δ) : WS K ec W (tAsg te g) Φ δ := fun σ I as H D r c =>
  h σ I as H _ r ⟨fun s δ1 v I1 as1 H1 r1 l1 rv k => k σ I1 as1 H1 v _ r1 rv fun δ2 σ2 I2 as2 H2 r2 l2 k2 => c.nx δ2 σ2 I2 as2 H2 r2 (l1.trans l2) k2, fun x δ1 d I1 as1 H1 r1 l1 z k => c.x x δ1 σ d I1 as1 H1 r1 l1 z k⟩
theorem ws_ret (h : WE K ec W te (fun s δ1 => Φ.rt s δ1) Φ.ex δ) : WS K ec W (tRet te) Φ δ := fun σ I as H D r c =>
  h σ I as H _ r ⟨fun s δ1 v I1 as1 H1 r1 l1 rv k => c.rt s δ1 σ v I1 as1 H1 r1 l1 rv k, fun x δ1 d I1 as1 H1 r1 l1 z k => c.x x δ1 σ d I1 as1 H1 r1 l1 z k⟩
theorem ws_drop (h : WE K ec W te (fun s δ1 => Φ.nx δ1) Φ.ex δ) : WS K ec W (tDrop te) Φ δ := fun σ I as H D r c =>
  h σ I as H _ r ⟨fun s δ1 v I1 as1 H1 r1 l1 rv k => c.nx δ1 σ I1 as1 H1 r1 l1 k, fun x δ1 d I1 as1 H1 r1 l1 z k => c.x x δ1 σ d I1 as1 H1 r1 l1 z k⟩
theorem ws_if (h : WT K ec W t (fun b δ1 => (b = true → WS K ec W ts Φ δ1) ∧ (b = false → WS K ec W us Φ δ1)) Φ.ex δ) : WS K ec W (tIfS t ts us) Φ δ := fun σ I as H D r c =>
  h σ I as H _ r ⟨fun b δ1 I1 as1 H1 r1 l1 k => by
    cases b with
    | true => exact k.1 rfl σ I1 as1 H1 D r1 (c.later l1)
    | false => exact k.2 rfl σ I1 as1 H1 D r1 (c.later l1), fun x δ1 d I1 as1 H1 r1 l1 z k => c.x x δ1 σ d I1 as1 H1 r1 l1 z k⟩
theorem ws_par {i j : Nat} {tr : TA} (h : WA K ec W tr (fun ss δ1 => ∃ s1 s2, ss = [s1, s2] ∧ Φ.nx { δ1 with sl := (δ1.sl.set i s1).set j s2 }) Φ.ex δ) : WS K ec W (tPar i j tr) Φ δ := fun σ I as H D r c =>
  h σ I as H _ r ⟨fun ss δ1 vs I1 as1 H1 r1 l1 rv k => by
    obtain ⟨s1, s2, rfl, k⟩ := k
    obtain ⟨v, _, rfl, h1, w, _, rfl, h2, rfl⟩ := rv
    exact ⟨v, w, rfl, c.nx _ _ I1 as1 H1 ((r1.store h1).store h2) l1 k⟩, fun x δ1 d I1 as1 H1 r1 l1 z k => c.x x δ1 σ d I1 as1 H1 r1 l1 z k⟩

/-! ## what is walked -/
structure Walks (K : PySem.W.Frag) (ec : EC) (J : It) (I : Hp) (ds : List D) : Prop where
  go : ∀ i H, Same I H → i < ds.length → J.go i H
  stop : ∀ H, Same I H → J.stop ds.length H
  yld : ∀ (ec' : EC) i d x H H' δ σ I2 as, ds[i]? = some d → Same I I2 → R K ec' δ σ I2 as H → J.yld i H x H' → ∃ I3, R K ec' δ σ I3 as H' ∧ Le I2 as I3 as ∧ Rep K I3 d x
structure ConI (K : PySem.W.Frag) (ec : EC) (σ : L2.St) (I : Hp) (as : List Addr) (W : WX) (Ψ : List D → Sta → Prop) (Ξ : Xn → Sta → Prop) (Q : It → Hp → Prop) : Prop where
  v : ∀ ds δ' J I' as' H', R K ec δ' σ I' as' H' → Le I as I' as' → Walks K ec J I' ds → Ψ ds δ' → Q J H'
  x : ∀ (x : Xn) δ' d I' as' H', R K ec δ' σ I' as' H' → Le I as I' as' → XRel K I' as' x.fs d → Ξ x δ' → W (x.cls.v K) d σ H'
def WI (K : PySem.W.Frag) (ec : EC) (W : WX) (wi : TI) (Ψ : List D → Sta → Prop) (Ξ : Xn → Sta → Prop) (δ : Sta) : Prop :=
  ∀ (σ : L2.St) (I : Hp) (as : List Addr) (H : Hp) (Q : It → Hp → Prop), R K ec δ σ I as H → ConI K ec σ I as W Ψ Ξ Q → wi σ H Q
variable {Ψi : List D → Sta → Prop}
theorem walks_list {I : Hp} {a : Addr} {ds : List D} {vs : List V} (ha : SqL K I a vs) (ra : RepL K I ds vs) : Walks K ec (Itl K a) I ds where
  go := fun i H e hi => ⟨vs, vs[i]'(by rw [ra.length]; exact hi), e.seq ha, by simp [ra.length, hi]⟩
  stop := fun H e => ⟨vs, e.seq ha, by rw [ra.length]; exact Nat.le_refl _⟩
  yld := fun ec' i d x H H' δ σ I2 as hd e r y => by
    obtain ⟨rfl, y⟩ := y
    obtain ⟨u, h1, h2⟩ := ra.get hd
    have := y vs ((e.trans r.ih).seq ha)
    rw [h1] at this; cases this
    exact ⟨I2, r, Le.refl I2 as, Rep.mono e _ _ h2⟩
theorem walks_tup {I : Hp} {a : Addr} {ds : List D} {vs : List V} (ha : SqT K I a vs) (ra : RepL K I ds vs) : Walks K ec (Itt K a) I ds where
  go := fun i H e hi => ⟨vs, vs[i]'(by rw [ra.length]; exact hi), same_t e ha, by simp [ra.length, hi]⟩
  stop := fun H e => ⟨vs, same_t e ha, by rw [ra.length]; exact Nat.le_refl _⟩
  yld := fun ec' i d x H H' δ σ I2 as hd e r y => by
    obtain ⟨rfl, y⟩ := y
    obtain ⟨u, h1, h2⟩ := ra.get hd
    have := y vs (same_t (e.trans r.ih) ha)
    rw [h1] at this; cases this
    exact ⟨I2, r, Le.refl I2 as, Rep.mono e _ _ h2⟩
def rgD (lo : Int) (n : Nat) : List D := (List.range n).map fun i => D.int (lo + (i : Nat))
theorem rgD_get {lo : Int} {n i : Nat} {d : D} (h : (rgD lo n)[i]? = some d) : i < n ∧ d = .int (lo + (i : Nat)) := by
  unfold rgD at h
  rw [List.getElem?_map] at h
  cases q : (List.range n)[i]? with
  | none => rw [q] at h; cases h
  | some j =>
    rw [q] at h
    have hi : i < n := by simpa using (List.getElem?_eq_some_iff.mp q).1
    have : j = i := by rw [List.getElem?_range hi] at q; exact (Option.some.inj q).symm
    subst this
    exact ⟨hi, (Option.some.inj h).symm⟩
theorem rgD_len (lo : Int) (n : Nat) : (rgD lo n).length = n := by simp [rgD]
theorem walks_rng {I : Hp} (lo : Int) (n : Nat) : Walks K ec (Itr lo n) I (rgD lo n) where
  go := fun i H e hi => by rw [rgD_len] at hi; exact hi
  stop := fun H e => by rw [rgD_len]; exact Nat.le_refl _
  yld := fun ec' i d x H H' δ σ I2 as hd e r y => by
    obtain ⟨rfl, rfl⟩ := y
    obtain ⟨_, rfl⟩ := rgD_get hd
    exact ⟨I2, r, Le.refl I2 as, rfl⟩
theorem repL_ints {I : Hp} : ∀ ns : List Int, RepL K I (ns.map D.int) (ns.map V.int)
  | [] => rfl
  | n :: ns => ⟨_, _, rfl, rfl, repL_ints ns⟩
theorem wi_rng1 {tr : TA} (h : WA K ec W tr (fun ss δ1 => ∃ s n, ss = [s] ∧ dv δ1.ce s = some (.int n) ∧ -(2 ^ 62) ≤ n ∧ n < 2 ^ 62 ∧ Ψi (rgD 0 n.toNat) δ1) Ξ δ) : WI K ec W (iRng1 tr) Ψi Ξ δ := fun σ I as H Q r c =>
  h σ I as H _ r ⟨fun ss δ1 vs I1 as1 H1 r1 l1 rv k => by
    obtain ⟨s, n, rfl, e, h1, h2, k⟩ := k
    obtain ⟨v, _, rfl, hv, rfl⟩ := rv
    cases (show v = _ from r1.dv e hv)
    exact ⟨n, rfl, h1, h2, c.v _ δ1 _ I1 as1 H1 r1 l1 (walks_rng 0 n.toNat) k⟩, c.x⟩
/-! ## for -/
theorem ws_for {wi : TI} {g : TG} (h : WI K ec W wi (fun ds δ1 => ∃ P : Nat → Sta → Prop, P 0 δ1 ∧ (∀ i d δ2, ds[i]? = some d → P i δ2 → WG K ec g (.im d) (fun δ3 => WS K ec W ts { Φ with nx := P (i + 1), ct := P (i + 1), bk := Φ.nx } δ3) δ2) ∧ ∀ δ2, P ds.length δ2 → Φ.nx δ2) Φ.ex δ) : WS K ec W (tFor wi g ts) Φ δ := by
  intro σ I as H D r c
  refine h σ I as H _ r ⟨fun ds δ1 J I1 as1 H1 r1 l1 w k => ?_, fun x δ1 d I1 as1 H1 r1 l1 z k => c.x x δ1 σ d I1 as1 H1 r1 l1 z k⟩
  obtain ⟨P, p0, pt, pe⟩ := k
  refine ⟨fun i m σ' H' => m = ds.length - i ∧ i ≤ ds.length ∧ ∃ δ' I' as', R K ec δ' σ' I' as' H' ∧ Le I1 as1 I' as' ∧ P i δ', ⟨ds.length, by simp, Nat.zero_le _, δ1, I1, as1, r1, Le.refl I1 as1, p0⟩, ?_⟩
  rintro i m σ2 H2 ⟨rfl, hi, δ2, I2, as2, r2, l2, p2⟩
  have e2 : Same I1 H2 := l2.i.trans r2.ih
  by_cases hlt : i < ds.length
  · refine .inr ⟨w.go i H2 e2 hlt, fun σ' H' => ∃ δ' I' as', R K ec δ' σ' I' as' H' ∧ Le I1 as1 I' as' ∧ P (i + 1) δ', fun σ' H' p' => ⟨ds.length - (i + 1), by omega, rfl, hlt, p'⟩, fun x H3 y => ?_⟩
    have hd : ds[i]? = some ds[i] := List.getElem?_eq_getElem hlt
    obtain ⟨I3, r3, l3, q3⟩ := w.yld _ i _ x H2 H3 δ2 σ2 I2 as2 hd l2.i r2 y
    refine pt i _ δ2 hd p2 σ2 I3 as2 H3 x _ r3 q3 fun δ4 σ4 I4 as4 H4 r4 l4 k4 => ?_
    have l14 := (l2.trans l3).trans l4
    have c4 := c.later (l1.trans l14)
    refine k4 σ4 I4 as4 H4 _ r4 ⟨fun δ5 σ5 I5 as5 H5 r5 l5 k5 => ⟨δ5, I5, as5, r5, l14.trans l5, k5⟩, c4.rt, c4.nx, fun δ5 σ5 I5 as5 H5 r5 l5 k5 => ⟨δ5, I5, as5, r5, l14.trans l5, k5⟩, c4.x⟩
  · have e : i = ds.length := by omega
    subst e
    exact .inl ⟨w.stop H2 e2, (c.later l1).nx δ2 σ2 I2 as2 H2 r2 l2 (pe δ2 p2)⟩
/-! ## while -/
end
end Fx

set_option Elab.async false
set_option linter.all false
set_option maxRecDepth 100000
set_option maxHeartbeats 4000000
namespace Fx
open PySem L2

/-! ## {**d, k: v, ..} -/
section
variable {prog : Program} {w : World} {A : Around} {E : Value → Shared → Prop} {s : Shared}
theorem put_pairs {d : Addr} {kvs : List (Key × Value)} {k : Key} {key v : Value} {Q : Unit → Shared → Prop} (hkey : (mixKind prog w).is k key = true) (hm : s.heap.DictOf (mixKind prog w) d kvs)
    (hQ : ∀ h', h'.DictOf (mixKind prog w) d (stored kvs k v) → Heap.SameBut d s.heap h' → Q () { s with heap := h' })
    (hsz : kvs.length ≤ sizeLine) :
    wpAny (model prog w) A (dictPut d ((mixKind prog w).hash k) key v) Q E s := by
  obtain ⟨o, es, ep, ho, hc, hd, hk, hp, hn⟩ := hm
  have hes : es.size ≤ sizeLine := by have e1 := hp.length; have e2 : es.toList.length = es.size := by simp
                                      omega
  unfold dictPut
  refine wpAny_bind (wpAny_dictFind_of hkey ho hd hk ?_)
  have hidx : (es.findIdx? fun e => (mixKind prog w).is k e.key) = kvs.findIdx? fun kv => decide (kv.1 = k) := by
    rw [← hp.findIdx k]; obtain ⟨l⟩ := es; simp
  cases hi : es.findIdx? fun e => (mixKind prog w).is k e.key with
  | some i =>
    refine wpAny_updateDict ho hd (hQ _ ⟨_, _, ep, Heap.get?_update_self _ ho (Obj.isFreed_of_dict (Obj.data_mapDict hd _)),
      hc.mapDict _, Obj.data_mapDict hd _, hk.modify _ _, ?_, ?_⟩ (Heap.SameBut.update ..))
    · rw [stored, if_pos (any_of_findIdx_some (hidx ▸ hi))]
      have hl : (es.toList.findIdx? fun e => (mixKind prog w).is k e.key) = some i := by rw [← hi]; obtain ⟨l⟩ := es; simp
      have := hp.modify hn hl v
      obtain ⟨l⟩ := es
      simpa using this
    · rw [stored, if_pos (any_of_findIdx_some (hidx ▸ hi)), keys_map_store]; exact hn
  | none =>
    have hnot : k ∉ kvs.map (·.1) := not_mem_of_findIdx_none (hidx ▸ hi)
    have hany : ¬ (kvs.any fun kv => decide (kv.1 = k)) = true := by
      rw [List.any_eq_true]; rintro ⟨kv, hkv, he⟩
      exact hnot (List.mem_map.mpr ⟨kv, hkv, of_decide_eq_true he⟩)
    refine wpAny_updateDictKeys (hz := hes) ho hd (hQ _ ⟨_, _, ep + 1, Heap.get?_update_self _ ho (Obj.isFreed_of_dict (Obj.data_mapDictKeys hd _)),
      hc.mapDictKeys _, Obj.data_mapDictKeys hd _, hk.push hkey _, ?_, ?_⟩ (Heap.SameBut.update ..))
    · rw [stored, if_neg hany]
      have := hp.append hkey ((mixKind prog w).hash k) v
      obtain ⟨l⟩ := es
      simpa using this
    · rw [stored, if_neg hany, List.map_append, List.nodup_append]
      refine ⟨hn, by simp, ?_⟩
      intro a ha b hb
      simp only [List.map_cons, List.map_nil, List.mem_singleton] at hb
      subst hb
      exact fun e => hnot (e ▸ ha)
theorem merge_map {d o : Addr} {kvs more : List (Key × Value)} {Q : Unit → Shared → Prop} (hdo : d ≠ o) (hoS : (o == sysModules) = false)
    (hd : s.heap.DictOf (mixKind prog w) d kvs) (ho : s.heap.DictOf (mixKind prog w) o more)
    (hQ : ∀ h', h'.DictOf (mixKind prog w) d (merged kvs more) → h'.DictOf (mixKind prog w) o more → Heap.SameBut d s.heap h' → Q () { s with heap := h' })
    (hsz : kvs.length + more.length ≤ sizeLine) :
    wpAny (model prog w) A (mergeMapping d (.ref o) false) Q E s := by
  obtain ⟨od, esd, epd, hod, hcd, hdd, hkd, hpd, hnd⟩ := id hd
  obtain ⟨oo, eso, epo, hoo, hco, hdo', hko, hpo, hno⟩ := id ho
  have hlen : more.length = eso.size := by rw [← hpo.length]; simp
  have tail : wpAny (model prog w) A (do
      let __do_lift ← dictEntries o
      let size := __do_lift.size
      let epoch ← dictEpoch o
      forIn (List.range size) PUnit.unit fun i (_ : PUnit) => (do
          let l' ← dictEntries o
          match l'[i]? with
            | some e => do
              holding [e.key, e.val] (do
                dictPut d e.hash e.key e.val)
              let ep' ← dictEpoch o
              if (ep' != epoch) = true then do
                  (unsupported "dict.changed-during-merge" : Sem PUnit)
                  pure (ForInStep.yield PUnit.unit)
                else pure (ForInStep.yield PUnit.unit)
            | _ => do
              (unsupported "dict.changed-during-merge" : Sem PUnit)
              pure (ForInStep.yield PUnit.unit) : Sem (ForInStep PUnit))
      pure ()) Q E s := by
    refine wpAny_bind (wpAny_dictEntries hoo hdo' ?_)
    dsimp only
    refine wpAny_bind (wpAny_dictEpoch hoo hdo' ?_)
    refine wpAny_bind ?_
    rw [List.range_eq_range']
    refine wpAny_forIn_list _
      (fun rest _ s' => ∃ h' i, s' = { s with heap := h' } ∧ rest = List.range' i (eso.size - i) ∧ i ≤ eso.size ∧ h'.DictOf (mixKind prog w) d (merged kvs (more.take i)) ∧ h'.get? o = some oo ∧ Heap.SameBut d s.heap h')
      _ ?_ ?_ _ _ ⟨s.heap, 0, rfl, by simp, Nat.zero_le _, by simpa [merged] using hd, hoo, Heap.SameBut.refl _ _⟩
    · rintro x rest b s' ⟨h', i, rfl, hr, hi, hd', hoo', hs'⟩
      have hlt : i < eso.size := by
        rcases Nat.lt_or_ge i eso.size with h | h
        · exact h
        · rw [Nat.sub_eq_zero_of_le h] at hr; simp at hr
      obtain ⟨rfl, hrest⟩ : x = i ∧ rest = List.range' (i + 1) (eso.size - (i + 1)) := by
        have e : eso.size - i = (eso.size - (i + 1)) + 1 := by omega
        rw [e, List.range'_succ] at hr
        injection hr with h1 h2
        exact ⟨h1, h2⟩
      refine wpAny_bind (wpAny_dictEntries hoo' hdo' ?_)
      rw [Array.getElem?_eq_getElem hlt]
      obtain ⟨kv, hkv⟩ : ∃ kv, more[x]? = some kv := ⟨more[x]'(by rw [hlen]; exact hlt), List.getElem?_eq_getElem _⟩
      obtain ⟨k, v⟩ := kv
      obtain ⟨hkey, hval⟩ := hpo.get? (e := eso[x]) (by simp [hlt]) hkv
      obtain ⟨k', hkey', hhash⟩ := hko eso[x] (Array.getElem_mem hlt)
      obtain rfl : k' = k := (mixKind prog w).inj _ _ _ hkey' hkey
      show wpAny _ _ (holding [eso[x].key, eso[x].val] (dictPut d eso[x].hash eso[x].key eso[x].val) >>= _) _ _ _
      rw [hhash, hval]
      have hmx : (merged kvs (more.take x)).length ≤ sizeLine := by
        have e1 := merged_length_le kvs (more.take x)
        have e2 : (more.take x).length ≤ more.length := by rw [List.length_take]; omega
        omega
      refine wpAny_bind (wpAny_holding (put_pairs (hsz := hmx) hkey hd' fun h'' hd'' hs'' => ?_))
      have hoo'' : h''.get? o = some oo := (hs''.2 o (Ne.symm hdo)).trans hoo'
      refine wpAny_bind (wpAny_dictEpoch hoo'' hdo' ?_)
      rw [if_neg (by simp)]
      exact wpAny_pure ⟨h'', x + 1, rfl, hrest, hlt, by rw [merged_take_succ kvs more x (k', v) hkv]; exact hd'', hoo'', hs'.trans hs''⟩
    · rintro b s' ⟨h', i, rfl, hr, hi, hd', hoo', hs'⟩
      have hin : i = eso.size := by
        rcases Nat.lt_or_ge i eso.size with h | h
        · have e : eso.size - i = (eso.size - (i + 1)) + 1 := by omega
          rw [e, List.range'_succ] at hr; exact nomatch hr
        · exact Nat.le_antisymm hi h
      refine wpAny_pure (hQ h' ?_ ⟨oo, eso, epo, hoo', hco, hdo', hko, hpo, hno⟩ hs')
      rw [hin, ← hlen, List.take_length] at hd'; exact hd'
  unfold mergeMapping
  refine wpAny_bind (wpAny_isInstance ho.typeIs isSubtype_dict_dict ?_)
  dsimp only
  rw [if_pos rfl]
  refine wpAny_bind (wpAny_specialOf ho.typeIs F.slot_dict_iter.lookup ?_)
  refine wpAny_bind (wpAny_pure ?_)
  rw [beq_self_eq_true]
  dsimp only
  rw [if_neg (by rw [hoS]; exact Bool.false_ne_true)]
  refine wpAny_bind (wpAny_dictEntries hod hdd ?_)
  split
  · refine wpAny_bind (wpAny_dictEntries hoo hdo' ?_)
    refine wpAny_bind (MeetsSeq2.wpAny_forIn_array _ (fun rest _ s' => s' = s ∧ ∀ e ∈ rest, e ∈ eso.toList) _ ?_ ?_ _ _ ⟨rfl, fun _ h => h⟩)
    · rintro e rest b s' ⟨rfl, hm⟩
      obtain ⟨k', hkey', _⟩ := hko e (by simpa using hm e List.mem_cons_self)
      rcases keyIs_shape (show keyIs k' e.key = true from hkey') with ⟨i, t, _, q⟩ | ⟨x, t, _, q⟩
      · rw [q]
        exact wpAny_pure ⟨rfl, fun z hz => hm z (List.mem_cons_of_mem _ hz)⟩
      · rw [q]
        exact wpAny_pure ⟨rfl, fun z hz => hm z (List.mem_cons_of_mem _ hz)⟩
    · rintro b s' ⟨rfl, _⟩
      exact tail
  · exact tail

theorem gather' (m : Option Addr) (f : (Option (Sem Value) × Sem Value) → (Option Addr × List (Sem Value × Sem Value)) → Sem (ForInStep (Option Addr × List (Sem Value × Sem Value))))
    (hf : ∀ (p : Sem Value × Sem Value) (run : List (Sem Value × Sem Value)), run.length + 1 < 17 → f (some p.1, p.2) (m, run) = pure (.yield (m, run ++ [p]))) :
    ∀ (items run : List (Sem Value × Sem Value)), run.length + items.length < 17 → forIn (items.map fun p => (some p.1, p.2)) (m, run) f = pure (m, run ++ items)
  | [], run, _ => by simp
  | p :: rest, run, h => by
    rw [List.map_cons, List.forIn_cons, hf p run (by simp at h; omega), pure_bind]
    have := gather' m f hf rest (run ++ [p]) (by simp at h ⊢; omega)
    simpa using this
theorem display_star (sv : Sem Value) (pairs : List (Sem Value × Sem Value)) (h0 : pairs ≠ []) (hlen : pairs.length < 17) {Q : Value → Shared → Prop}
    (h : wpAny (model prog w) A sv (fun m s1 => wpAny (model prog w) A (mergeMapping s.heap.objs.size m false) (fun _ s2 => wpAny (model prog w) A (subDict pairs) (fun sub s3 => wpAny (model prog w) A (mergeMapping s.heap.objs.size (.ref sub) false) (fun _ s4 => Q (.ref s.heap.objs.size) s4) (fun _ _ => False) s3) E s2) (fun _ _ => False) s1) E { s with heap := s.heap.push { cls := .type "dict", data := .dict #[] } }) :
    wpAny (model prog w) A (dictDisplay ((none, sv) :: pairs.map fun p => (some p.1, p.2))) Q E s := by
  have no : ∀ {α : Type} {m : Sem α} {Q : α → Shared → Prop} {E' : Value → Shared → Prop} {s' : Shared}, wpAny (model prog w) A m Q (fun _ _ => False) s' → wpAny (model prog w) A m Q E' s' := fun h => wpAny_mono h (fun _ _ z => z) fun _ _ z => z.elim
  unfold dictDisplay
  dsimp only
  rw [List.forIn_cons]
  refine wpAny_bind (wpAny_bind ?_)
  simp only [List.isEmpty_nil, if_true, pure_bind]
  refine wpAny_bind (wpAny_alloc ?_)
  refine wpAny_bind (wpAny_holding (wpAny_mono h (fun m s1 h1 => ?_) fun _ _ e => e))
  refine wpAny_bind (wpAny_onRaise (wpAny_tryCatch (wpAny_onRaise (wpAny_holding (no (wpAny_mono h1 (fun _ s2 h2 => ?_) fun _ _ z => z))))))
  refine wpAny_pure ?_
  dsimp only
  rw [gather' (some s.heap.objs.size) _ (fun p run hr => by
    have hne : ((run ++ [(p.1, p.2)]).length == 17) = false := by simp; omega
    simp only [hne, Bool.false_eq_true, if_false]) pairs [] (by simpa using hlen)]
  refine wpAny_pure ?_
  dsimp only
  have he : (([] : List (Sem Value × Sem Value)) ++ pairs).isEmpty = false := by simp [h0]
  rw [List.nil_append] at he ⊢
  simp only [he, Bool.false_eq_true, if_false]
  refine wpAny_bind (wpAny_bind (wpAny_holding (wpAny_mono h2 (fun sub s3 h3 => ?_) fun _ _ e => e)))
  refine wpAny_bind (wpAny_onRaise (wpAny_holding (no (wpAny_mono h3 (fun _ s4 h4 => ?_) fun _ _ z => z))))
  exact wpAny_pure (wpAny_pure h4)
end
end Fx

set_option Elab.async false
set_option linter.all false
set_option maxRecDepth 100000
set_option maxHeartbeats 4000000
namespace Fx
open PySem L2
section
variable {X : Cx}
/-! ## {**e, k: v, ..} -/
def tDispS (td : TE) (trs : List (TE × TE)) : TE := fun σ H Q => ∀ p, H p = none → td σ (upd H p (.dK [])) fun x H1 => ∃ a kvs, x = .ref a ∧ a ≠ p ∧ H1 p = some (.dK []) ∧ Rd H1 a (.dK kvs) ∧ kvs.length ≤ 1000 ∧
  ∀ q, upd H1 p (.dK (mergeK [] kvs)) q = none → tPairs trs σ (upd (upd H1 p (.dK (mergeK [] kvs))) q (.dK [])) fun ps H3 => q ≠ p ∧ H3 q = some (.dK []) ∧ ∃ kvs3 kvs2, H3 p = some (.dK kvs3) ∧ kvs3.length ≤ 1000 ∧ ps = kvs2.map (fun kv => (kV kv.1, kv.2)) ∧ kvs2.length ≤ 15 ∧
    Q (.ref p) (upd (upd H3 q (.dK (mergeK [] kvs2))) p (.dK (mergeK kvs3 (mergeK [] kvs2))))
theorem pe_dispS {pos : Pos} {e : Expr} {keys : List (Option Expr)} {values : List Expr} {td : TE} {trs : List (TE × TE)} (he : PE X e td) (h : PPs X pos keys values trs) (hall : keys.all (·.isSome) = true) (hl : keys.length = values.length) (h0 : keys ≠ [])
    (h15 : keys.length ≤ 15) : PE X (.Dict (none :: keys) (e :: values) pos) (tDispS td trs) := by
  refine ⟨fun pins s σ H Q I q => ?_⟩
  have hn := I.hok.fresh (Nat.le_refl s.heap.objs.size)
  have I1 := I.laid (a := s.heap.objs.size) (o := .dK []) (h' := s.heap.push { cls := .type "dict", data := .dict #[] }) (t' := s.toks) (fun _ _ q => Heap.get?_push_of_some _ q) (Nat.le_refl _) (dk_empty s.heap I.big)
  rw [arm_eval_Dict]
  refine wpAny_bind (wpAny_standAt ?_)
  have hz : (evalEachOpt (none :: keys) X.env).zip ((evalEach (e :: values) X.env).map fun v => do let x ← v; standAt pos; pure x) = (none, (do let x ← eval e X.env; standAt pos; pure x)) :: (pairTrees keys values X.env pos).map fun p => (some p.1, p.2) := by
    show (none, (do let x ← eval e X.env; standAt pos; pure x)) :: (evalEachOpt keys X.env).zip ((evalEach values X.env).map fun v => do let x ← v; standAt pos; pure x) = _
    rw [zip_pairTrees keys values X.env pos hall hl]
  rw [hz]
  have hpl := pairTrees_length keys values X.env pos hall hl
  refine display_star _ _ (fun z => h0 (List.length_eq_zero_iff.mp (by rw [← hpl, z]; rfl))) (by rw [hpl]; omega) ?_
  refine wpAny_bind (thn (he.run pins _ σ _ _ I1 (q _ hn)) fun m s1 ⟨x, H1, I2, rx, a, kvs, ex, nap, hp, ha, hk, q1⟩ => ?_)
  refine wpAny_bind (wpAny_standAt (wpAny_pure ?_))
  subst ex
  obtain rfl : m = Value.ref a := rx
  obtain ⟨_, hd, vs0, r0, dd⟩ := dk_of I2.hok hp
  cases r0
  obtain ⟨_, hda, vsa, ra, da⟩ := dk_rd I2.hok ha
  have lva : vsa.length = kvs.length := ra.length.symm
  refine merge_map (Ne.symm nap) hda dd da (fun h' d1 d2 sb => ?_) (by rw [lva, sizeLine_eq, List.length_nil]; omega)
  have hz1 : (mergeK [] kvs).length ≤ sizeLine := by
    have h1 := length_mergeK kvs []
    rw [List.length_nil] at h1
    rw [sizeLine_eq]; omega
  have I3 : Inv X pins σ (upd H1 s.heap.objs.size (.dK (mergeK [] kvs))) { s1 with heap := h' } := d_write (t' := s1.toks) I2 (by rw [hp]; exact True.intro) sb (let ⟨q, _, _, hq, _⟩ := d1; ⟨q, hq⟩) (dk_new hz1 hd (ra.merge .nil) d1)
  have hn3 := I3.hok.fresh (Nat.le_refl h'.objs.size)
  have I4 := I3.laid (a := h'.objs.size) (o := .dK []) (h' := h'.push { cls := .type "dict", data := .dict #[] }) (t' := s1.toks) (fun _ _ q => Heap.get?_push_of_some _ q) (Nat.le_refl _) (dk_empty h' I3.big)
  refine wpAny_subDict (knd := mixKind X.prog X.w) (by rw [hpl]; exact h15) (thn (h.run pins _ σ _ _ I4 (q1 _ hn3)) fun ws s2 ⟨ps, H3, I5, rel, nqp, hq3, kvs3, kvs2, hp3, hz1', ep, lk, q2⟩ => ?_)
  subst ep
  obtain ⟨rs, c, rk⟩ := carries_of (P := X.prog) (w := X.w) rel
  obtain ⟨_, hdq, vs0, r0, ddq⟩ := dk_of I5.hok hq3
  cases r0
  refine ⟨rs, c, ddq, fun h'' dq' sb2 => ?_⟩
  have hz2 : (mergeK [] kvs2).length ≤ 15 := by
    have h1 := length_mergeK kvs2 []
    rw [List.length_nil] at h1
    omega
  have I6 : Inv X pins σ (upd H3 h'.objs.size (.dK (mergeK [] kvs2))) { s2 with heap := h'', toks := s2.toks + ws.length } := d_write I5 (by rw [hq3]; exact True.intro) sb2 (let ⟨q, _, _, hq, _⟩ := dq'; ⟨q, hq⟩) (dk_new (Nat.le_trans hz2 (by decide)) hdq (rk.merge .nil) dq')
  have hp6 : upd H3 h'.objs.size (.dK (mergeK [] kvs2)) s.heap.objs.size = some (.dK kvs3) := by rw [upd_ne (Ne.symm nqp)]; exact hp3
  obtain ⟨_, hdp, vsp, rp, ddp⟩ := dk_of I6.hok hp6
  obtain ⟨_, _, vsq, rq, ddq6⟩ := dk_of I6.hok (show upd H3 h'.objs.size (.dK (mergeK [] kvs2)) h'.objs.size = some (.dK (mergeK [] kvs2)) from upd_same)
  have lp : vsp.length = kvs3.length := rp.length.symm
  have lq : vsq.length = (mergeK [] kvs2).length := rq.length.symm
  refine merge_map (Ne.symm nqp) hdq ddp ddq6 (fun h3 d3 d4 sb3 => ?_) (by rw [lp, lq, sizeLine_eq]; omega)
  have hz3 : (mergeK kvs3 (mergeK [] kvs2)).length ≤ sizeLine := by
    have h1 := length_mergeK (mergeK [] kvs2) kvs3
    rw [sizeLine_eq]; omega
  exact ⟨.ref s.heap.objs.size, _, d_write I6 (by rw [hp6]; exact True.intro) sb3 (let ⟨q, _, _, hq, _⟩ := d3; ⟨q, hq⟩) (dk_new hz3 hdp (rq.merge rp) d3), rfl, q2⟩
/-! ## a subscript: a list, a tuple, a text, a dict -/
theorem ix_dict (hu : X.A.units + 1 < cLine) : IxR X rIxD := by
  intro value slice pins s σ H x y v u Q I rx ry h hs
  obtain ⟨a, z, rfl, g, q⟩ := h
  obtain rfl : v = Value.ref a := rx
  exact PyProof.Rows.tail_any (dict_typeIs I g) F.slot_dict_getitem.lookup (d_getItem hu I g ry fun w' s' I' rw' => ⟨z, H, I', rw', q⟩) hs
theorem ix_any (hu : X.A.units + 1 < cLine) : IxR X (rIxA X.K) := ix_seq.or (ix_dict hu)
def rIxB (K : PySem.W.Frag) (w : World) : R2 := fun x y H Q => rIxA K x y H Q ∨ L2.rIxD K w x y H Q
theorem ix_all (hu : X.A.units + 1 < cLine) : IxR X (rIxB X.K X.w) := (ix_any hu).or ix_kdict
/-! ## o.f as a target -/
def gFld (K : PySem.W.Frag) (ta : TE) (f : Str) : TG := fun y σ H Q => ta σ H fun x H2 => ∃ a C dx fs, x = .ref a ∧ H2 a = some (.ins C dx fs) ∧ Cls K C ∧ NoAttr K C f ∧ fs.length < 1000 ∧ Q σ (upd H2 a (.ins C dx (putF f y fs)))
theorem pg_fld {o : Expr} {f : Str} {pos : Pos} {ta : TE} (ha : PE X o ta) : PG X (.Attribute o f pos) (gFld X.K ta f) := by
  refine ⟨fun pins s σ H v u Q I r h => ?_⟩
  rw [arm_assign_Attribute]
  refine wpAny_bind (wpAny_holding (thn (ha.run pins s σ H _ I h) fun ov s2 ⟨x, H2, I2, rx, a, C, dx, fs, ex, ea, c, n, l, q2⟩ => ?_))
  subst ex
  obtain rfl : ov = Value.ref a := rx
  refine wpAny_bind (wpAny_standAt (wpAny_bind (wpAny_holding (setattr_ok I2 ea c n l r fun s3 I3 => ?_))))
  exact wpAny_release ⟨σ, _, I3, q2⟩
/-! ## for a, b in e.items(), the dict just made: it stays locked -/
def tLk (td : TE) : TE := fun σ H Q => td σ H fun x H1 => ∃ d kvs, x = .ref d ∧ H1 d = some (.dK kvs) ∧ ∀ o, Q x (upd H1 d (.frz o (.dK kvs)))
theorem pe_lk {e : Expr} {td : TE} (he : PE X e td) : PE X e (tLk td) := by
  refine ⟨fun pins s σ H Q I h => thn (he.run pins s σ H _ I h) fun v s1 ⟨x, H1, I1, rx, d, kvs, ex, hd, q⟩ => ?_⟩
  obtain ⟨od, I2⟩ := I1.lock hd True.intro
  exact ⟨x, _, I2, rx, q od⟩
/-! ## d.update(e), both dicts -/
def rUpdD : V → List V → Hp → VK → Prop := fun x vs H Q => ∃ d a kvs more, x = .ref d ∧ vs = [.ref a] ∧ d ≠ a ∧ H d = some (.dK kvs) ∧ Rd H a (.dK more) ∧ kvs.length + more.length ≤ sizeLine ∧ Q .non (upd H d (.dK (mergeK kvs more)))
theorem mt_update : MtR X "dict.update" rUpdD := by
  intro pins s σ H x xs v us Q I rx rs h
  obtain ⟨d, a, kvs, more, rfl, rfl, ne, hd, ha, hz, q⟩ := h
  obtain rfl : v = Value.ref d := rx
  obtain rfl : us = [Value.ref a] := Vals.ref1 rs
  obtain ⟨_, hdd, vs, rv, dd⟩ := dk_of I.hok hd
  obtain ⟨_, hda, ws, rw', da⟩ := dk_rd I.hok ha
  have e1 := rv.length
  have e2 := rw'.length
  refine call_meetsIn F.slot_dict_update dd.typeIs F.entry_dict_update (F.args_dict_update_2 _ _) (meets_dict_update (mixKind X.prog X.w) d a ne hda) ⟨vs, ws, dd, da, by omega, fun h' d1 d2 sb => ?_⟩
  have hz' : (mergeK kvs more).length ≤ sizeLine := by
    have h1 := length_mergeK more kvs
    omega
  exact ⟨.non, _, d_write (t' := s.toks) I (by rw [hd]; exact True.intro) sb (let ⟨q, _, _, hq, _⟩ := d1; ⟨q, hq⟩) (dk_new hz' hdd (rw'.merge rv) d1), rfl, q⟩
end
end Fx

set_option Elab.async false
set_option linter.all false
set_option autoImplicit false
set_option maxRecDepth 100000
set_option maxHeartbeats 4000000
namespace Fx
open PySem L2
section
variable {K : PySem.W.Frag} {ec : EC} {W : WX} {Ξ : Xn → Sta → Prop} {δ : Sta} {ta tb te tx : TE} {Ψ : SV → Sta → Prop} {Φ : Post} {tr : TA}
/-! ## fields -/
theorem RVF.look {I : Hp} {as : List Addr} : ∀ {d : List (Str × SV)} {v : List (Str × V)} {f : Str} {x : SV}, RVF K I as d v → d.lookup f = some x → ∃ u, v.lookup f = some u ∧ RV K I as x u
  | [], _, f, x, h, e => by simp at e
  | (k, d) :: ds, _, f, x, ⟨v, r, h1, h2, h3⟩, e => by
    subst h1
    by_cases hk : f == k
    · simp only [List.lookup_cons, hk] at e ⊢
      cases e; exact ⟨v, rfl, h2⟩
    · simp only [List.lookup_cons, hk] at e ⊢
      exact RVF.look h3 e
def putFS (f : Str) (v : SV) : List (Str × SV) → List (Str × SV)
  | [] => [(f, v)]
  | (g, x) :: r => if g = f then (g, v) :: r else (g, x) :: putFS f v r
theorem RVF.put {I : Hp} {as : List Addr} {f : Str} {s : SV} {v : V} (hv : RV K I as s v) : ∀ {d : List (Str × SV)} {w : List (Str × V)}, RVF K I as d w → RVF K I as (putFS f s d) (putF f v w)
  | [], w, h => by rw [show w = [] from h]; exact ⟨v, [], rfl, hv, rfl⟩
  | (k, d) :: ds, _, ⟨u, r, h1, h2, h3⟩ => by
    subst h1
    by_cases hk : k = f
    · show RVF K I as (if k = f then _ else _) (if k = f then _ else _)
      rw [if_pos hk, if_pos hk]
      exact ⟨v, r, rfl, hv, h3⟩
    · show RVF K I as (if k = f then _ else _) (if k = f then _ else _)
      rw [if_neg hk, if_neg hk]
      exact ⟨u, _, rfl, h2, RVF.put hv h3⟩
theorem RVF.length {I : Hp} {as : List Addr} : ∀ {d : List (Str × SV)} {v : List (Str × V)}, RVF K I as d v → v.length = d.length
  | [], _, h => by rw [show _ = [] from h]; rfl
  | (_, d) :: ds, _, ⟨v, r, h1, h2, h3⟩ => by rw [h1]; simp [RVF.length h3]
/-- o.f = s, o a cell in the slot i -/
theorem wg_fld {f : Str} {i c : Nat} {C : Str} {fs : List (Str × SV)} {s : SV} {Φ' : Sta → Prop} (h : δ.sl[i]? = some (.cl c)) (e : δ.ce[c]? = some (.ins C fs)) (hc : Cls K (He.ga K C)) (hn : NoAttr K (He.ga K C) f) (hl : fs.length < 1000)
    (k : Φ' { δ with ce := δ.ce.set c (.ins C (putFS f s fs)) }) : WG K ec (gFld K (tVar i) f) s Φ' δ := fun σ I as H v Q r rv cc => by
  rcases r.slots i _ h with z | ⟨w, h1, a, ha, rfl⟩
  · cases z
  obtain ⟨hn0, dx, ws, hh, ra⟩ := r.cells c _ a e ha
  refine ⟨.ref a, h1, a, _, dx, ws, rfl, hh, hc, hn, by rw [ra.length]; exact hl, ?_⟩
  exact cc _ _ I as _ (r.setC (co := .ins C (putFS f s fs)) e rfl ha ⟨hn0, dx, _, upd_same, ra.put rv⟩ rfl) (Le.refl I as) k
/-! ## lists in cells -/
theorem RVL.set {I : Hp} {as : List Addr} {s : SV} {v : V} (hv : RV K I as s v) : ∀ {d : List SV} {w : List V} (j : Nat), RVL K I as d w → RVL K I as (d.set j s) (w.set j v)
  | [], w, j, h => by rw [show w = [] from h]; cases j <;> rfl
  | d :: ds, _, 0, ⟨u, r, h1, h2, h3⟩ => by subst h1; exact ⟨v, r, rfl, hv, h3⟩
  | d :: ds, _, j + 1, ⟨u, r, h1, h2, h3⟩ => by subst h1; exact ⟨u, _, rfl, h2, RVL.set hv j h3⟩
theorem wg_setL {s : SV} {Φ' : Sta → Prop} (h : WE K ec W0 ta (fun o δ1 => WE K ec W0 tb (fun i δ2 => ∃ c xs k j, o = .cl c ∧ δ2.ce[c]? = some (.lst xs) ∧ dv δ2.ce i = some (.int k) ∧ ixN xs.length k = some j ∧ Φ' { δ2 with ce := δ2.ce.set c (.lst (xs.set j s)) }) (fun _ _ => False) δ1) (fun _ _ => False) δ) : WG K ec (gSub ta tb rSetL) s Φ' δ := fun σ I as H v Q r rv cc =>
  h σ I as H _ r ⟨fun o δ1 v1 I1 as1 H1 r1 l1 rv1 k1 => k1 σ I1 as1 H1 _ r1 ⟨fun i δ2 v2 I2 as2 H2 r2 l2 rv2 k2 => by
    obtain ⟨c, xs, k, j, rfl, e, ei, hj, k2⟩ := k2
    obtain ⟨a, ha, rfl⟩ := rv1.mono l2
    obtain ⟨hn0, ws, hh, ra⟩ := r2.cells c _ a e ha
    refine ⟨a, ws, k, j, rfl, r2.dv ei rv2, hh, by rw [ra.length]; exact hj, ?_⟩
    exact cc _ _ I2 as2 _ (r2.setC (co := .lst (xs.set j s)) e rfl ha ⟨hn0, _, upd_same, ra.set (rv.mono (l1.trans l2)) j⟩ rfl) (l1.trans l2) k2, fun _ _ _ _ _ _ _ _ _ z => z.elim⟩, fun _ _ _ _ _ _ _ _ _ z => z.elim⟩
/-! ## dicts -/
def putS (kvs : List (Key × SV)) (k : Key) (v : SV) : List (Key × SV) :=
  if (kvs.any fun kv => decide (kv.1 = k)) = true then kvs.map (fun kv => if kv.1 = k then (kv.1, v) else kv) else kvs ++ [(k, v)]
theorem RVK.put {I : Hp} {as : List Addr} {k : Key} {s : SV} {v : V} (hv : RV K I as s v) {d : List (Key × SV)} {w : List (Key × V)} (h : RVK K I as d w) : RVK K I as (putS d k s) (putK w k v) := by
  have hany : ∀ {d : List (Key × SV)} {w : List (Key × V)}, RVK K I as d w → (d.any fun kv => decide (kv.1 = k)) = (w.any fun kv => decide (kv.1 = k)) := fun {d} => by
    induction d with
    | nil => intro w h; rw [show w = [] from h]; rfl
    | cons p ds ih => intro w h; obtain ⟨j, x⟩ := p; obtain ⟨u, r, h1, h2, h3⟩ := h; subst h1; simp only [List.any_cons, ih h3]
  have hmap : ∀ {d : List (Key × SV)} {w : List (Key × V)}, RVK K I as d w → RVK K I as (d.map fun kv => if kv.1 = k then (kv.1, s) else kv) (w.map fun kv => if kv.1 = k then (kv.1, v) else kv) := fun {d} => by
    induction d with
    | nil => intro w h; rw [show w = [] from h]; rfl
    | cons p ds ih =>
      intro w h; obtain ⟨j, x⟩ := p; obtain ⟨u, r, h1, h2, h3⟩ := h; subst h1
      simp only [List.map_cons]
      by_cases hj : j = k
      · rw [if_pos hj, if_pos hj]; exact ⟨v, _, rfl, hv, ih h3⟩
      · rw [if_neg hj, if_neg hj]; exact ⟨u, _, rfl, h2, ih h3⟩
  have happ : ∀ {d : List (Key × SV)} {w : List (Key × V)}, RVK K I as d w → RVK K I as (d ++ [(k, s)]) (w ++ [(k, v)]) := fun {d} => by
    induction d with
    | nil => intro w h; rw [show w = [] from h]; exact ⟨v, [], rfl, hv, rfl⟩
    | cons p ds ih => intro w h; obtain ⟨j, x⟩ := p; obtain ⟨u, r, h1, h2, h3⟩ := h; subst h1; exact ⟨u, _, rfl, h2, ih h3⟩
  unfold putS putK
  rw [hany h]
  by_cases q : (w.any fun kv => decide (kv.1 = k)) = true
  · rw [if_pos q, if_pos q]; exact hmap h
  · rw [if_neg q, if_neg q]; exact happ h
def mergeS (kvs more : List (Key × SV)) : List (Key × SV) := more.foldl (fun acc kv => putS acc kv.1 kv.2) kvs
theorem RVK.merge {I : Hp} {as : List Addr} : ∀ {m : List (Key × SV)} {mv : List (Key × V)} {d : List (Key × SV)} {w : List (Key × V)}, RVK K I as m mv → RVK K I as d w → RVK K I as (mergeS d m) (mergeK w mv)
  | [], mv, d, w, h, h' => by rw [show mv = [] from h]; exact h'
  | (k, s) :: ms, _, d, w, ⟨v, r, h1, h2, h3⟩, h' => by
    subst h1
    show RVK K I as (mergeS (putS d k s) ms) (mergeK (putK w k v) r)
    exact RVK.merge h3 (h'.put h2)
theorem RVK.length {I : Hp} {as : List Addr} : ∀ {d : List (Key × SV)} {v : List (Key × V)}, RVK K I as d v → v.length = d.length
  | [], _, h => by rw [show _ = [] from h]; rfl
  | (_, d) :: ds, _, ⟨v, r, h1, h2, h3⟩ => by rw [h1]; simp [RVK.length h3]
theorem rvk_im {I : Hp} {as : List Addr} : ∀ {ds : List (Key × D)} {ws : List (Key × V)}, RepK K I ds ws → RVK K I as (ds.map fun p => (p.1, SV.im p.2)) ws
  | [], _, h => h
  | (k, d) :: ds, _, ⟨v, r, e, h1, h2⟩ => ⟨v, r, e, h1, rvk_im h2⟩
/-- d[k] = s -/
theorem ws_dput {td ty tv : TE} (h : WE K ec W tv (fun s δ1 => WE K ec W td (fun o δ2 => WE K ec W ty (fun y δ3 => ∃ c kvs kd kk, o = .cl c ∧ δ3.ce[c]? = some (.dic kvs) ∧ dv δ3.ce y = some kd ∧ keyOf kd = some kk ∧ kvs.length < 1000 ∧ Φ.nx { δ3 with ce := δ3.ce.set c (.dic (putS kvs kk s)) }) Φ.ex δ2) Φ.ex δ1) Φ.ex δ) : WS K ec W (sDPut td ty tv) Φ δ := fun σ I as H D r c =>
  have cx : ∀ {I1 : Hp} {as1 : List Addr}, Le I as I1 as1 → ∀ (x : Xn) δ' d I' as' H', R K ec δ' σ I' as' H' → Le I1 as1 I' as' → XRel K I' as' x.fs d → Φ.ex x δ' → W (x.cls.v K) d σ H' := fun l x δ' d I' as' H' r' l' z k => c.x x δ' σ d I' as' H' r' (l.trans l') z k
  h σ I as H _ r ⟨fun s δ1 v1 I1 as1 H1 r1 l1 rv1 k1 => k1 σ I1 as1 H1 _ r1 ⟨fun o δ2 v2 I2 as2 H2 r2 l2 rv2 k2 => k2 σ I2 as2 H2 _ r2 ⟨fun y δ3 v3 I3 as3 H3 r3 l3 rv3 k3 => by
    obtain ⟨c0, kvs, kd, kk, rfl, e, ek, hk, hl, k3⟩ := k3
    obtain ⟨a, ha, rfl⟩ := rv2.mono l3
    obtain ⟨hn0, ws, hh, ra⟩ := r3.cells c0 _ a e ha
    have ev : v3 = kV kk := rep_key hk (r3.dv ek rv3)
    subst ev
    refine ⟨a, _, rfl, DPut.k hh (by rw [ra.length]; exact Nat.lt_of_lt_of_le hl (by decide)), ?_⟩
    exact c.nx _ _ I3 as3 _ (r3.setC (co := .dic (putS kvs kk s)) e rfl ha ⟨hn0, _, upd_same, ra.put (rv1.mono (l2.trans l3))⟩ rfl) ((l1.trans l2).trans l3) k3, cx (l1.trans l2)⟩, cx l1⟩, cx (Le.refl I as)⟩
/-! displays -/
def WPs (K : PySem.W.Frag) (ec : EC) (W : WX) : List (TE × TE) → (List (Key × SV) → Sta → Prop) → (Xn → Sta → Prop) → Sta → Prop
  | [], Ψ, _, δ => Ψ [] δ
  | (tk, tv) :: r, Ψ, Ξ, δ => WE K ec W tk (fun s δ1 => WE K ec W tv (fun t δ2 => WPs K ec W r (fun ps δ3 => ∃ kd kk, imS δ3.ce s = some kd ∧ keyOf kd = some kk ∧ Ψ ((kk, t) :: ps) δ3) Ξ δ2) Ξ δ1) Ξ δ
theorem wps_run : ∀ {trs : List (TE × TE)} {Ψ : List (Key × SV) → Sta → Prop} {δ : Sta} {σ : L2.St} {I : Hp} {as : List Addr} {H : Hp} {Q : List (V × V) → Hp → Prop}, WPs K ec W trs Ψ Ξ δ → R K ec δ σ I as H →
    (∀ ps δ' vs I' as' H', R K ec δ' σ I' as' H' → Le I as I' as' → RVK K I' as' ps vs → Ψ ps δ' → Q (vs.map fun kv => (kV kv.1, kv.2)) H') →
    (∀ (x : Xn) δ' d I' as' H', R K ec δ' σ I' as' H' → Le I as I' as' → XRel K I' as' x.fs d → Ξ x δ' → W (x.cls.v K) d σ H') → tPairs trs σ H Q
  | [], Ψ, δ, σ, I, as, H, Q, h, r, c, x => c [] δ [] I as H r (Le.refl I as) rfl h
  | (tk, tv) :: trs, Ψ, δ, σ, I, as, H, Q, h, r, c, x => h σ I as H _ r ⟨fun s δ1 v1 I1 as1 H1 r1 l1 rv1 k1 => k1 σ I1 as1 H1 _ r1 ⟨fun t δ2 v2 I2 as2 H2 r2 l2 rv2 k2 =>
      wps_run k2 r2 (fun ps δ3 vs I3 as3 H3 r3 l3 rv3 k3 => by
        obtain ⟨kd, kk, e1, e2, k3⟩ := k3
        have ev : v1 = kV kk := rep_key e2 (r3.imS e1 (rv1.mono (l2.trans l3)))
        subst ev
        exact c ((kk, t) :: ps) δ3 ((kk, v2) :: vs) I3 as3 H3 r3 ((l1.trans l2).trans l3) ⟨v2, vs, rfl, rv2.mono l3, rv3⟩ k3)
        (fun y δ' d I' as' H' r' l' z q => x y δ' d I' as' H' r' ((l1.trans l2).trans l') z q),
      fun y δ' d I' as' H' r' l' z q => x y δ' d I' as' H' r' (l1.trans l') z q⟩, x⟩
theorem we_disp {trs : List (TE × TE)} (h : WPs K ec W trs (fun ps δ1 => ps.length ≤ 15 ∧ δ1.ce[δ.ce.length]? = some (.dic []) ∧ Ψ (.cl δ.ce.length) { δ1 with ce := δ1.ce.set δ.ce.length (.dic (mergeS [] ps)) }) Ξ { δ with ce := δ.ce ++ [.dic []] }) : WE K ec W (tDisp trs) Ψ Ξ δ := fun σ I as H Q r c => by
  intro p hp
  have hn := none_back r.ih hp
  obtain ⟨r1, l1⟩ := r.newC (o := .dK []) (co := .dic []) hp ⟨hn, [], upd_same, rfl⟩ rfl
  refine wps_run h r1 (fun ps δ' vs I' as' H' r' l' rv k => ?_) fun x δ' d I' as' H' r' l' z q => c.x x δ' d I' as' H' r' (l1.trans l') z q
  obtain ⟨hl, e, k⟩ := k
  have ha : as'[δ.ce.length]? = some p := l'.a _ _ (by rw [← r.clen]; simp)
  obtain ⟨hn0, ws, hh, ra⟩ := r'.cells _ _ p e ha
  have : ws = [] := ra
  subst this
  refine ⟨hh, vs, rfl, by rw [rv.length]; exact hl, ?_⟩
  exact c.v (.cl δ.ce.length) _ _ I' as' _ (r'.setC (co := .dic (mergeS [] ps)) e rfl ha ⟨hn0, _, upd_same, rv.merge (d := []) (w := []) rfl⟩ rfl) (l1.trans l') ⟨p, ha, rfl⟩ k
theorem we_dispS {td : TE} {trs : List (TE × TE)} (h : WE K ec W td (fun s δ1 => ∃ kds, dv δ1.ce s = some (.dic kds) ∧ (∀ c, s = .cl c → c ≠ δ.ce.length) ∧ δ1.ce[δ.ce.length]? = some (.dic []) ∧ kds.length ≤ 1000 ∧
    WPs K ec W trs (fun ps δ2 => ps.length ≤ 15 ∧ δ2.ce[δ.ce.length]? = some (.dic (mergeS [] (kds.map fun p => (p.1, .im p.2)))) ∧ δ2.ce[δ1.ce.length]? = some (.dic []) ∧
      Ψ (.cl δ.ce.length) { δ2 with ce := (δ2.ce.set δ1.ce.length (.dic (mergeS [] ps))).set δ.ce.length (.dic (mergeS (mergeS [] (kds.map fun p => (p.1, .im p.2))) (mergeS [] ps))) }) Ξ
      { δ1 with ce := δ1.ce.set δ.ce.length (.dic (mergeS [] (kds.map fun p => (p.1, .im p.2)))) ++ [.dic []] }) Ξ { δ with ce := δ.ce ++ [.dic []] }) : WE K ec W (tDispS td trs) Ψ Ξ δ := by
  intro σ I as H Q r c p hp
  have hn := none_back r.ih hp
  obtain ⟨r1, l1⟩ := r.newC (o := .dK []) (co := .dic []) hp ⟨hn, [], upd_same, rfl⟩ rfl
  have c1 := c.later l1
  refine h σ I (as ++ [p]) _ _ r1 ⟨fun s δ1 v I1 as1 H1 r2 l2 rv k => ?_, c1.x⟩
  obtain ⟨kds, ed, hne, e0, hk, k⟩ := k
  obtain ⟨a, kvs, rfl, ha, ra⟩ := r2.dvK ed rv
  have hap : as1[δ.ce.length]? = some p := l2.a _ _ (by rw [← r.clen]; simp)
  obtain ⟨hn0, ws, hh, rr⟩ := r2.cells _ _ p e0 hap
  have : ws = [] := rr
  subst this
  have nap : a ≠ p := by
    rintro rfl
    cases s with
    | no => cases ed
    | im d =>
      cases ed
      obtain ⟨b, kv', eb, hb, _⟩ := (show Rep K I1 (.dic kds) (.ref a) from rv)
      cases eb
      rcases hb with hb | ⟨o, hb⟩ <;> (rw [hn0] at hb; cases hb)
    | cl cc =>
      obtain ⟨b, hb, eb⟩ := rv
      cases eb
      cases q : δ1.ce[cc]? with
      | none => simp only [Fx.dv] at ed; rw [q] at ed; cases ed
      | some o =>
        cases o with
        | dic kv' => exact hne cc rfl (r2.inj cc δ.ce.length _ _ a q e0 rfl rfl hb hap)
        | fz d =>
          have z := r2.cells cc _ a q hb
          simp only [Fx.dv] at ed
          rw [q] at ed
          cases ed
          obtain ⟨b', kv', eb, hb', _⟩ := (show Rep K I1 (.dic kds) (.ref a) from z)
          cases eb
          rcases hb' with hb' | ⟨o, hb'⟩ <;> (rw [hn0] at hb'; cases hb')
        | dead => simp only [Fx.dv] at ed; rw [q] at ed; cases ed
        | tbl _ => simp only [Fx.dv] at ed; rw [q] at ed; cases ed
        | exc _ _ => simp only [Fx.dv] at ed; rw [q] at ed; cases ed
        | tup xs => simp only [Fx.dv] at ed; rw [q] at ed; simp only [Option.map_eq_some_iff] at ed; obtain ⟨_, _, ed⟩ := ed; cases ed
        | lst xs => simp only [Fx.dv] at ed; rw [q] at ed; simp only [Option.map_eq_some_iff] at ed; obtain ⟨_, _, ed⟩ := ed; cases ed
        | ins C xs => simp only [Fx.dv] at ed; rw [q] at ed; simp only [Option.map_eq_some_iff] at ed; obtain ⟨_, _, ed⟩ := ed; cases ed
  refine ⟨a, kvs, rfl, nap, hh, ha, by rw [ra.length]; exact hk, fun q hq => ?_⟩
  have r3 := r2.setC (co := .dic (mergeS [] (kds.map fun p => (p.1, SV.im p.2)))) (u := .dK (mergeK [] kvs)) e0 rfl hap ⟨hn0, _, upd_same, (rvk_im ra).merge (d := []) (w := []) rfl⟩ rfl
  have hnq := none_back r3.ih hq
  obtain ⟨r4, l4⟩ := r3.newC (o := .dK []) (co := .dic []) hq ⟨hnq, [], upd_same, rfl⟩ rfl
  have c4 := (c1.later l2).later l4
  refine wps_run k r4 (fun ps δ2 vs I5 as5 H5 r5 l5 rv5 k5 => ?_) c4.x
  obtain ⟨hl, e5, e6, k5⟩ := k5
  have hp5 : as5[δ.ce.length]? = some p := l5.a _ _ (l4.a _ _ hap)
  have hq5 : as5[δ1.ce.length]? = some q := l5.a _ _ (by rw [← r2.clen]; simp)
  obtain ⟨hnp5, wp5, hhp5, rp5⟩ := r5.cells _ _ p e5 hp5
  obtain ⟨hnq5, wq5, hhq5, rq5⟩ := r5.cells _ _ q e6 hq5
  have : wq5 = [] := rq5
  subst this
  have nqp : q ≠ p := by
    rintro rfl
    have := r5.inj _ _ _ _ q e5 e6 rfl rfl hp5 hq5
    have hlt : δ.ce.length < δ1.ce.length := (List.getElem?_eq_some_iff.mp e0).1
    omega
  have lmS : ∀ (more kv : List (Key × SV)), (mergeS kv more).length ≤ kv.length + more.length := by
    intro more
    induction more with
    | nil => intro kv; simp [mergeS]
    | cons x xs ih =>
      intro kv
      have h1 := ih (putS kv x.1 x.2)
      have h2 : (putS kv x.1 x.2).length ≤ kv.length + 1 := by
        unfold putS
        split
        · simp
        · simp
      show (mergeS (putS kv x.1 x.2) xs).length ≤ _
      simp only [List.length_cons]
      omega
  have hwl : wp5.length ≤ 1000 := by
    rw [rp5.length]
    have := lmS (kds.map fun p => (p.1, SV.im p.2)) []
    simp only [List.length_map, List.length_nil] at this
    omega
  refine ⟨nqp, hhq5, wp5, vs, hhp5, hwl, rfl, by rw [rv5.length]; exact hl, ?_⟩
  have r6 := r5.setC (co := .dic (mergeS [] ps)) (u := .dK (mergeK [] vs)) e6 rfl hq5 ⟨hnq5, _, upd_same, rv5.merge (d := []) (w := []) rfl⟩ rfl
  have ne : δ1.ce.length ≠ δ.ce.length := by
    have hlt : δ.ce.length < δ1.ce.length := (List.getElem?_eq_some_iff.mp e0).1
    omega
  have r7 := r6.setC (c := δ.ce.length) (co := .dic (mergeS (mergeS [] (kds.map fun p => (p.1, SV.im p.2))) (mergeS [] ps))) (u := .dK (mergeK wp5 (mergeK [] vs))) (by show (δ2.ce.set δ1.ce.length _)[δ.ce.length]? = _; rw [List.getElem?_set_ne ne]; exact e5) rfl hp5 ⟨hnp5, _, upd_same, (rv5.merge (d := []) (w := []) rfl).merge rp5⟩ rfl
  exact c4.v (.cl δ.ce.length) _ _ I5 as5 _ r7 l5 ⟨p, hp5, rfl⟩ k5
end
end Fx

set_option Elab.async false
set_option linter.all false
set_option autoImplicit false
set_option maxRecDepth 100000
set_option maxHeartbeats 4000000
namespace Fx
open PySem L2
section
variable {K : PySem.W.Frag} {ec : EC} {W : WX} {Ξ : Xn → Sta → Prop} {δ : Sta} {ta tb te tx : TE} {Ψ : SV → Sta → Prop} {Φ : Post} {tr : TA}
/-! ## list(range(..)) -/
/-! ## for a, b in d.items(), d a cell just made: it is frozen then -/
theorem walks_items {I : Hp} {d : Addr} {o : Obj} {kvs : List (Key × V)} {kds : List (Key × D)} (hd : I d = some (.frz o (.dK kvs))) (hr : RepK K I kds kvs) : Walks K ec (Iti d o kvs) I (kds.map fun p => D.tup [match p.1 with | .inl i => .int i | .inr x => .str x, p.2]) := by
  have get : ∀ {kds : List (Key × D)} {kvs : List (Key × V)}, RepK K I kds kvs → ∀ (i : Nat) (p : Key × D), kds[i]? = some p → ∃ v, kvs[i]? = some (p.1, v) ∧ Rep K I p.2 v := fun {kds} => by
    induction kds with
    | nil => intro kvs h i p e; simp at e
    | cons q qs ih =>
      intro kvs h i p e
      obtain ⟨k, x⟩ := q
      obtain ⟨v, r, h1, h2, h3⟩ := h
      subst h1
      cases i with
      | zero => simp at e; subst e; exact ⟨v, rfl, h2⟩
      | succ i => obtain ⟨v', g1, g2⟩ := ih h3 i p (by simpa using e); exact ⟨v', by simpa using g1, g2⟩
  have hlen := hr.length
  refine ⟨fun i H e hi => ⟨e _ _ hd, by rw [hlen]; simpa using hi⟩, fun H e => ⟨e _ _ hd, by rw [hlen]; simp⟩, fun ec' i d' x H H' δ σ I2 as hd' e r y => ?_⟩
  obtain ⟨T, k, v, hk, rfl, hT, rfl⟩ := y
  rw [List.getElem?_map] at hd'
  cases q : kds[i]? with
  | none => rw [q] at hd'; cases hd'
  | some p =>
    rw [q] at hd'
    have ed : D.tup [match p.1 with | .inl i => .int i | .inr x => .str x, p.2] = d' := Option.some.inj hd'
    subst ed
    obtain ⟨v', g1, g2⟩ := get hr i p q
    rw [hk] at g1
    cases g1
    obtain ⟨r2, l2⟩ := r.newF (o := .tup [kV p.1, v]) hT
    refine ⟨_, r2, l2, T, _, rfl, SqT.of upd_same, kV p.1, [v], rfl, ?_, v, [], rfl, Rep.mono (e.trans l2.i) _ _ g2, rfl⟩
    cases p.1 with
    | inl i => exact rfl
    | inr x => exact rfl
theorem R.lock {σ : L2.St} {I : Hp} {as : List Addr} {H : Hp} (r : R K ec δ σ I as H) {c : Nat} {o : CO} {a : Addr} {u : HO} {d : D} (q : δ.ce[c]? = some o) (hl : o.live = true) (ha : as[c]? = some a) (hd : Rep K (upd I a u) d (.ref a)) (hut : ∀ ps, u ≠ .tbl ps := by intro _ z; cases z) :
    R K ec { δ with ce := δ.ce.set c (.fz d) } σ (upd I a u) as (upd H a u) ∧ Le I as (upd I a u) as := by
  have z := r.cells c o a q ha
  obtain ⟨hn, w0, hw0⟩ := z.free hl
  have hc : c < δ.ce.length := lt_of_get q
  have le : Le I as (upd I a u) as := ⟨same_upd hn, fun _ _ h => h⟩
  refine ⟨⟨fun b w h => ?_, fun c' o' a' h1 h2 l' => ?_, fun b w h => ?_, fun b w h => ?_, r.len, fun i s h => ?_, by simp [r.clen], fun c' o' a' h1 h2 => ?_, fun c1 c2 o1 o2 a1 h1 h2 l1 l2 h3 h4 => ?_, it_upd r.it hut⟩, le⟩
  · exact (r.fh b w h).upd (ne_fr h (r.cf c o a q ha hl)) le.i
  · by_cases hcc : c' = c
    · subst hcc
      simp only [List.getElem?_set_self hc] at h1
      cases h1; cases l'
    · simp only [List.getElem?_set_ne (Ne.symm hcc)] at h1
      exact r.cf c' o' a' h1 h2 l'
  · rw [upd_ne (ne_fr h (r.cf c o a q ha hl))]; exact r.fi b w h
  · by_cases hb : b = a
    · subst hb; rw [upd_same] at h ⊢; exact h
    · rw [upd_ne hb] at h ⊢; exact r.ih b w h
  · rcases r.slots i s h with h | ⟨v, h1, h2⟩
    · exact .inl h
    · exact .inr ⟨v, h1, h2.mono le⟩
  · by_cases hcc : c' = c
    · subst hcc
      simp only [List.getElem?_set_self hc] at h1
      cases h1
      rw [ha] at h2; cases h2
      exact hd
    · simp only [List.getElem?_set_ne (Ne.symm hcc)] at h1
      have z' := r.cells c' o' a' h1 h2
      have ne : o'.live = true → a' ≠ a := fun l ea => hcc (r.inj c' c o' o a' h1 q l hl h2 (ea ▸ ha))
      refine z'.mono le (fun l => ?_) fun l w hw => ?_
      · rw [upd_ne (ne l)]; exact (z'.free l).1
      · rw [upd_ne (ne l)]; exact hw
  · have n1 : c1 ≠ c := fun z => by subst z; simp only [List.getElem?_set_self hc] at h1; cases h1; cases l1
    have n2 : c2 ≠ c := fun z => by subst z; simp only [List.getElem?_set_self hc] at h2; cases h2; cases l2
    simp only [List.getElem?_set_ne (Ne.symm n1)] at h1
    simp only [List.getElem?_set_ne (Ne.symm n2)] at h2
    exact r.inj c1 c2 o1 o2 a1 h1 h2 l1 l2 h3 h4
def pairsD (kds : List (Key × D)) : List D := kds.map fun p => D.tup [match p.1 with | .inl i => .int i | .inr x => .str x, p.2]
theorem wi_items {Ψi : List D → Sta → Prop} (h : WE K ec W te (fun s δ1 => ∃ c kvs kds, s = .cl c ∧ δ1.ce[c]? = some (.dic kvs) ∧ imK δ1.ce kvs = some kds ∧ Ψi (pairsD kds) { δ1 with ce := δ1.ce.set c (.fz (.dic kds)) }) Ξ δ) : WI K ec W (iItems (tLk te)) Ψi Ξ δ := fun σ I as H Q r c =>
  h σ I as H _ r ⟨fun s δ1 v I1 as1 H1 r1 l1 rv k => by
    obtain ⟨c0, kvs, kds, rfl, e, ek, k⟩ := k
    obtain ⟨a, ha, rfl⟩ := rv
    obtain ⟨hn, vs, hh, ra⟩ := r1.cells c0 _ a e ha
    have rk := r1.imK ek ra
    refine ⟨a, vs, rfl, hh, fun o => ?_⟩
    have sm : Same I1 (upd I1 a (.frz o (.dK vs))) := same_upd hn
    obtain ⟨r2, l2⟩ := r1.lock (u := .frz o (.dK vs)) (d := .dic kds) e rfl ha ⟨a, vs, rfl, .inr ⟨o, upd_same⟩, RepK.mono sm _ _ rk⟩
    exact ⟨a, o, vs, rfl, upd_same, c.v _ _ _ _ as1 _ r2 (l1.trans l2) (walks_items upd_same (RepK.mono sm _ _ rk)) k⟩, c.x⟩
/-! ## dict(d), d.update(e) -/
def rDictD : List V → Hp → VK → Prop := fun xs H Q => ∃ (a : Addr) (kvs : List (Key × V)), xs = [.ref a] ∧ Rd H a (.dK kvs) ∧ ∀ p, H p = none → Q (.ref p) (upd H p (.dK kvs))
theorem cb_dict {s : SV} {kds : List (Key × D)} (e : dv δ.ce s = some (.dic kds)) (k : Ψ (.cl δ.ce.length) { δ with ce := δ.ce ++ [.dic (kds.map fun p => (p.1, SV.im p.2))] }) : CbW K ec rDictD [s] Ψ δ := by
  intro σ I as H Q vs r h1 c
  obtain ⟨w, t, rfl, h, rfl⟩ := h1
  obtain ⟨a, kvs, rfl, ha, ra⟩ := r.dvK e h
  refine ⟨a, kvs, rfl, ha, fun p hp => ?_⟩
  have hn := none_back r.ih hp
  obtain ⟨r2, l2⟩ := r.newC (o := .dK kvs) (co := .dic (kds.map fun p => (p.1, SV.im p.2))) hp ⟨hn, kvs, upd_same, rvk_im ra⟩ rfl
  exact c (.cl δ.ce.length) _ _ I (as ++ [p]) _ r2 l2 ⟨p, by rw [← r.clen]; simp, rfl⟩ k
/-- a method of a built-in, by values -/
def MtW (K : PySem.W.Frag) (ec : EC) (T : String) (r : V → List V → Hp → VK → Prop) (s : SV) (ss : List SV) (Ψ : SV → Sta → Prop) (δ : Sta) : Prop :=
  ∀ (σ : L2.St) (I : Hp) (as : List Addr) (H : Hp) (Q : VK) (v : V) (vs : List V), R K ec δ σ I as H → RV K I as s v → RVL K I as ss vs →
    (∀ s δ' v I' as' H', R K ec δ' σ I' as' H' → Le I as I' as' → RV K I' as' s v → Ψ s δ' → Q v H') → r v vs H Q
def TyS (K : PySem.W.Frag) (ec : EC) (T : String) (s : SV) (δ : Sta) : Prop := ∀ (σ : L2.St) (I : Hp) (as : List Addr) (H : Hp) (v : V), R K ec δ σ I as H → RV K I as s v → tyV K T v H
theorem we_bm {T : String} {r : V → List V → Hp → VK → Prop} (h : WE K ec W ta (fun s δ1 => TyS K ec T s δ1 ∧ WA K ec W tr (fun ss δ2 => MtW K ec T r s ss Ψ δ2) Ξ δ1) Ξ δ) : WE K ec W (tBM K T r ta tr) Ψ Ξ δ := fun σ I as H Q r c =>
  h σ I as H _ r ⟨fun s δ1 v I1 as1 H1 r1 l1 rv k => ⟨k.1 σ I1 as1 H1 v r1 rv, k.2 σ I1 as1 H1 _ r1 ⟨fun ss δ2 vs I2 as2 H2 r2 l2 rv2 k2 => k2 σ I2 as2 H2 Q v vs r2 (rv.mono l2) rv2 ((c.later l1).later l2).v, (c.later l1).x⟩⟩, c.x⟩
theorem ty_dicC {c : Nat} {kvs : List (Key × SV)} (e : δ.ce[c]? = some (.dic kvs)) : TyS K ec "dict" (.cl c) δ := fun σ I as H v r rv => by
  obtain ⟨a, ha, rfl⟩ := rv
  obtain ⟨_, vs, hh, _⟩ := r.cells c _ a e ha
  exact .inr (.inr (.inl ⟨rfl, .inl ⟨vs, hh⟩⟩))
theorem mt_update' {c : Nat} {kvs : List (Key × SV)} {s : SV} {kds : List (Key × D)} (e : δ.ce[c]? = some (.dic kvs)) (es : dv δ.ce s = some (.dic kds)) (hne : ∀ c', s = .cl c' → c' ≠ c) (hl : kvs.length + kds.length ≤ 1000) (k : Ψ (.im .non) { δ with ce := δ.ce.set c (.dic (mergeS kvs (kds.map fun p => (p.1, SV.im p.2)))) }) : MtW K ec "dict" rUpdD (.cl c) [s] Ψ δ := by
  intro σ I as H Q v vs r rv rvs cc
  obtain ⟨a, ha, rfl⟩ := rv
  obtain ⟨w, _, rfl, hw, rfl⟩ := rvs
  obtain ⟨hn, ws, hh, ra⟩ := r.cells c _ a e ha
  obtain ⟨b, kv', rfl, hb, rb⟩ := r.dvK es hw
  have nab : a ≠ b := by
    rintro rfl
    cases s with
    | no => cases es
    | im d =>
      cases es
      obtain ⟨b', kv2, eb, hb', _⟩ := (show Rep K I (.dic kds) (.ref a) from hw)
      cases eb
      rcases hb' with hb' | ⟨o, hb'⟩ <;> (rw [hn] at hb'; cases hb')
    | cl c' =>
      obtain ⟨b', hb', eb⟩ := hw
      cases eb
      cases q : δ.ce[c']? with
      | none => simp only [Fx.dv] at es; rw [q] at es; cases es
      | some o =>
        cases o with
        | dic kv2 => exact hne c' rfl (r.inj c' c _ _ a q e rfl rfl hb' ha)
        | fz d =>
          have z := r.cells c' _ a q hb'
          simp only [Fx.dv] at es
          rw [q] at es
          cases es
          obtain ⟨b2, kv2, eb, hb2, _⟩ := (show Rep K I (.dic kds) (.ref a) from z)
          cases eb
          rcases hb2 with hb2 | ⟨o, hb2⟩ <;> (rw [hn] at hb2; cases hb2)
        | dead => simp only [Fx.dv] at es; rw [q] at es; cases es
        | tbl _ => simp only [Fx.dv] at es; rw [q] at es; cases es
        | exc _ _ => simp only [Fx.dv] at es; rw [q] at es; cases es
        | tup xs => simp only [Fx.dv] at es; rw [q] at es; simp only [Option.map_eq_some_iff] at es; obtain ⟨_, _, es⟩ := es; cases es
        | lst xs => simp only [Fx.dv] at es; rw [q] at es; simp only [Option.map_eq_some_iff] at es; obtain ⟨_, _, es⟩ := es; cases es
        | ins C xs => simp only [Fx.dv] at es; rw [q] at es; simp only [Option.map_eq_some_iff] at es; obtain ⟨_, _, es⟩ := es; cases es
  refine ⟨a, b, ws, kv', rfl, rfl, nab, hh, hb, by rw [ra.length, rb.length]; exact Nat.le_trans hl (by decide), ?_⟩
  exact cc (.im .non) _ _ I as _ (r.setC (co := .dic (mergeS kvs (kds.map fun p => (p.1, SV.im p.2)))) e rfl ha ⟨hn, _, upd_same, (rvk_im rb).merge ra⟩ rfl) (Le.refl I as) rfl k
end
end Fx

set_option Elab.async false
set_option linter.all false
set_option autoImplicit false
set_option maxRecDepth 100000
set_option maxHeartbeats 2000000
namespace Fx
open PySem PySem.Spec PyProof.Rows L2
/-! ## defs that are called where no repr is under way -/
structure RoomG (k : Nat) (A : Around) : Prop where
  r : Room k A
  gd : 100 ≤ k → A.guards = some []
theorem RoomG.mono {j k : Nat} {A : Around} (r : RoomG k A) (h : j ≤ k) : RoomG j A := ⟨r.r.mono h, fun z => r.gd (Nat.le_trans z h)⟩
theorem RoomG.deeper {k : Nat} {A : Around} (r : RoomG (k + 1) A) (env : Env) : RoomG k (A.deeper env) := ⟨r.r.deeper env, fun z => r.gd (Nat.le_succ_of_le z)⟩
theorem RoomG.make {k : Nat} {A : Around} (r : RoomG (k + 1) A) (C : Addr) (us : List Value) (kw : List (Str × Value)) : RoomG k (A.under (.builtin "type.__call__" ⟨.ref C :: us, kw⟩)) := by
  refine ⟨r.r.make C us kw, fun z => ?_⟩
  have g := r.gd (Nat.le_succ_of_le z)
  have e : (Code.builtin "type.__call__" ⟨.ref C :: us, kw⟩).isGuard = false := by
    show guardIds.contains "type.__call__" = false
    decide +kernel
  simp [Around.under, Code.guards, e, pushGuards, g]
structure FnG (P : Program) (w : World) (K : PySem.W.Frag) (mg : Str → Option Value) (base : Heap) (CX : CXT) (k : Nat) (f : Addr) (fd : FuncData) (ps : List Str) (sp : Sp) : Prop where
  len : ∀ vs H Q E, sp vs H Q E → vs.length = ps.length
  run : ∀ (A : Around) (outer : List Env) (s : Shared) (H : Hp) (args : Args) (us : List Value) (vs : List V) (Q : VK) (E : XK), RoomG k A → Env0 P w K mg base A outer s H → BindsTo s fd args (ps.zip us) → Vals vs us → sp vs H Q E →
    codeAny (model P w) A (.call (.ref f) args) (CR CX outer P w H s Q E) s
theorem FnG.mono {P : Program} {w : World} {K : PySem.W.Frag} {mg : Str → Option Value} {base : Heap} {CX : CXT} {j k : Nat} {f : Addr} {fd : FuncData} {ps : List Str} {sp : Sp} (F : FnG P w K mg base CX j f fd ps sp) (h : j ≤ k) :
    FnG P w K mg base CX k f fd ps sp := ⟨F.len, fun A outer s H args us vs Q E hr => F.run A outer s H args us vs Q E (hr.mono h)⟩
theorem okG {P : Program} {w : World} {K : PySem.W.Frag} {mg : Str → Option Value} {base : Heap} {x qual : Str} {params : Arguments} {body : List Stmt} {scope : Scope} {dvs : List V} {kws : List (Str × V)} {f : Addr} {fd : FuncData} {CX : CXT} {N ps : List Str} {k : Nat} {sp : Sp} (F : FunD K x qual params body scope dvs kws f fd) (S : FnScope N ps scope) (len : ∀ vs H Q E, sp vs H Q E → vs.length = ps.length)
    (hbody : ∀ (cdv : Value) (A : Around) (outer : List Env) (s : Shared) (H : Hp) (vs : List V) (Q : VK) (E : XK), RoomG k (A.deeper (envOfC qual scope s.heap.objs.size f cdv)) → sp vs H Q E →
      ∃ t, PSs (cxOf CX P w K mg base N qual scope f cdv A outer s H E) body t ∧ t { nx := fun _ H' => Q .non H', rt := Q } (L2.start N vs) H) : FnG P w K mg base CX (k + 1) f fd ps sp := by
  obtain ⟨oc, od, dV, kV, doc, pm, an, cdv, ct, osl, rfl, lk, hcd, _, _⟩ := F.ex
  refine ⟨len, fun A outer s H args us vs Q E hr e0 hb r hsp => ?_⟩
  refine StX.run_bnd lk hcd S hr.r e0 (G := fun xs H2 => xs = vs ∧ H2 = H) (fun A' Ex Q' h => hb _ _ _ _ ?_) fun s2 H2 xs g hr' => ?_
  · exact h s H vs us e0 Un.refl rfl (fun _ _ z => z) r (len _ _ _ _ hsp) ⟨rfl, rfl⟩
  · obtain ⟨rfl, rfl⟩ := g
    exact hbody cdv A outer s2 H2 xs Q E ⟨hr', fun z => hr.gd (Nat.le_succ_of_le z)⟩ hsp
theorem run_fnG {X : Cx} {CX : CXT} {k : Nat} {f : Addr} {fd : FuncData} {ps : List Str} {sp : Sp} {E : L2.St → XK} {ds : List Value} {dvs : List V} {pins : List (Addr × Obj)} {σ : L2.St} {H : Hp} {s : Shared} {Q : VK} {us : List Value} {vs : List V} (F : FnG X.prog X.w X.K X.mg X.base CX k f fd ps sp) (hr : RoomG k X.A) (hb : Binds X.K fd ps ds) (hd : Vals dvs ds) (hx : PassesAt CX X σ (E σ))
    (I : Inv X pins σ H s) (r : Vals vs us) (h : sp (vs ++ dvs) H Q (E σ)) : wpAny (model X.prog X.w) X.A (call (.ref f) us) (EP X pins σ Q) X.xe s := by
  have r2 : Vals (vs ++ dvs) (us ++ ds) := r.append hd
  have hl : (us ++ ds).length = ps.length := by rw [← r2.length]; exact F.len _ _ _ _ h
  refine wpAny_call (codeAny_mono (F.run X.A X.stack s H ⟨us, []⟩ (us ++ ds) (vs ++ dvs) Q (E σ) hr I.env0 (hb s us I.kIn hl) r2 h) fun r s' hq => ?_)
  cases r with
  | error e => exact hx pins H s e s' I hq
  | ok fl =>
    cases fl with
    | ret u => exact I.after hq
    | next => exact False.elim hq
    | brk => exact False.elim hq
    | cont => exact False.elim hq
end Fx

set_option Elab.async false
set_option linter.all false
set_option autoImplicit false
set_option maxRecDepth 100000
set_option maxHeartbeats 2000000
namespace Fx
open PySem L2

/-! ## outcomes -/
inductive Out (S α : Type) where
  | ok (a : α) (s : S) | ex (x : Xn) (s : S) | bad
namespace Out
variable {S α β : Type}
def bind (o : Out S α) (f : α → S → Out S β) : Out S β := match o with
  | .ok a s => f a s
  | .ex x s => .ex x s
  | .bad => .bad
def sat (o : Out S α) (Ψ : α → S → Prop) (Ξ : Xn → S → Prop) : Prop := match o with
  | .ok a s => Ψ a s
  | .ex x s => Ξ x s
  | .bad => False
theorem sat_bind {o : Out S α} {f : α → S → Out S β} {Ψ : β → S → Prop} {Ξ : Xn → S → Prop} (h : (o.bind f).sat Ψ Ξ) : o.sat (fun a s => (f a s).sat Ψ Ξ) Ξ := by
  cases o <;> exact h
theorem sat_mono {o : Out S α} {Ψ Ψ' : α → S → Prop} {Ξ Ξ' : Xn → S → Prop} (h : o.sat Ψ Ξ) (h1 : ∀ a s, Ψ a s → Ψ' a s) (h2 : ∀ x s, Ξ x s → Ξ' x s) : o.sat Ψ' Ξ' := by
  cases o with
  | ok a s => exact h1 _ _ h
  | ex x s => exact h2 _ _ h
  | bad => exact h
@[simp] theorem bind_ok (a : α) (s : S) (f : α → S → Out S β) : (Out.ok a s).bind f = f a s := rfl
@[simp] theorem bind_ex (x : Xn) (s : S) (f : α → S → Out S β) : (Out.ex x s).bind f = .ex x s := rfl
@[simp] theorem bind_bad (f : α → S → Out S β) : (Out.bad : Out S α).bind f = .bad := rfl
end Out
abbrev O (α : Type) := Out Sta α
abbrev AE := Sta → O SV
abbrev AT := Sta → O Bool
abbrev AA := Sta → O (List SV)
abbrev AI := Sta → O (List D)
abbrev AG := SV → Sta → Option Sta
abbrev Xs := List (Addr × Value × Option Addr)
def SE (K : PySem.W.Frag) (xs : Xs) (W : WX) (te : TE) (a : AE) : Prop := ∀ fr δ Ψ Ξ, (a δ).sat Ψ Ξ → WE K ⟨xs, fr⟩ W te Ψ Ξ δ
def ST (K : PySem.W.Frag) (xs : Xs) (W : WX) (te : TT) (a : AT) : Prop := ∀ fr δ Ψ Ξ, (a δ).sat Ψ Ξ → WT K ⟨xs, fr⟩ W te Ψ Ξ δ
def SA (K : PySem.W.Frag) (xs : Xs) (W : WX) (te : TA) (a : AA) : Prop := ∀ fr δ Ψ Ξ, (a δ).sat Ψ Ξ → WA K ⟨xs, fr⟩ W te Ψ Ξ δ
def SI (K : PySem.W.Frag) (xs : Xs) (W : WX) (te : TI) (a : AI) : Prop := ∀ fr δ Ψ Ξ, (a δ).sat Ψ Ξ → WI K ⟨xs, fr⟩ W te Ψ Ξ δ
def SG (K : PySem.W.Frag) (xs : Xs) (g : TG) (a : AG) : Prop := ∀ fr s δ (Φ : Sta → Prop), (match a s δ with | some δ' => Φ δ' | none => False) → WG K ⟨xs, fr⟩ g s Φ δ
/-! ## values -/
def aC (d : D) : AE := fun δ => .ok (.im d) δ
def nrm (ce : List CO) : SV → SV
  | .cl c => match ce[c]? with
    | some (.fz d) => .im d
    | _ => .cl c
  | s => s
def aVar (i : Nat) : AE := fun δ => match δ.sl[i]? with
  | some .no => .bad
  | some s => .ok (nrm δ.ce s) δ
  | none => .bad
section
variable {K : PySem.W.Frag} {xs : Xs} {W : WX}
theorem nrm_rv {ec : EC} {δ : Sta} {σ : L2.St} {I : Hp} {as : List Addr} {H : Hp} (r : R K ec δ σ I as H) {s : SV} {v : V} (h : RV K I as s v) : RV K I as (nrm δ.ce s) v := by
  cases s with
  | no => exact h
  | im d => exact h
  | cl c =>
    unfold nrm
    dsimp only
    split
    · rename_i d q
      exact r.imS (s := .cl c) (by simp only [Fx.imS, q]) h
    · exact h
theorem se_var (i : Nat) : SE K xs W (tVar i) (aVar i) := by
  intro fr δ Ψ Ξ h σ I as H Q r c
  unfold aVar at h
  cases q : δ.sl[i]? with
  | none => rw [q] at h; exact h.elim
  | some s =>
    rw [q] at h
    cases s with
    | no => exact h.elim
    | im d =>
      rcases r.slots i _ q with z | ⟨v, h1, h2⟩
      · cases z
      · exact ⟨v, h1, c.v _ δ v I as H r (Le.refl I as) (nrm_rv r h2) h⟩
    | cl cc =>
      rcases r.slots i _ q with z | ⟨v, h1, h2⟩
      · cases z
      · exact ⟨v, h1, c.v _ δ v I as H r (Le.refl I as) (nrm_rv r h2) h⟩
theorem se_int (i : Int) : SE K xs W (tC (.int i)) (aC (.int i)) := fun fr δ Ψ Ξ h => we_int h
theorem se_str (x : Str) : SE K xs W (tC (.str x)) (aC (.str x)) := fun fr δ Ψ Ξ h => we_str h
theorem se_bl (b : Bool) : SE K xs W (tC (.bl b)) (aC (.bl b)) := fun fr δ Ψ Ξ h => we_bl h
theorem se_non : SE K xs W (tC .non) (aC .non) := fun fr δ Ψ Ξ h => we_non h
theorem se_ty (n : String) : SE K xs W (tC (.ty n)) (aC (.ty n)) := fun fr δ Ψ Ξ h => we_ty h
theorem se_glo (x : Str) : SE K xs W (tC (.ref (He.ga K x))) (aC (.glo x)) := fun fr δ Ψ Ξ h => we_glo h
/-! ## operators -/
abbrev AOp := SV → SV → Sta → O SV
def aOp (o : AOp) (a b : AE) : AE := fun δ => (a δ).bind fun s δ1 => (b δ1).bind fun t δ2 => o s t δ2
def OpOk (K : PySem.W.Frag) (xs : Xs) (r : R2) (o : AOp) : Prop := ∀ fr s t δ (Ψ : SV → Sta → Prop) Ξ, (o s t δ).sat Ψ Ξ → OpW K ⟨xs, fr⟩ r s t Ψ δ
theorem se_op {r : R2} {o : AOp} {ta tb : TE} {a b : AE} (ho : OpOk K xs r o) (ha : SE K xs W ta a) (hb : SE K xs W tb b) : SE K xs W (tOp r ta tb) (aOp o a b) := fun fr δ Ψ Ξ h =>
  we_op (ha fr δ _ _ (Out.sat_mono (Out.sat_bind h) (fun s δ1 h1 => hb fr δ1 _ _ (Out.sat_mono (Out.sat_bind h1) (fun t δ2 h2 => ho fr s t δ2 Ψ Ξ h2) fun _ _ z => z)) fun _ _ z => z))
/-- an operator on data -/
def dOp (f : D → D → Option D) : AOp := fun s t δ => match dv δ.ce s, dv δ.ce t with
  | some x, some y => match f x y with
    | some d => .ok (.im d) δ
    | none => .bad
  | _, _ => .bad
theorem dOp_ok {r : R2} {f : D → D → Option D} (h : ∀ (ec : EC) (δ : Sta) (s t : SV) (x y d : D) (Ψ : SV → Sta → Prop), dv δ.ce s = some x → dv δ.ce t = some y → f x y = some d → Ψ (.im d) δ → OpW K ec r s t Ψ δ) : OpOk K xs r (dOp f) := by
  intro fr s t δ Ψ Ξ q
  unfold dOp at q
  cases e1 : dv δ.ce s with
  | none => rw [e1] at q; exact q.elim
  | some x =>
    cases e2 : dv δ.ce t with
    | none => rw [e1, e2] at q; exact q.elim
    | some y =>
      rw [e1, e2] at q
      dsimp only at q
      cases e3 : f x y with
      | none => rw [e3] at q; exact q.elim
      | some d => rw [e3] at q; exact h _ δ s t x y d Ψ e1 e2 e3 q
@[simp] theorem dOp_im (f : D → D → Option D) (x y : D) (δ : Sta) : dOp f (.im x) (.im y) δ = match f x y with | some d => .ok (.im d) δ | none => .bad := rfl
end

/-! the rules of the machine, by the operator -/
section
variable {X : Cx}
def rMulStr : R2 := fun x y H Q => ∃ (a : Str) (n : Int), x = .str a ∧ y = .int n ∧ MulOk a n ∧ Q (.str (Txt.mul a n)) H
theorem op_mul_str : OpR X (binaryOp .Mult) rMulStr := by
  intro pins s σ H x y u v Q I rx ry h
  obtain ⟨a, n, rfl, rfl, hok, q⟩ := h
  obtain ⟨t, rfl⟩ := (show ∃ t, u = Value.str a t from rx)
  obtain ⟨t', rfl⟩ := (show ∃ t', v = Value.int n t' from ry)
  exact SB.mul hok fun t' k => ⟨.str (Txt.mul a n), H, I.tok k, ⟨_, rfl⟩, q⟩
def rAddA (K : PySem.W.Frag) : R2 := fun x y H Q => rI0 (fun i j => .int (i + j)) x y H Q ∨ (rAddStr x y H Q ∨ (rCat x y H Q ∨ rCatA K x y H Q))
theorem op_addA : OpR X (binaryOp .Add) (rAddA X.K) := op_add.or (op_add_str.or (op_cat.or op_catA))
def rMulA : R2 := fun x y H Q => rI CMul (fun i j => .int (i * j)) x y H Q ∨ (rMulStr x y H Q ∨ rRep x y H Q)
theorem op_mulA : OpR X (binaryOp .Mult) rMulA := op_mul.or (op_mul_str.or op_rep)
def rEqA (K : PySem.W.Frag) : R2 := fun x y H Q => rEq x y H Q ∨ rEqD K x y H Q
def rNeA (K : PySem.W.Frag) : R2 := fun x y H Q => rNe x y H Q ∨ rNeD K x y H Q
theorem op_eqA {k : Nat} (hr : RoomG k X.A) : OpR X (compareOp .Eq) (rEqA X.K) := op_eq.or (op_eqD hr.r.units)
theorem op_neA {k : Nat} (hr : RoomG k X.A) : OpR X (compareOp .NotEq) (rNeA X.K) := op_ne.or (op_neD hr.r.units)
def rLtA : R2 := fun x y H Q => rI0 (fun i j => .bl (decide (i < j))) x y H Q ∨ rLtStr x y H Q
theorem op_ltA : OpR X (compareOp .Lt) rLtA := op_lt.or op_lt_str
def rGt0 : R2 := rI0 fun i j => .bl (decide (j < i))
def rGe0 : R2 := rI0 fun i j => .bl (decide (j ≤ i))
theorem op_gtA : OpR X (compareOp .Gt) rGt0 := op_gt
theorem op_geA : OpR X (compareOp .GtE) rGe0 := op_ge
def rDiv0 : R2 := rI CDiv fun i j => .int (i / j)
def rMod0 : R2 := rI (fun _ j => 0 < j) fun i j => .int (i % j)
def rPow0 : R2 := rI CPow fun i j => .int (i ^ j.toNat)
theorem op_fdivA : OpR X (binaryOp .FloorDiv) rDiv0 := op_fdiv
theorem op_modA : OpR X (binaryOp .Mod) rMod0 := op_mod
theorem op_powA : OpR X (binaryOp .Pow) rPow0 := op_pow
def rInDc (neg : Bool) : R2 := fun y x H Q => ∃ a o, x = .ref a ∧ DGet H a y o ∧ Q (.bl (if neg then !o.isSome else o.isSome)) H
theorem op_inD (hu : X.A.units + 1 < cLine) : OpR X (compareOp .In) (rInDc false) := by
  intro pins s σ H x y v u Q I rx ry h
  obtain ⟨a, o, rfl, g, q⟩ := h
  obtain rfl : u = Value.ref a := ry
  exact d_in hu I g rx fun s3 I3 => ⟨.bl o.isSome, H, I3, rfl, q⟩
def rInStr : R2 := fun x y H Q => ∃ i j, x = .str i ∧ y = .str j ∧ Q (.bl (!(Builtin.Str.occurrences j i 0 j.length 1).isEmpty)) H
def rInA (K : PySem.W.Frag) : R2 := fun x y H Q => rIn K false x y H Q ∨ (rInStr x y H Q ∨ rInDc false x y H Q)
theorem op_inA (hu : X.A.units + 1 < cLine) : OpR X (compareOp .In) (rInA X.K) := op_in_seq.or (op_in_str.or (op_inD hu))
end
/-! the operators on data -/
def addD : D → D → Option D
  | .int i, .int j => some (.int (i + j))
  | .str a, .str b => if a.length + b.length ≤ 1000000 then some (.str (a ++ b)) else none
  | .lst xs, .lst ys => if xs.length + ys.length ≤ 1000000 then some (.lst (xs ++ ys)) else none
  | _, _ => none
def subD : D → D → Option D
  | .int i, .int j => some (.int (i - j))
  | _, _ => none
def mulD : D → D → Option D
  | .int i, .int j => if (-18446744073709551616 < i ∧ i < 18446744073709551616) ∨ (-18446744073709551616 < j ∧ j < 18446744073709551616) then some (.int (i * j)) else none
  | .str a, .int n => if a.length ≤ 1000 ∧ -1000 ≤ n ∧ n ≤ 1000 then some (.str (Txt.mul a n)) else none
  | _, _ => none
def fdivD : D → D → Option D
  | .int i, .int j => if 0 < j ∧ j < 1073741824 then some (.int (i / j)) else none
  | _, _ => none
def modD : D → D → Option D
  | .int i, .int j => if 0 < j then some (.int (i % j)) else none
  | _, _ => none
def powD : D → D → Option D
  | .int i, .int j => if 0 ≤ j ∧ j ≤ 1000000 ∧ i.natAbs < 18446744073709551616 then some (.int (i ^ j.toNat)) else none
  | _, _ => none
def ltD : D → D → Option D
  | .int i, .int j => some (.bl (decide (i < j)))
  | .str i, .str j => some (.bl (decide (i.cps.toList < j.cps.toList)))
  | _, _ => none
def leD : D → D → Option D
  | .int i, .int j => some (.bl (decide (i ≤ j)))
  | _, _ => none
def gtD : D → D → Option D
  | .int i, .int j => some (.bl (decide (j < i)))
  | _, _ => none
def geD : D → D → Option D
  | .int i, .int j => some (.bl (decide (j ≤ i)))
  | _, _ => none
mutual
def toP : D → Option PyData
  | .non => some .none
  | .bl b => some (.bool b)
  | .int i => some (.int i)
  | .str x => some (.str x)
  | .lst xs => (toPL xs).map .list
  | .tup xs => (toPL xs).map .tuple
  | _ => none
def toPL : List D → Option (List PyData)
  | [] => some []
  | x :: xs => match toP x, toPL xs with
    | some p, some ps => some (p :: ps)
    | _, _ => none
end
def deB (x y : D) : Option Bool := match toP x, toP y with
  | some p, some q => if SeqAt.shaped p = true ∧ SeqAt.shaped q = true then some (PyData.eqv p q) else none
  | _, _ => none
/-- texts beside single values -/
def scB : D → D → Option Bool
  | .str a, .str b => some (decide (a = b))
  | .str _, .non => some false
  | .non, .str _ => some false
  | .str _, .int _ => some false
  | .int _, .str _ => some false
  | .str _, .bl _ => some false
  | .bl _, .str _ => some false
  | _, _ => none
def eqB (x y : D) : Option Bool := match scB x y with
  | some b => some b
  | none => deB x y
def eqD (x y : D) : Option D := (eqB x y).map .bl
def neD (x y : D) : Option D := (eqB x y).map fun b => .bl (!b)
def isD : D → D → Option D
  | x, .non => some (.bl (isNon x))
  | .bl a, .bl b => some (.bl (decide (a = b)))
  | _, _ => none
def isnotD : D → D → Option D
  | x, .non => some (.bl (!isNon x))
  | .bl a, .bl b => some (.bl (!decide (a = b)))
  | _, _ => none
def eqF : D → D → Bool
  | .non, .non => true
  | .bl a, .bl b => a == b
  | .bl a, .int b => (if a then 1 else 0) == b
  | .int a, .bl b => a == (if b then 1 else 0)
  | .int a, .int b => a == b
  | .str a, .str b => a == b
  | _, _ => false
def flatD : D → Bool
  | .non => true | .bl _ => true | .int _ => true | .str _ => true | _ => false
def inF (x : D) (xs : List D) : Bool := xs.any fun y => eqF y x
def inB (x : D) : D → Option Bool
  | .lst xs => if flatD x = true ∧ xs.all flatD = true then some (inF x xs) else none
  | .tup xs => if flatD x = true ∧ xs.all flatD = true then some (inF x xs) else none
  | .str b => match x with
    | .str a => some (!(Builtin.Str.occurrences b a 0 b.length 1).isEmpty)
    | _ => none
  | .dic kvs => match keyOf x with
    | some k => some (lookD kvs k).isSome
    | none => none
  | _ => none
def inD (x y : D) : Option D := (inB x y).map .bl
section
variable {K : PySem.W.Frag} {xs : Xs}
theorem line_le {n : Nat} (h : n ≤ 1000000) : n ≤ sizeLine := Nat.le_trans h (by decide)
theorem ok_add0 : OpOk K xs (rAddA K) (dOp addD) := dOp_ok fun ec δ s t x y d Ψ e1 e2 h k => by
  unfold addD at h
  split at h
  · cases h; exact ow_l (ow_add e1 e2 k)
  · split at h
    · rename_i hl; cases h; exact ow_r (ow_l (ow_addS e1 e2 (line_le hl) k))
    · cases h
  · rename_i xs ys
    split at h
    · rename_i hl
      cases h
      refine ow_r (ow_r (ow_l ?_))
      intro σ I as H Q v w r h1 h2 c
      obtain ⟨a, vs, rfl, ha, ra⟩ := r.dvL e1 h1
      obtain ⟨b, ws, rfl, hb, rb⟩ := r.dvL e2 h2
      refine ⟨a, b, vs, ws, rfl, rfl, ha, hb, ?_, fun p hp => ?_⟩
      · rw [ra.length, rb.length]; exact line_le hl
      · obtain ⟨r', l⟩ := r.newF (o := .lst (vs ++ ws)) hp
        exact c (.im (.lst (xs ++ ys))) δ _ _ as _ r' l ⟨p, _, rfl, upd_same, RepL.mono l.i _ _ (ra.append rb)⟩ k
    · cases h
  · cases h
/-- + : of tuples, else of ints, texts, lists -/
def addA : AOp := fun s t δ => match imS δ.ce s, imS δ.ce t with
  | some (.tup xs), some (.tup ys) => if xs.length + ys.length ≤ 1000000 then .ok (.im (.tup (xs ++ ys))) δ else .bad
  | _, _ => dOp addD s t δ
theorem ok_add : OpOk K xs (rAddA K) addA := by
  intro fr s t δ Ψ Ξ h
  unfold addA at h
  split at h
  · rename_i xs ys e1 e2
    split at h
    · rename_i hl
      refine ow_r (ow_r (ow_r ?_))
      intro σ I as H Q v w r h1 h2 c
      have i1 := r.imS e1 h1
      have i2 := r.imS e2 h2
      obtain ⟨a, vs, rfl, ha, ra⟩ := id i1
      obtain ⟨b, ws, rfl, hb, rb⟩ := id i2
      have eq : cutV (vs ++ ws) none none = vs ++ ws → True := fun _ => trivial
      refine ⟨a, b, vs, ws, rfl, rfl, same_t r.ih ha, same_t r.ih hb, by rw [ra.length, rb.length]; exact line_le hl, ?_⟩
      have k1 : vs = [] → Q (.ref b) H := fun z => by
        have h0 : xs = [] := List.length_eq_zero_iff.mp (by rw [← ra.length, z]; rfl)
        subst h0
        exact c (.im (.tup ([] ++ ys))) δ _ I as H r (Le.refl I as) (by rw [List.nil_append]; exact i2) h
      have k2 : ws = [] → Q (.ref a) H := fun z => by
        have h0 : ys = [] := List.length_eq_zero_iff.mp (by rw [← rb.length, z]; rfl)
        subst h0
        exact c (.im (.tup (xs ++ []))) δ _ I as H r (Le.refl I as) (by rw [List.append_nil]; exact i1) h
      have k3 : ∀ p, H p = none → Q (.ref p) (upd H p (.tup (vs ++ ws))) := fun p hp => by
        obtain ⟨r', l⟩ := r.newF (o := .tup (vs ++ ws)) hp
        exact c (.im (.tup (xs ++ ys))) δ _ _ as _ r' l ⟨p, _, rfl, SqT.of upd_same, RepL.mono l.i _ _ (ra.append rb)⟩ h
      exact ⟨k1, fun _ => k2, fun _ _ => k3⟩
    · exact h.elim
  · exact ok_add0 fr s t δ Ψ Ξ h
theorem mulOk_of {a : Str} {n : Int} (h1 : a.length ≤ 1000) (h2 : -1000 ≤ n) (h3 : n ≤ 1000) : MulOk a n := by
  refine ⟨?_, fun h _ => ?_, fun h _ => ?_⟩
  · have : ¬ n < -(2 ^ 63 : Int) := by omega
    have : ¬ n ≥ (2 ^ 63 : Int) := by omega
    simp
    omega
  · have h4 : (0 : Int) < n := by omega
    have : (1000 : Int) ≤ (2 ^ 63 - 1) / n := by
      rw [Int.le_ediv_iff_mul_le h4]
      omega
    omega
  · have h4 : a.length * n.toNat ≤ 1000 * 1000 := Nat.mul_le_mul h1 (by omega)
    have : ∀ m : Nat, m ≤ 1000000 → Builtin.Str.tooLong m = false := fun m hm => by
      unfold Builtin.Str.tooLong
      exact decide_eq_false (by have : (1000000 : Nat) ≤ sizeLine := by decide
                                omega)
    exact this _ (by omega)
theorem ok_mul : OpOk K xs rMulA (dOp mulD) := dOp_ok fun ec δ s t x y d Ψ e1 e2 h k => by
  unfold mulD at h
  split at h
  · split at h
    · rename_i hl; cases h
      exact ow_l (ow_mul e1 e2 hl k)
    · cases h
  · rename_i a n
    split at h
    · rename_i hl
      cases h
      refine ow_r (ow_l ?_)
      intro σ I as H Q v w r h1 h2 c
      exact ⟨a, n, r.dv e1 h1, r.dv e2 h2, mulOk_of hl.1 hl.2.1 hl.2.2, c (.im (.str _)) δ _ I as H r (Le.refl I as) rfl k⟩
    · cases h
  · cases h
theorem ok_fdiv : OpOk K xs rDiv0 (dOp fdivD) := dOp_ok fun ec δ s t x y d Ψ e1 e2 h k => by
  unfold fdivD at h
  split at h
  · split at h
    · rename_i hl; cases h; exact ow_div e1 e2 hl k
    · cases h
  · cases h
theorem ok_mod : OpOk K xs rMod0 (dOp modD) := dOp_ok fun ec δ s t x y d Ψ e1 e2 h k => by
  unfold modD at h
  split at h
  · split at h
    · rename_i hl; cases h; exact ow_mod e1 e2 hl k
    · cases h
  · cases h
theorem ok_pow : OpOk K xs rPow0 (dOp powD) := dOp_ok fun ec δ s t x y d Ψ e1 e2 h k => by
  unfold powD at h
  split at h
  · split at h
    · rename_i hl; cases h; exact ow_pow e1 e2 hl k
    · cases h
  · cases h
theorem ok_lt : OpOk K xs rLtA (dOp ltD) := dOp_ok fun ec δ s t x y d Ψ e1 e2 h k => by
  unfold ltD at h
  split at h
  · cases h; exact ow_l (ow_lt e1 e2 k)
  · cases h; exact ow_r (ow_ltS e1 e2 k)
  · cases h
theorem ok_gt : OpOk K xs rGt0 (dOp gtD) := dOp_ok fun ec δ s t x y d Ψ e1 e2 h k => by
  unfold gtD at h
  split at h
  · cases h; exact ow_gt e1 e2 k
  · cases h
theorem ok_ge : OpOk K xs rGe0 (dOp geD) := dOp_ok fun ec δ s t x y d Ψ e1 e2 h k => by
  unfold geD at h
  split at h
  · cases h; exact ow_ge e1 e2 k
  · cases h
mutual
theorem dp_of {H : Hp} : ∀ (x : D) (v : V) (p : PyData), toP x = some p → Rep K H x v → Dp K H v p
  | .non, _, _, e, h => by simp only [toP] at e; cases e; cases (show _ = V.non from h); exact .non
  | .bl b, _, _, e, h => by simp only [toP] at e; cases e; cases (show _ = V.bl b from h); exact .bl b
  | .int b, _, _, e, h => by simp only [toP] at e; cases e; cases (show _ = V.int b from h); exact .int b
  | .str b, _, _, e, h => by simp only [toP] at e; cases e; cases (show _ = V.str b from h); exact .str b
  | .lst ds, _, p, e, ⟨a, vs, h1, h2, h3⟩ => by
    simp only [toP, Option.map_eq_some_iff] at e
    obtain ⟨ps, q, rfl⟩ := e
    subst h1
    exact .lst (SqL.of h2) (dp_ofL ds vs ps q h3)
  | .tup ds, _, p, e, ⟨a, vs, h1, h2, h3⟩ => by
    simp only [toP, Option.map_eq_some_iff] at e
    obtain ⟨ps, q, rfl⟩ := e
    subst h1
    exact .tup h2 (dp_ofL ds vs ps q h3)
  | .ty _, _, _, e, _ => by simp only [toP] at e; cases e
  | .glo _, _, _, e, _ => by simp only [toP] at e; cases e
  | .dic _, _, _, e, _ => by simp only [toP] at e; cases e
  | .ins _ _, _, _, e, _ => by simp only [toP] at e; cases e
  | .slf _ _, _, _, e, _ => by simp only [toP] at e; cases e
  | .me, _, _, e, _ => by simp only [toP] at e; cases e
  | .scr _, _, _, e, _ => by simp only [toP] at e; cases e
theorem dp_ofL {H : Hp} : ∀ (x : List D) (v : List V) (p : List PyData), toPL x = some p → RepL K H x v → DpAll K H v p
  | [], _, _, e, h => by simp only [toPL] at e; cases e; rw [show _ = [] from h]; exact .nil
  | d :: ds, _, p, e, ⟨v, r, h1, h2, h3⟩ => by
    simp only [toPL] at e
    split at e
    · rename_i p1 ps q1 q2
      cases e
      subst h1
      exact .cons (dp_of d v p1 q1 h2) (dp_ofL ds r ps q2 h3)
    · cases e
end
theorem deB_ok {ec : EC} {δ : Sta} {s t : SV} {x y : D} {b : Bool} {σ : L2.St} {I : Hp} {as : List Addr} {H : Hp} {v w : V} (r : R K ec δ σ I as H) (e1 : dv δ.ce s = some x) (e2 : dv δ.ce t = some y) (h : deB x y = some b) (h1 : RV K I as s v) (h2 : RV K I as t w) :
    ∃ d e, Dp K H v d ∧ Dp K H w e ∧ SeqAt.shaped d = true ∧ SeqAt.shaped e = true ∧ PyData.eqv d e = b := by
  unfold deB at h
  split at h
  · rename_i p q q1 q2
    split at h
    · rename_i hs
      cases h
      exact ⟨p, q, dp_of x v p q1 (r.dv e1 h1), dp_of y w q q2 (r.dv e2 h2), hs.1, hs.2, rfl⟩
    · cases h
  · cases h
theorem scB_ok {x y : D} {b : Bool} {H : Hp} {v w : V} (h : scB x y = some b) (h1 : Rep K H x v) (h2 : Rep K H y w) : scal v w = true ∧ decide (v = w) = b := by
  unfold scB at h
  split at h
  · cases (show v = _ from h1); cases (show w = _ from h2); cases h
    exact ⟨rfl, by rw [Bool.eq_iff_iff]; simp⟩
  all_goals first
    | (cases (show v = _ from h1); cases (show w = _ from h2); cases h; exact ⟨rfl, by simp⟩)
    | cases h
theorem ok_eq : OpOk K xs (rEqA K) (dOp eqD) := dOp_ok fun ec δ s t x y d Ψ e1 e2 h k => by
  unfold eqD at h
  rw [Option.map_eq_some_iff] at h
  obtain ⟨b, h, rfl⟩ := h
  unfold eqB at h
  split at h
  · rename_i b' q
    cases h
    refine ow_l ?_
    intro σ I as H Q v w r h1 h2 c
    obtain ⟨g1, g2⟩ := scB_ok q (r.dv e1 h1) (r.dv e2 h2)
    exact ⟨g1, by rw [g2]; exact c (.im (.bl b)) δ _ I as H r (Le.refl I as) rfl k⟩
  refine ow_r ?_
  intro σ I as H Q v w r h1 h2 c
  obtain ⟨p, q, d1, d2, s1, s2, e⟩ := deB_ok r e1 e2 h h1 h2
  exact ⟨p, q, d1, d2, s1, s2, by rw [e]; exact c (.im (.bl b)) δ _ I as H r (Le.refl I as) rfl k⟩
theorem ok_ne : OpOk K xs (rNeA K) (dOp neD) := dOp_ok fun ec δ s t x y d Ψ e1 e2 h k => by
  unfold neD at h
  rw [Option.map_eq_some_iff] at h
  obtain ⟨b, h, rfl⟩ := h
  unfold eqB at h
  split at h
  · rename_i b' q
    cases h
    refine ow_l ?_
    intro σ I as H Q v w r h1 h2 c
    obtain ⟨g1, g2⟩ := scB_ok q (r.dv e1 h1) (r.dv e2 h2)
    exact ⟨g1, by rw [g2]; exact c (.im (.bl (!b))) δ _ I as H r (Le.refl I as) rfl k⟩
  refine ow_r ?_
  intro σ I as H Q v w r h1 h2 c
  obtain ⟨p, q, d1, d2, s1, s2, e⟩ := deB_ok r e1 e2 h h1 h2
  exact ⟨p, q, d1, d2, s1, s2, by rw [e]; exact c (.im (.bl (!b))) δ _ I as H r (Le.refl I as) rfl k⟩
theorem flat_of {H : Hp} {x : D} {v : V} (f : flatD x = true) (h : Rep K H x v) : flatV v = true := by
  cases x <;> first | exact absurd (show false = true from f) Bool.false_ne_true | (cases (show v = _ from h); rfl)
theorem eqF_of {H : Hp} {x y : D} {v w : V} (fx : flatD x = true) (fy : flatD y = true) (hx : Rep K H x v) (hy : Rep K H y w) : eqV v w = eqF x y := by
  cases x <;> first
    | exact absurd (show false = true from fx) Bool.false_ne_true
    | (cases (show v = _ from hx)
       cases y <;> first
         | exact absurd (show false = true from fy) Bool.false_ne_true
         | (cases (show w = _ from hy); rfl))
theorem inF_of {H : Hp} {x : D} {v : V} (fx : flatD x = true) (hx : Rep K H x v) : ∀ {xs : List D} {vs : List V}, xs.all flatD = true → RepL K H xs vs → inV v vs = inF x xs ∧ vs.all flatV = true
  | [], vs, _, h => by rw [show vs = [] from h]; exact ⟨rfl, rfl⟩
  | y :: ys, _, f, ⟨u, r, e, h1, h2⟩ => by
    subst e
    have f' : (flatD y && ys.all flatD) = true := f
    rw [Bool.and_eq_true] at f'
    obtain ⟨g1, g2⟩ := inF_of fx hx f'.2 h2
    refine ⟨?_, ?_⟩
    · show (eqV u v || inV v r) = (eqF y x || inF x ys)
      rw [eqF_of f'.1 fx h1 hx, g1]
    · show (flatV u && r.all flatV) = true
      rw [flat_of f'.1 h1, g2]; rfl
theorem lookV {I : Hp} {k : Key} : ∀ {kds : List (Key × D)} {kvs : List (Key × V)}, RepK K I kds kvs → (valV kvs k).isSome = (lookD kds k).isSome
  | [], kvs, h => by rw [show kvs = [] from h]; rfl
  | (j, x) :: ds, _, ⟨v, r, e1, h, hr⟩ => by
    subst e1
    by_cases hk : j = k
    · subst hk; simp [lookD, valV]
    · rw [valV_neg (p := (j, v)) hk]
      have : lookD ((j, x) :: ds) k = lookD ds k := by simp [lookD, List.find?_cons, hk]
      rw [this]; exact lookV hr
theorem in_any {neg : Bool} {ec : EC} {δ : Sta} {s t : SV} {x y : D} {b : Bool} {Ψ : SV → Sta → Prop} (e1 : dv δ.ce s = some x) (e2 : dv δ.ce t = some y) (h : inB x y = some b) (k : Ψ (.im (.bl (if neg then !b else b))) δ) :
    OpW K ec (fun x y H Q => rIn K neg x y H Q ∨ ((∃ i j, x = .str i ∧ y = .str j ∧ Q (.bl (if neg then !(!(Builtin.Str.occurrences j i 0 j.length 1).isEmpty) else !(Builtin.Str.occurrences j i 0 j.length 1).isEmpty)) H) ∨ rInDc neg x y H Q)) s t Ψ δ := by
  intro σ I as H Q v w r h1 h2 c
  have hx := r.dv e1 h1
  unfold inB at h
  split at h
  · rename_i ys
    split at h
    · rename_i hf
      cases h
      obtain ⟨a, vs, rfl, ha, ra⟩ := r.dv e2 h2
      obtain ⟨g1, g2⟩ := inF_of hf.1 hx hf.2 ra
      exact .inl ⟨a, vs, rfl, .inl (SqL.of ha), flat_of hf.1 hx, g2, by rw [g1]; exact c (.im (.bl _)) δ _ I as H r (Le.refl I as) rfl k⟩
    · cases h
  · rename_i ys
    split at h
    · rename_i hf
      cases h
      obtain ⟨a, vs, rfl, ha, ra⟩ := r.dv e2 h2
      obtain ⟨g1, g2⟩ := inF_of hf.1 hx hf.2 ra
      exact .inl ⟨a, vs, rfl, .inr ha, flat_of hf.1 hx, g2, by rw [g1]; exact c (.im (.bl _)) δ _ I as H r (Le.refl I as) rfl k⟩
    · cases h
  · rename_i z
    split at h
    · rename_i z'
      cases h
      exact .inr (.inl ⟨z', z, hx, r.dv e2 h2, c (.im (.bl _)) δ _ I as H r (Le.refl I as) rfl k⟩)
    · cases h
  · rename_i kds
    split at h
    · rename_i kk hk
      cases h
      obtain ⟨a, kvs, rfl, ha, ra⟩ := r.dvK e2 h2
      have ew : v = kV kk := rep_key hk hx
      subst ew
      exact .inr (.inr ⟨a, _, rfl, .inl ⟨kvs, kk, ha, rfl, rfl⟩, by rw [lookV ra]; exact c (.im (.bl _)) δ _ I as H r (Le.refl I as) rfl k⟩)
    · cases h
  · cases h
theorem ok_in : OpOk K xs (rInA K) (dOp inD) := dOp_ok fun ec δ s t x y d Ψ e1 e2 h k => by
  unfold inD at h
  rw [Option.map_eq_some_iff] at h
  obtain ⟨b, h, rfl⟩ := h
  exact in_any (neg := false) e1 e2 h k
end
end Fx

set_option Elab.async false
set_option linter.all false
set_option autoImplicit false
set_option maxRecDepth 100000
set_option maxHeartbeats 2000000
namespace Fx
open PySem L2
/-! ## equality of data and cells, as a test -/
mutual
def beqD : D → D → Bool
  | .non, .non => true
  | .bl a, .bl b => a == b
  | .int a, .int b => a == b
  | .str a, .str b => a == b
  | .ty a, .ty b => a == b
  | .glo a, .glo b => a == b
  | .lst a, .lst b => beqL a b
  | .tup a, .tup b => beqL a b
  | .dic a, .dic b => beqK a b
  | .ins C a, .ins C' b => C == C' && beqF a b
  | .slf C a, .slf C' b => C == C' && beqF a b
  | .me, .me => true
  | .scr a, .scr b => a == b
  | _, _ => false
def beqL : List D → List D → Bool
  | [], [] => true
  | a :: as, b :: bs => beqD a b && beqL as bs
  | _, _ => false
def beqK : List (Key × D) → List (Key × D) → Bool
  | [], [] => true
  | (k, a) :: as, (j, b) :: bs => decide (k = j) && (beqD a b && beqK as bs)
  | _, _ => false
def beqF : List (Str × D) → List (Str × D) → Bool
  | [], [] => true
  | (k, a) :: as, (j, b) :: bs => k == j && (beqD a b && beqF as bs)
  | _, _ => false
end
theorem and2 {a b : Bool} (h : (a && b) = true) : a = true ∧ b = true := Bool.and_eq_true_iff.mp h
mutual
theorem beqD_eq : ∀ {x y : D}, beqD x y = true → x = y
  | .non, y, h => by cases y <;> first | rfl | (simp only [beqD] at h; cases h)
  | .bl a, y, h => by cases y <;> first | (simp only [beqD, beq_iff_eq] at h; rw [h]; done) | (simp only [beqD] at h; cases h)
  | .int a, y, h => by cases y <;> first | (simp only [beqD, beq_iff_eq] at h; rw [h]; done) | (simp only [beqD] at h; cases h)
  | .str a, y, h => by cases y <;> first | (simp only [beqD, beq_iff_eq] at h; rw [h]; done) | (simp only [beqD] at h; cases h)
  | .ty a, y, h => by cases y <;> first | (simp only [beqD, beq_iff_eq] at h; rw [h]; done) | (simp only [beqD] at h; cases h)
  | .glo a, y, h => by cases y <;> first | (simp only [beqD, beq_iff_eq] at h; rw [h]; done) | (simp only [beqD] at h; cases h)
  | .lst a, y, h => by cases y <;> first | (simp only [beqD] at h; rw [beqL_eq h]; done) | (simp only [beqD] at h; cases h)
  | .tup a, y, h => by cases y <;> first | (simp only [beqD] at h; rw [beqL_eq h]; done) | (simp only [beqD] at h; cases h)
  | .dic a, y, h => by cases y <;> first | (simp only [beqD] at h; rw [beqK_eq h]; done) | (simp only [beqD] at h; cases h)
  | .ins C a, y, h => by cases y <;> first | (simp only [beqD] at h; obtain ⟨h1, h2⟩ := and2 h; rw [beqF_eq h2, eq_of_beq h1]; done) | (simp only [beqD] at h; cases h)
  | .slf C a, y, h => by cases y <;> first | (simp only [beqD] at h; obtain ⟨h1, h2⟩ := and2 h; rw [beqF_eq h2, eq_of_beq h1]; done) | (simp only [beqD] at h; cases h)
  | .me, y, h => by cases y <;> first | rfl | (simp only [beqD] at h; cases h)
  | .scr a, y, h => by cases y <;> first | (simp only [beqD, beq_iff_eq] at h; rw [h]; done) | (simp only [beqD] at h; cases h)
theorem beqL_eq : ∀ {x y : List D}, beqL x y = true → x = y
  | [], [], _ => rfl
  | [], _ :: _, h => by simp only [beqL] at h; cases h
  | _ :: _, [], h => by simp only [beqL] at h; cases h
  | a :: as, b :: bs, h => by
    simp only [beqL] at h
    obtain ⟨h1, h2⟩ := and2 h
    rw [beqD_eq h1, beqL_eq h2]
theorem beqK_eq : ∀ {x y : List (Key × D)}, beqK x y = true → x = y
  | [], [], _ => rfl
  | [], _ :: _, h => by simp only [beqK] at h; cases h
  | (_, _) :: _, [], h => by simp only [beqK] at h; cases h
  | (k, a) :: as, (j, b) :: bs, h => by
    simp only [beqK] at h
    obtain ⟨h0, h⟩ := and2 h
    obtain ⟨h1, h2⟩ := and2 h
    rw [beqD_eq h1, beqK_eq h2, of_decide_eq_true h0]
theorem beqF_eq : ∀ {x y : List (Str × D)}, beqF x y = true → x = y
  | [], [], _ => rfl
  | [], _ :: _, h => by simp only [beqF] at h; cases h
  | (_, _) :: _, [], h => by simp only [beqF] at h; cases h
  | (k, a) :: as, (j, b) :: bs, h => by
    simp only [beqF] at h
    obtain ⟨h0, h⟩ := and2 h
    obtain ⟨h1, h2⟩ := and2 h
    rw [beqD_eq h1, beqF_eq h2, eq_of_beq h0]
end
mutual
theorem beqD_refl : ∀ x : D, beqD x x = true
  | .non => by simp only [beqD]
  | .bl a => by simp only [beqD, beq_self_eq_true]
  | .int a => by simp only [beqD, beq_self_eq_true]
  | .str a => by simp only [beqD, beq_self_eq_true]
  | .ty a => by simp only [beqD, beq_self_eq_true]
  | .glo a => by simp only [beqD, beq_self_eq_true]
  | .lst a => by simp only [beqD, beqL_refl a]
  | .tup a => by simp only [beqD, beqL_refl a]
  | .dic a => by simp only [beqD, beqK_refl a]
  | .ins C a => by simp only [beqD, beqF_refl a, beq_self_eq_true, Bool.and_self]
  | .slf C a => by simp only [beqD, beqF_refl a, beq_self_eq_true, Bool.and_self]
  | .me => by simp only [beqD]
  | .scr a => by simp only [beqD, beq_self_eq_true]
theorem beqL_refl : ∀ x : List D, beqL x x = true
  | [] => by simp only [beqL]
  | a :: as => by simp only [beqL, beqD_refl a, beqL_refl as, Bool.and_self]
theorem beqK_refl : ∀ x : List (Key × D), beqK x x = true
  | [] => by simp only [beqK]
  | (k, a) :: as => by simp only [beqK, beqD_refl a, beqK_refl as, Bool.and_self, decide_true]
theorem beqF_refl : ∀ x : List (Str × D), beqF x x = true
  | [] => by simp only [beqF]
  | (k, a) :: as => by simp only [beqF, beqD_refl a, beqF_refl as, Bool.and_self, beq_self_eq_true]
end
instance : DecidableEq D := fun x y => if h : beqD x y = true then .isTrue (beqD_eq h) else .isFalse fun e => h (e ▸ beqD_refl x)
def beqSV : SV → SV → Bool
  | .no, .no => true
  | .im a, .im b => decide (a = b)
  | .cl a, .cl b => decide (a = b)
  | _, _ => false
theorem beqSV_eq {x y : SV} (h : beqSV x y = true) : x = y := by cases x <;> cases y <;> simp_all [beqSV]
theorem beqSV_refl (x : SV) : beqSV x x = true := by cases x <;> simp [beqSV]
instance : DecidableEq SV := fun x y => if h : beqSV x y = true then .isTrue (beqSV_eq h) else .isFalse fun e => h (e ▸ beqSV_refl x)
def beqCO : CO → CO → Bool
  | .lst a, .lst b => decide (a = b)
  | .tup a, .tup b => decide (a = b)
  | .dic a, .dic b => decide (a = b)
  | .ins C a, .ins D b => decide (C = D) && decide (a = b)
  | .exc C a, .exc D b => decide (C = D) && decide (a = b)
  | .fz a, .fz b => decide (a = b)
  | .dead, .dead => true
  | .tbl a, .tbl b => decide (a = b)
  | _, _ => false
theorem beqCO_eq {x y : CO} (h : beqCO x y = true) : x = y := by cases x <;> cases y <;> simp_all [beqCO]
theorem beqCO_refl (x : CO) : beqCO x x = true := by cases x <;> simp [beqCO]
instance : DecidableEq CO := fun x y => if h : beqCO x y = true then .isTrue (beqCO_eq h) else .isFalse fun e => h (e ▸ beqCO_refl x)
/-! ## cells at the end dropped -/
def okAll (k : Nat) : List CO → List CO → Bool
  | [], _ => true
  | _ :: _, [] => false
  | a :: as, b :: bs => (decide (a = b) || b.bnd k) && okAll k as bs
theorem okAll_self (k : Nat) : ∀ l : List CO, okAll k l l = true
  | [] => rfl
  | a :: as => by simp [okAll, okAll_self k as]
theorem okAll_app (k : Nat) : ∀ (l l' m : List CO), okAll k l l' = true → okAll k l (l' ++ m) = true
  | [], _, _, _ => rfl
  | _ :: _, [], _, h => by cases h
  | a :: as, b :: bs, m, h => by
    have h' : ((decide (a = b) || b.bnd k) && okAll k as bs) = true := h
    obtain ⟨h1, h2⟩ := and2 h'
    show ((decide (a = b) || b.bnd k) && okAll k as (bs ++ m)) = true
    rw [h1, okAll_app k as bs m h2]; rfl
theorem okAll_bnd {k : Nat} : ∀ {l l' : List CO}, okAll k l l' = true → l.all (CO.bnd k) = true → (l'.take l.length).all (CO.bnd k) = true
  | [], _, _, _ => by simp
  | _ :: _, [], h, _ => by cases h
  | a :: as, b :: bs, h, hl => by
    obtain ⟨h1, h2⟩ := and2 (show ((decide (a = b) || b.bnd k) && okAll k as bs) = true from h)
    obtain ⟨g1, g2⟩ := and2 (show (a.bnd k && as.all (CO.bnd k)) = true from hl)
    show (b.bnd k && (bs.take as.length).all (CO.bnd k)) = true
    rw [okAll_bnd h2 g2, Bool.and_true]
    rcases Bool.or_eq_true_iff.mp h1 with h1 | h1
    · rw [← of_decide_eq_true h1]; exact g1
    · exact h1
def cutTo (ce0 ce' : List CO) : Option (List CO) := if ce'.length ≤ ce0.length then some ce' else if okAll ce0.length ce0 ce' = true then some (ce'.take ce0.length) else none
theorem cutTo_self (ce : List CO) : cutTo ce ce = some ce := if_pos (Nat.le_refl _)
section
variable {K : PySem.W.Frag} {ec : EC} {δ : Sta} {σ σ' : L2.St} {I I' : Hp} {as as' : List Addr} {H H' : Hp}
theorem RV.take {k : Nat} {s : SV} {v : V} (hb : s.bnd k = true) (h : RV K I as s v) : RV K I (as.take k) s v := h.cut hb
theorem R.cutTo {sl : List SV} {ce' ce'' : List CO} (r0 : R K ec δ σ I as H) (r : R K ec ⟨sl, ce'⟩ σ' I' as' H') (le : Le I as I' as') (h : Fx.cutTo δ.ce ce' = some ce'') :
    R K ec ⟨sl.map (cutS ce''.length), ce''⟩ σ' I' (as'.take ce''.length) H' ∧ Le I as I' (as'.take ce''.length) ∧ ce''.length ≤ ce'.length ∧ ce'.take ce''.length = ce'' ∧ δ.ce.length ≤ ce''.length := by
  have hlen : δ.ce.length ≤ ce'.length := by
    rw [← r0.clen, ← r.clen]
    rcases Nat.lt_or_ge as'.length as.length with h | h
    · obtain ⟨x, hx⟩ := get_of_lt h
      have := lt_of_get (le.a _ _ hx)
      omega
    · exact h
  unfold Fx.cutTo at h
  split at h
  · rename_i hl
    cases h
    have z := R.cut (k := ce'.length) r (by rw [List.take_length]; exact r.bndAll)
    rw [List.take_length] at z
    exact ⟨z, le.cut (by rw [r0.clen]; exact hlen), Nat.le_refl _, List.take_length, hlen⟩
  · split at h
    · rename_i hl ho
      cases h
      have hb := okAll_bnd ho r0.bndAll
      have e : (ce'.take δ.ce.length).length = δ.ce.length := by rw [List.length_take]; omega
      rw [e]
      exact ⟨R.cut (k := δ.ce.length) r hb, le.cut (Nat.le_of_eq r0.clen), by omega, rfl, Nat.le_refl _⟩
    · cases h
end
/-! ## defs -/
abbrev Fn := List SV → List CO → Out (List CO) SV
/-- a value goes out; what was made within is data, or dropped -/
def retF (ce0 : List CO) (s : SV) (ce' : List CO) : Out (List CO) SV := match s with
  | .no => .bad
  | .im d => match cutTo ce0 ce' with
    | some ce2 => .ok (.im d) ce2
    | none => .ok (.im d) ce'
  | .cl c => if c < ce0.length then (match cutTo ce0 ce' with
      | some ce2 => .ok (.cl c) ce2
      | none => .ok (.cl c) ce') else match frz ce' c with
    | some (d, ce1) => (match cutTo ce0 ce1 with
      | some ce2 => .ok (.im d) ce2
      | none => .ok (.im d) ce1)
    | none => .ok (.cl c) ce'
/-- a new cell goes out as it is -/
def retC (ce0 : List CO) (s : SV) (ce' : List CO) : Out (List CO) SV := match s with
  | .cl c => if ce0.length ≤ c then (match ce'[c]? with
      | some co => if co.bnd ce0.length = true ∧ okAll ce0.length ce0 ce' = true then .ok (.cl ce0.length) (ce'.take ce0.length ++ [co]) else .ok (.cl c) ce'
      | none => .bad) else retF ce0 s ce'
  | s => retF ce0 s ce'
def exF (ce0 : List CO) (x : Xn) (ce' : List CO) : Out (List CO) SV := match cutTo ce0 ce' with
  | some ce2 => if (x.fs.all fun p => p.2.bnd ce2.length) = true then .ex x ce2 else .ex x ce'
  | none => .ex x ce'
section
variable {K : PySem.W.Frag} {ec : EC} {δ : Sta} {σ σ' : L2.St} {I I' : Hp} {as as' : List Addr} {H H' : Hp}
theorem le_len (r0 : R K ec δ σ I as H) {ce' : List CO} (r : R K ec ⟨[], ce'⟩ σ' I' as' H') (le : Le I as I' as') : δ.ce.length ≤ ce'.length := by
  rw [← r0.clen, ← r.clen]
  rcases Nat.lt_or_ge as'.length as.length with h | h
  · obtain ⟨x, hx⟩ := get_of_lt h
    have := lt_of_get (le.a _ _ hx)
    omega
  · exact h
/-- what is wanted of a def's end -/
structure FEnd (K : PySem.W.Frag) (ec : EC) (I : Hp) (as : List Addr) (Q : VK) (E : XK) (o : Out (List CO) SV) : Prop where
  go : o.sat (fun s ce' => ∀ v I' as' H', R K ec ⟨[], ce'⟩ [] I' as' H' → Le I as I' as' → RV K I' as' s v → Q v H') (fun x ce' => ∀ d I' as' H', R K ec ⟨[], ce'⟩ [] I' as' H' → Le I as I' as' → XRel K I' as' x.fs d → E (x.cls.v K) d H')
theorem retF_ok {Q : VK} {E : XK} {s : SV} {ce' : List CO} {v : V} (r0 : R K ec δ σ I as H) (e : FEnd K ec I as Q E (retF δ.ce s ce')) (r : R K ec ⟨[], ce'⟩ [] I' as' H') (le : Le I as I' as') (rv : RV K I' as' s v) : Q v H' := by
  have e := e.go
  unfold retF at e
  cases s with
  | no => exact e.elim
  | im d =>
    dsimp only at e
    split at e
    · rename_i ce2 q
      obtain ⟨r2, l2, _⟩ := r0.cutTo r le q
      exact e v I' _ H' r2 l2 rv
    · exact e v I' as' H' r le rv
  | cl c =>
    dsimp only at e
    split at e
    · rename_i hc
      split at e
      · rename_i ce2 q
        obtain ⟨r2, l2, _, _, hl⟩ := r0.cutTo r le q
        exact e v I' _ H' r2 l2 (rv.take (decide_eq_true (Nat.lt_of_lt_of_le hc hl)))
      · exact e v I' as' H' r le rv
    · split at e
      · rename_i d ce1 qf
        obtain ⟨I2, r1, l1, rep⟩ := R.frz r qf
        obtain ⟨a, ha, rfl⟩ := rv
        have rep := rep a ha
        split at e
        · rename_i ce2 q
          obtain ⟨r2, l2, _⟩ := r0.cutTo r1 (le.trans l1) q
          exact e _ I2 _ H' r2 l2 rep
        · exact e _ I2 as' H' r1 (le.trans l1) rep
      · exact e v I' as' H' r le rv
theorem R.pick {sl : List SV} {ce : List CO} (r : R K ec ⟨sl, ce⟩ σ I as H) {k c : Nat} {co : CO} {a : Addr} (hk : k ≤ c) (hc : ce[c]? = some co) (ha : as[c]? = some a) (hb : (ce.take k).all (CO.bnd k) = true) (hco : co.bnd k = true) : R K ec ⟨[], ce.take k ++ [co]⟩ [] I (as.take k ++ [a]) H := by
  have hcl : c < ce.length := lt_of_get hc
  have lk : (ce.take k).length = k := by rw [List.length_take]; omega
  have al : as.length = ce.length := r.clen
  have lk' : (as.take k).length = k := by rw [List.length_take, al]; omega
  have cut : ∀ (d : Nat) (o : CO) (b : Addr), (ce.take k ++ [co])[d]? = some o → (as.take k ++ [a])[d]? = some b → (d < k ∧ ce[d]? = some o ∧ as[d]? = some b) ∨ (d = k ∧ o = co ∧ b = a) := fun d o b h1 h2 => by
    by_cases hd : d < k
    · rw [List.getElem?_append_left (by omega)] at h1 h2
      exact .inl ⟨hd, (take_get.mp h1).2, (take_get.mp h2).2⟩
    · rw [List.getElem?_append_right (by omega), lk] at h1
      rw [List.getElem?_append_right (by omega), lk'] at h2
      have e : d = k := by
        have := lt_of_get h1
        simp at this; omega
      subst e
      simp at h1 h2
      exact .inr ⟨rfl, h1.symm, h2.symm⟩
  have le : Le I (as.take k) I (as.take k ++ [a]) := ⟨Same.refl I, fun d x h => by rw [List.getElem?_append_left (lt_of_get h)]; exact h⟩
  have mv : ∀ (o : CO) (b : Addr), o.bnd k = true → CellOk K ec I as H b o → CellOk K ec I (as.take k ++ [a]) H b o := fun o b h1 h2 => CellOk.mono (h2.cut h1) le (fun l => (CellOk.free l h2).1) (fun _ _ h => h)
  refine ⟨r.fh, fun d o b h1 h2 l => ?_, r.fi, r.ih, rfl, fun i s h => by simp at h, by simp [al], fun d o b h1 h2 => ?_, fun d d' o o' b h1 h2 l1 l2 h3 h4 => ?_, r.it⟩
  · rcases cut d o b h1 h2 with ⟨_, g1, g2⟩ | ⟨_, rfl, rfl⟩
    · exact r.cf d o b g1 g2 l
    · exact r.cf c _ _ hc ha l
  · rcases cut d o b h1 h2 with ⟨hd, g1, g2⟩ | ⟨_, rfl, rfl⟩
    · exact mv o b (List.all_eq_true.mp hb o (List.mem_of_getElem? (take_get.mpr ⟨hd, g1⟩))) (r.cells d o b g1 g2)
    · exact mv _ _ hco (r.cells c _ _ hc ha)
  · rcases cut d o b h1 h3 with ⟨hd, g1, g2⟩ | ⟨hd, rfl, rfl⟩
    · rcases cut d' o' b h2 h4 with ⟨hd', g1', g2'⟩ | ⟨hd', rfl, rfl⟩
      · exact r.inj d d' o o' b g1 g1' l1 l2 g2 g2'
      · have := r.inj d c _ _ _ g1 hc l1 l2 g2 ha; omega
    · rcases cut d' o' _ h2 h4 with ⟨hd', g1', g2'⟩ | ⟨hd', _, _⟩
      · have := r.inj c d' _ _ _ hc g1' l1 l2 ha g2'; omega
      · omega
theorem retC_ok {Q : VK} {E : XK} {s : SV} {ce' : List CO} {v : V} (r0 : R K ec δ σ I as H) (e : FEnd K ec I as Q E (retC δ.ce s ce')) (r : R K ec ⟨[], ce'⟩ [] I' as' H') (le : Le I as I' as') (rv : RV K I' as' s v) : Q v H' := by
  have e' := e.go
  unfold retC at e'
  cases s with
  | no => exact retF_ok r0 ⟨e'⟩ r le rv
  | im d => exact retF_ok r0 ⟨e'⟩ r le rv
  | cl c =>
    dsimp only at e'
    split at e'
    · rename_i hc
      split at e'
      · rename_i co q
        split at e'
        · rename_i hh
          obtain ⟨a, ha, rfl⟩ := rv
          have hb := okAll_bnd hh.2 r0.bndAll
          have lk : (as'.take δ.ce.length).length = δ.ce.length := by
            have := lt_of_get ha
            rw [List.length_take]; omega
          refine e' _ I' (as'.take δ.ce.length ++ [a]) H' (R.pick r hc q ha hb hh.1) ⟨le.i, fun d x h => ?_⟩ ⟨a, ?_, rfl⟩
          · have hd : d < δ.ce.length := by rw [← r0.clen]; exact lt_of_get h
            rw [List.getElem?_append_left (by omega)]
            exact take_get.mpr ⟨hd, le.a d x h⟩
          · rw [List.getElem?_append_right (by omega), lk]; simp
        · exact e' v I' as' H' r le rv
      · exact e'.elim
    · exact retF_ok r0 ⟨e'⟩ r le rv
theorem exF_ok {Q : VK} {E : XK} {x : Xn} {ce' : List CO} {d : Option Addr} (r0 : R K ec δ σ I as H) (e : FEnd K ec I as Q E (exF δ.ce x ce')) (r : R K ec ⟨[], ce'⟩ [] I' as' H') (le : Le I as I' as') (xr : XRel K I' as' x.fs d) : E (x.cls.v K) d H' := by
  have e := e.go
  unfold exF at e
  split at e
  · rename_i ce2 q
    split at e
    · rename_i hb
      obtain ⟨r2, l2, _⟩ := r0.cutTo r le q
      exact e d I' _ H' r2 l2 (xr.cut hb)
    · exact e d I' as' H' r le xr
  · exact e d I' as' H' r le xr
end
/-! ## statements -/
inductive OutS where
  | nx (δ : Sta) | rt (s : SV) (δ : Sta) | bk (δ : Sta) | ct (δ : Sta) | ex (x : Xn) (δ : Sta) | bad
abbrev AS := Sta → OutS
def OutS.sat : OutS → Post → Prop
  | .nx δ, Φ => Φ.nx δ
  | .rt s δ, Φ => Φ.rt s δ
  | .bk δ, Φ => Φ.bk δ
  | .ct δ, Φ => Φ.ct δ
  | .ex x δ, Φ => Φ.ex x δ
  | .bad, _ => False
def SS (K : PySem.W.Frag) (xs : Xs) (W : WX) (ts : TS) (a : AS) : Prop := ∀ fr δ Φ, (a δ).sat Φ → WS K ⟨xs, fr⟩ W ts Φ δ
/-- a def: its slots, its body -/
def aDef (n : Nat) (body : AS) : Fn := fun ss ce => match body ⟨ss ++ List.replicate (n - ss.length) .no, ce⟩ with
  | .nx δ => retF ce (.im .non) δ.ce
  | .rt s δ => retF ce s δ.ce
  | .ex x δ => exF ce x δ.ce
  | _ => .bad
/-- .. that gives out a new cell -/
def aDefC (n : Nat) (body : AS) : Fn := fun ss ce => match body ⟨ss ++ List.replicate (n - ss.length) .no, ce⟩ with
  | .nx δ => retF ce (.im .non) δ.ce
  | .rt s δ => retC ce s δ.ce
  | .ex x δ => exF ce x δ.ce
  | _ => .bad
/-- a def's promise -/
def spFn (K : PySem.W.Frag) (n : Nat) (F : Fn) : Sp := fun vs H Q E => vs.length = n ∧ ∃ (xs : Xs) (fr : Fr) (ss : List SV) (ce : List CO) (as : List Addr) (I : Hp), R K ⟨xs, fr⟩ ⟨[], ce⟩ [] I as H ∧ RVL K I as ss vs ∧ FEnd K ⟨xs, fr⟩ I as Q E (F ss ce)
section
variable {P : Program} {w : World} {K : PySem.W.Frag} {mg : Str → Option Value} {base : Heap} {x qual : Str} {params : Arguments} {body : List Stmt} {scope : Scope} {dvs : List V} {kws : List (Str × V)} {f : Addr} {fd : FuncData}
theorem start_slots {I : Hp} {as : List Addr} : ∀ {ss : List SV} {vs : List V} {n : Nat}, RVL K I as ss vs → ∀ (i : Nat) (s : SV), (ss ++ List.replicate n .no)[i]? = some s → s = .no ∨ ∃ v, (vs.map some ++ List.replicate n none)[i]? = some (some v) ∧ RV K I as s v
  | [], vs, n, h, i, s, e => by
    rw [show vs = [] from h]
    simp only [List.nil_append] at e
    exact .inl (List.eq_of_mem_replicate (List.mem_of_getElem? e))
  | t :: ts, vs, n, ⟨v, r, h1, h2, h3⟩, 0, s, e => by
    subst h1
    simp at e
    subst e
    exact .inr ⟨v, rfl, h2⟩
  | t :: ts, vs, n, ⟨v, r, h1, h2, h3⟩, i + 1, s, e => by
    subst h1
    have := start_slots (n := n) h3 i s (by simpa using e)
    simpa using this
theorem body_ok {xs : Xs} {fr : Fr} {E : XK} {t : TS} {a : AS} {N : List Str} {vs : List V} {ss : List SV} {ce : List CO} {as : List Addr} {I H : Hp} {Q : VK} (hs : SS K xs (fun cls d _ H => E cls d H) t a) (hlen : ss.length ≤ N.length)
    (r : R K ⟨xs, fr⟩ ⟨[], ce⟩ [] I as H) (rv : RVL K I as ss vs) (ret : List CO → SV → List CO → Out (List CO) SV)
    (hret : ∀ {s : SV} {ce' : List CO} {v : V} {I' : Hp} {as' : List Addr} {H' : Hp}, FEnd K ⟨xs, fr⟩ I as Q E (ret ce s ce') → R K ⟨xs, fr⟩ ⟨[], ce'⟩ [] I' as' H' → Le I as I' as' → RV K I' as' s v → Q v H')
    (e : FEnd K ⟨xs, fr⟩ I as Q E (match a ⟨ss ++ List.replicate (N.length - ss.length) .no, ce⟩ with
      | .nx δ => retF ce (.im .non) δ.ce
      | .rt s δ => ret ce s δ.ce
      | .ex x δ => exF ce x δ.ce
      | _ => .bad)) : t { nx := fun _ H' => Q .non H', rt := Q } (L2.start N vs) H := by
  have hl := rv.length
  have r1 : R K ⟨xs, fr⟩ ⟨ss ++ List.replicate (N.length - ss.length) .no, ce⟩ (L2.start N vs) I as H := by
    refine ⟨r.fh, r.cf, r.fi, r.ih, ?_, fun i s e => ?_, r.clen, r.cells, r.inj, r.it⟩
    · simp [L2.start, hl]
    · have := start_slots rv i s e
      show s = .no ∨ ∃ v, (vs.map some ++ List.replicate (N.length - vs.length) none)[i]? = some (some v) ∧ RV K I as s v
      rw [hl]; exact this
  let Φ : Post := { nx := fun δ => FEnd K ⟨xs, fr⟩ I as Q E (retF ce (.im .non) δ.ce), rt := fun s δ => FEnd K ⟨xs, fr⟩ I as Q E (ret ce s δ.ce), ex := fun x δ => FEnd K ⟨xs, fr⟩ I as Q E (exF ce x δ.ce) }
  refine hs fr _ Φ ?_ (L2.start N vs) I as H _ r1 ⟨fun δ' σ' I' as' H' r' l' k => ?_, fun s δ' σ' v I' as' H' r' l' rv' k => ?_, fun _ _ _ _ _ _ _ k => k.elim, fun _ _ _ _ _ _ _ k => k.elim, fun x δ' σ' d I' as' H' r' l' z k => ?_⟩
  · cases q : a ⟨ss ++ List.replicate (N.length - ss.length) .no, ce⟩ with
    | nx δ => rw [q] at e; exact e
    | rt s δ => rw [q] at e; exact e
    | ex x δ => rw [q] at e; exact e
    | bk δ => rw [q] at e; exact e.go
    | ct δ => rw [q] at e; exact e.go
    | bad => rw [q] at e; exact e.go
  · exact retF_ok (δ := ⟨[], ce⟩) r k r'.bare l' (show RV K I' as' (.im .non) .non from rfl)
  · exact hret k r'.bare l' rv'
  · exact exF_ok (δ := ⟨[], ce⟩) r k r'.bare l' z
theorem fn_ok {N ps : List Str} {k : Nat} {a : AS} (F : FunD K x qual params body scope dvs kws f fd) (S : FnScope N ps scope) (hps : ps.length ≤ N.length)
    (hb : ∀ (cdv : Value) (Ar : Around) (outer : List Env) (s : Shared) (H : Hp) (E : XK) (xs : Xs), RoomG k (Ar.deeper (PyProof.Rows.envOfC qual scope s.heap.objs.size f cdv)) →
      ∃ t, PSs (cxOf (CX P w) P w K mg base N qual scope f cdv Ar outer s H E) body t ∧ SS K xs (fun cls d _ H => E cls d H) t a) : FnG P w K mg base (CX P w) (k + 1) f fd ps (spFn K ps.length (aDef N.length a)) := by
  refine okG F S (fun vs H Q E h => h.1) fun cdv Ar outer s H vs Q E hr h => ?_
  obtain ⟨hl, xs, fr, ss, ce, as, I, r, rv, e⟩ := h
  obtain ⟨t, h1, h2⟩ := hb cdv Ar outer s H E xs hr
  exact ⟨t, h1, body_ok h2 (by rw [← rv.length, hl]; exact hps) r rv retF (fun e r' l rv => retF_ok (δ := ⟨[], ce⟩) r e r' l rv) e⟩
theorem fn_okC {N ps : List Str} {k : Nat} {a : AS} (F : FunD K x qual params body scope dvs kws f fd) (S : FnScope N ps scope) (hps : ps.length ≤ N.length)
    (hb : ∀ (cdv : Value) (Ar : Around) (outer : List Env) (s : Shared) (H : Hp) (E : XK) (xs : Xs), RoomG k (Ar.deeper (PyProof.Rows.envOfC qual scope s.heap.objs.size f cdv)) →
      ∃ t, PSs (cxOf (CX P w) P w K mg base N qual scope f cdv Ar outer s H E) body t ∧ SS K xs (fun cls d _ H => E cls d H) t a) : FnG P w K mg base (CX P w) (k + 1) f fd ps (spFn K ps.length (aDefC N.length a)) := by
  refine okG F S (fun vs H Q E h => h.1) fun cdv Ar outer s H vs Q E hr h => ?_
  obtain ⟨hl, xs, fr, ss, ce, as, I, r, rv, e⟩ := h
  obtain ⟨t, h1, h2⟩ := hb cdv Ar outer s H E xs hr
  exact ⟨t, h1, body_ok h2 (by rw [← rv.length, hl]; exact hps) r rv retC (fun e r' l rv => retC_ok (δ := ⟨[], ce⟩) r e r' l rv) e⟩
end
end Fx

set_option Elab.async false
set_option linter.all false
set_option autoImplicit false
set_option maxRecDepth 100000
set_option maxHeartbeats 2000000
namespace Fx
open PySem L2
/-! ## arguments -/
def aNil : AA := fun δ => .ok [] δ
def aCons (a : AE) (r : AA) : AA := fun δ => (a δ).bind fun s δ1 => (r δ1).bind fun ss δ2 => .ok (s :: ss) δ2
/-! ## tests -/
def aTest (a : AE) : AT := fun δ => (a δ).bind fun s δ1 => match dv δ1.ce s with
  | some (.bl b) => .ok b δ1
  | _ => .bad
def aAnd (t u : AT) : AT := fun δ => (t δ).bind fun b δ1 => if b = true then u δ1 else .ok false δ1
def aOr (t u : AT) : AT := fun δ => (t δ).bind fun b δ1 => if b = true then .ok true δ1 else u δ1
def aNot (t : AT) : AT := fun δ => (t δ).bind fun b δ1 => .ok (!b) δ1
def aYes : AT := fun δ => .ok true δ
def aAndV (a b : AE) : AE := fun δ => (a δ).bind fun s δ1 => match dv δ1.ce s with
  | some (.bl c) => if c = true then b δ1 else .ok (.im (.bl false)) δ1
  | _ => .bad
def aOrV (a b : AE) : AE := fun δ => (a δ).bind fun s δ1 => match dv δ1.ce s with
  | some (.bl c) => if c = true then .ok (.im (.bl true)) δ1 else b δ1
  | _ => .bad
def aNotV (a : AE) : AE := fun δ => (a δ).bind fun s δ1 => match dv δ1.ce s with
  | some (.bl c) => .ok (.im (.bl (!c))) δ1
  | _ => .bad
def aIf (t : AT) (a b : AE) : AE := fun δ => (t δ).bind fun c δ1 => if c = true then a δ1 else b δ1
/-! ## unary minus -/
def aNeg (a : AE) : AE := fun δ => (a δ).bind fun s δ1 => match dv δ1.ce s with
  | some (.int i) => .ok (.im (.int (-i))) δ1
  | _ => .bad
/-- a < b < c -/
def aChain (o o' : AOp) (a b c : AE) : AE := fun δ => (a δ).bind fun s δ1 => (b δ1).bind fun t δ2 => (o s t δ2).bind fun z δ3 => match dv δ3.ce z with
  | some (.bl k) => if k = true then (c δ3).bind fun u δ4 => o' t u δ4 else .ok (.im (.bl false)) δ3
  | _ => .bad
/-! ## displays -/
def aLst (r : AA) : AE := fun δ => (r δ).bind fun ss δ1 => if ss.length ≤ 1000 then (match imL δ1.ce ss with
  | some ds => .ok (.im (.lst ds)) δ1
  | none => .bad) else .bad
def aLstC (r : AA) : AE := fun δ => (r δ).bind fun ss δ1 => if ss.length ≤ 1000 then .ok (.cl δ1.ce.length) ⟨δ1.sl, δ1.ce ++ [.lst ss]⟩ else .bad
def aTup (r : AA) : AE := fun δ => (r δ).bind fun ss δ1 => if ss.length ≤ 1000 then (match imL δ1.ce ss with
  | some ds => .ok (.im (.tup ds)) δ1
  | none => .ok (.cl δ1.ce.length) ⟨δ1.sl, δ1.ce ++ [.tup ss]⟩) else .bad
section
variable {K : PySem.W.Frag} {xs : Xs} {W : WX} {ta tb te tc : TE} {a b c : AE} {t u : TT} {p q : AT} {tr : TA} {r : AA}
open Out in
theorem sa_nil : SA K xs W tNil aNil := fun fr δ Ψ Ξ h => wa_nil h
theorem sa_cons (ha : SE K xs W te a) (hr : SA K xs W tr r) : SA K xs W (tCons te tr) (aCons a r) := fun fr δ Ψ Ξ h =>
  wa_cons (ha fr δ _ _ (Out.sat_mono (Out.sat_bind h) (fun s δ1 h1 => hr fr δ1 _ _ (Out.sat_mono (Out.sat_bind h1) (fun ss δ2 h2 => h2) fun _ _ z => z)) fun _ _ z => z))
theorem bl_of {δ : Sta} {s : SV} {f : Bool → O Bool} {Ψ : Bool → Sta → Prop} {Ξ : Xn → Sta → Prop} (h : (match dv δ.ce s with | some (.bl b) => f b | _ => (.bad : O Bool)).sat Ψ Ξ) : ∃ b, dv δ.ce s = some (.bl b) ∧ (f b).sat Ψ Ξ := by
  split at h
  · rename_i b e; exact ⟨b, e, h⟩
  · exact h.elim
theorem bl_ofV {δ : Sta} {s : SV} {f : Bool → O SV} {Ψ : SV → Sta → Prop} {Ξ : Xn → Sta → Prop} (h : (match dv δ.ce s with | some (.bl b) => f b | _ => (.bad : O SV)).sat Ψ Ξ) : ∃ b, dv δ.ce s = some (.bl b) ∧ (f b).sat Ψ Ξ := by
  split at h
  · rename_i b e; exact ⟨b, e, h⟩
  · exact h.elim
theorem st_test (ha : SE K xs W ta a) : ST K xs W (tTest ta) (aTest a) := fun fr δ Ψ Ξ h =>
  wt_test (ha fr δ _ _ (Out.sat_mono (Out.sat_bind h) (fun s δ1 h1 => bl_of (f := fun b => .ok b δ1) h1) fun _ _ z => z))
theorem st_B (ha : SE K xs W ta a) : ST K xs W (tB ta) (aTest a) := fun fr δ Ψ Ξ h =>
  wt_B (ha fr δ _ _ (Out.sat_mono (Out.sat_bind h) (fun s δ1 h1 => bl_of (f := fun b => .ok b δ1) h1) fun _ _ z => z))
theorem st_or (ht : ST K xs W t p) (hu : ST K xs W u q) : ST K xs W (tOr t u) (aOr p q) := fun fr δ Ψ Ξ h =>
  wt_or (ht fr δ _ _ (Out.sat_mono (Out.sat_bind h) (fun b δ1 h1 => ⟨fun hb => hu fr δ1 _ _ (by rw [hb] at h1; exact h1), fun hb => by rw [if_pos hb] at h1; exact h1⟩) fun _ _ z => z))
theorem st_not (ht : ST K xs W t p) : ST K xs W (tNot t) (aNot p) := fun fr δ Ψ Ξ h =>
  wt_not (ht fr δ _ _ (Out.sat_mono (Out.sat_bind h) (fun b δ1 h1 => h1) fun _ _ z => z))
theorem se_andV (ha : SE K xs W ta a) (hb : SE K xs W tb b) : SE K xs W (tAndV ta tb) (aAndV a b) := fun fr δ Ψ Ξ h =>
  we_andV (ha fr δ _ _ (Out.sat_mono (Out.sat_bind h) (fun s δ1 h1 => by
    obtain ⟨c, e, h2⟩ := bl_ofV (f := fun c => if c = true then b δ1 else .ok (.im (.bl false)) δ1) h1
    exact ⟨c, e, fun hc => hb fr δ1 _ _ (by rw [if_pos hc] at h2; exact h2), fun hc => by rw [hc] at h2; exact h2⟩) fun _ _ z => z))
theorem se_notV (ha : SE K xs W ta a) : SE K xs W (tNotV ta) (aNotV a) := fun fr δ Ψ Ξ h =>
  we_notV (ha fr δ _ _ (Out.sat_mono (Out.sat_bind h) (fun s δ1 h1 => bl_ofV (f := fun c => .ok (.im (.bl (!c))) δ1) h1) fun _ _ z => z))
theorem se_if (ht : ST K xs W t p) (ha : SE K xs W ta a) (hb : SE K xs W tb b) : SE K xs W (tIf t ta tb) (aIf p a b) := fun fr δ Ψ Ξ h =>
  we_if (ht fr δ _ _ (Out.sat_mono (Out.sat_bind h) (fun c δ1 h1 => ⟨fun hc => ha fr δ1 _ _ (by rw [if_pos hc] at h1; exact h1), fun hc => hb fr δ1 _ _ (by rw [hc] at h1; exact h1)⟩) fun _ _ z => z))
theorem se_lst (hr : SA K xs W tr r) : SE K xs W (tLst tr) (aLst r) := fun fr δ Ψ Ξ h =>
  we_lstF (hr fr δ _ _ (Out.sat_mono (Out.sat_bind h) (fun ss δ1 h1 => by
    split at h1
    · rename_i hl
      split at h1
      · rename_i ds e; exact ⟨ds, hl, e, h1⟩
      · exact h1.elim
    · exact h1.elim) fun _ _ z => z))
theorem se_lstC (hr : SA K xs W tr r) : SE K xs W (tLst tr) (aLstC r) := fun fr δ Ψ Ξ h =>
  we_lst (hr fr δ _ _ (Out.sat_mono (Out.sat_bind h) (fun ss δ1 h1 => by
    split at h1
    · rename_i hl; exact ⟨hl, h1⟩
    · exact h1.elim) fun _ _ z => z))
theorem se_tup (hr : SA K xs W tr r) : SE K xs W (tTup tr) (aTup r) := by
  intro fr δ Ψ Ξ h σ I as H Q rr c
  refine hr fr δ _ _ (Out.sat_bind h) σ I as H _ rr ⟨fun ss δ1 vs I1 as1 H1 r1 l1 rv1 k1 => ?_, c.x⟩
  split at k1
  · rename_i hl
    refine ⟨by rw [rv1.length]; exact Nat.le_trans hl (by decide), fun p hp => ?_⟩
    split at k1
    · rename_i ds e
      obtain ⟨r2, l2⟩ := r1.newF (o := .tup vs) hp
      exact c.v (.im (.tup ds)) _ _ _ as1 _ r2 (l1.trans l2) ⟨p, vs, rfl, SqT.of upd_same, RepL.mono l2.i _ _ (r1.imL e rv1)⟩ k1
    · have hn := none_back r1.ih hp
      obtain ⟨r2, l2⟩ := r1.newC (o := .tup vs) (co := .tup ss) hp ⟨hn, vs, upd_same, rv1⟩ rfl
      refine c.v (.cl δ1.ce.length) _ _ I1 (as1 ++ [p]) _ r2 (l1.trans l2) ⟨p, ?_, rfl⟩ k1
      rw [← r1.clen]; simp
  · exact k1.elim
end
/-! ## a[i] -/
abbrev Tabs := List (Str × List (Str × D))
def ixD : D → D → Option D
  | .lst ds, .int i => atI ds i
  | .tup ds, .int i => atI ds i
  | .scr ns, .int i => (atI ns i).map .int
  | .str z, .int i => if z.length ≤ 1000000 then (atI z.cps.toList i).map fun c => .str ⟨#[c]⟩ else none
  | .dic kvs, y => match keyOf y with
    | some k => lookD kvs k
    | none => none
  | _, _ => none
def tabAt (tabs : Tabs) (x z : Str) : Option D := match tabs.lookup x with
  | some kvs => kvs.lookup z
  | none => none
def ixA (tabs : Tabs) : AOp := fun s t δ => match dv δ.ce t with
  | none => .bad
  | some y => match s with
    | .no => .bad
    | .im (.glo x) => (match y with
      | .str z => (match tabAt tabs x z with
        | some d => .ok (.im d) δ
        | none => .bad)
      | _ => .bad)
    | .im d => (match ixD d y with
      | some e => .ok (.im e) δ
      | none => .bad)
    | .cl c => match δ.ce[c]?, y with
      | some (.lst us), .int i => (match atI us i with
        | some u => .ok (nrm δ.ce u) δ
        | none => .bad)
      | some (.tup us), .int i => (match atI us i with
        | some u => .ok (nrm δ.ce u) δ
        | none => .bad)
      | some (.dic kvs), y => (match keyOf y with
        | some k => (match lookC kvs k with
          | some u => .ok (nrm δ.ce u) δ
          | none => .bad)
        | none => .bad)
      | some (.fz d), y => (match ixD d y with
        | some e => .ok (.im e) δ
        | none => .bad)
      | _, _ => .bad
def TabOk (K : PySem.W.Frag) (w : World) (tabs : Tabs) : Prop := ∀ x z d, tabAt tabs x z = some d → ∃ v, KDct K w (He.ga K x) z v ∧ ∀ I, Rep K I d v
section
variable {K : PySem.W.Frag} {xs : Xs} {w : World}
theorem ixD_ok {ec : EC} {δ : Sta} {t : SV} {d y e : D} {σ : L2.St} {I : Hp} {as : List Addr} {H : Hp} {Q : VK} {v u : V} {Ψ : SV → Sta → Prop} (r : R K ec δ σ I as H) (rv : Rep K I d v) (e2 : dv δ.ce t = some y) (h2 : RV K I as t u) (h : ixD d y = some e)
    (c : ∀ s δ' v I' as' H', R K ec δ' σ I' as' H' → Le I as I' as' → RV K I' as' s v → Ψ s δ' → Q v H') (k : Ψ (.im e) δ) : rIxB K w v u H Q := by
  have go : ∀ v', Rep K I e v' → Q v' H := fun v' q => c (.im e) δ v' I as H r (Le.refl I as) q k
  have hy := r.dv e2 h2
  refine .inl ?_
  unfold ixD at h
  split at h
  · rename_i ds i
    obtain ⟨a, vs, rfl, ha, ra⟩ := rv
    obtain ⟨u', q1, q2⟩ := atI_rep ra h
    exact .inl (.inl ⟨a, vs, i, u', rfl, hy, SqL.of (r.ih _ _ ha), q1, go _ q2⟩)
  · rename_i ds i
    obtain ⟨a, vs, rfl, ha, ra⟩ := rv
    obtain ⟨u', q1, q2⟩ := atI_rep ra h
    exact .inl (.inr (.inl ⟨a, vs, i, u', rfl, hy, same_t r.ih ha, q1, go _ q2⟩))
  · rename_i ns i
    rw [Option.map_eq_some_iff] at h
    obtain ⟨n, h, rfl⟩ := h
    obtain ⟨a, rfl, ha⟩ := rv
    have q1 : atI (ns.map V.int) i = some (.int n) := by
      unfold atI at h ⊢
      rw [List.length_map]
      cases q : ixN ns.length i with
      | none => rw [q] at h; cases h
      | some j => rw [q] at h; show (ns.map V.int)[j]? = _; rw [List.getElem?_map, show ns[j]? = some n from h]; rfl
    exact .inl (.inl ⟨a, _, i, _, rfl, hy, r.ih.seq ha, q1, go _ rfl⟩)
  · rename_i z i
    split at h
    · rename_i hz
      rw [Option.map_eq_some_iff] at h
      obtain ⟨ch, h, rfl⟩ := h
      exact .inl (.inr (.inr ⟨z, i, ch, rv, hy, line_le hz, h, go _ rfl⟩))
    · cases h
  · rename_i kvs
    split at h
    · rename_i kk hk
      obtain ⟨a, ws, rfl, ha, ra⟩ := rv
      obtain ⟨u', q1, q2⟩ := ra.val h
      have ew : u = kV kk := rep_key hk hy
      subst ew
      exact .inr ⟨a, u', rfl, .inl ⟨ws, kk, same_rd r.ih ha, rfl, q1.symm⟩, go _ q2⟩
    · cases h
  · cases h
theorem ok_ix {tabs : Tabs} (hT : TabOk K w tabs) : OpOk K xs (rIxB K w) (ixA tabs) := by
  intro fr s t δ Ψ Ξ h σ I as H Q v u r h1 h2 c
  unfold ixA at h
  split at h
  · exact h.elim
  · rename_i y e2
    have hy := r.dv e2 h2
    split at h
    · exact h.elim
    · rename_i x
      split at h
      · rename_i z
        split at h
        · rename_i d q
          obtain ⟨v', k1, k2⟩ := hT x z d q
          cases (show v = _ from h1)
          exact .inr ⟨_, z, v', rfl, hy, k1, c (.im d) δ v' I as H r (Le.refl I as) (k2 I) h⟩
        · exact h.elim
      · exact h.elim
    · rename_i d _
      split at h
      · rename_i e q
        exact ixD_ok r h1 e2 h2 q c h
      · exact h.elim
    · rename_i cc
      split at h
      · rename_i us i q
        split at h
        · rename_i u' q2
          obtain ⟨a, ha, rfl⟩ := h1
          obtain ⟨_, vs, hh, rl⟩ := r.cells cc _ a q ha
          obtain ⟨u2, q3, q4⟩ := atI_rv rl q2
          exact .inl (.inl (.inl ⟨a, vs, i, u2, rfl, hy, SqL.of hh, q3, c _ δ _ I as H r (Le.refl I as) (nrm_rv r q4) h⟩))
        · exact h.elim
      · rename_i us i q
        split at h
        · rename_i u' q2
          obtain ⟨a, ha, rfl⟩ := h1
          obtain ⟨_, vs, hh, rl⟩ := r.cells cc _ a q ha
          obtain ⟨u2, q3, q4⟩ := atI_rv rl q2
          exact .inl (.inl (.inr (.inl ⟨a, vs, i, u2, rfl, hy, SqT.of hh, q3, c _ δ _ I as H r (Le.refl I as) (nrm_rv r q4) h⟩)))
        · exact h.elim
      · rename_i kvs q
        split at h
        · rename_i kk hk
          split at h
          · rename_i u' q2
            obtain ⟨a, ha, rfl⟩ := h1
            obtain ⟨_, vs, hh, rl⟩ := r.cells cc _ a q ha
            obtain ⟨u2, q3, q4⟩ := rl.val q2
            have ew : u = kV kk := rep_key hk hy
            subst ew
            exact .inl (.inr ⟨a, u2, rfl, .inl ⟨vs, kk, .inl hh, rfl, q3.symm⟩, c _ δ _ I as H r (Le.refl I as) (nrm_rv r q4) h⟩)
          · exact h.elim
        · exact h.elim
      · rename_i d q
        split at h
        · rename_i e q2
          exact ixD_ok r (r.imS (s := .cl cc) (by simp only [Fx.imS, q]) h1) e2 h2 q2 c h
        · exact h.elim
      · exact h.elim
end
/-! ## a[i:j] -/
def cutL {α : Type} (xs : List α) (lo hi : Option Int) : List α := (xs.drop (HT.sIx xs.length 0 lo)).take (HT.sIx xs.length xs.length hi - HT.sIx xs.length 0 lo)
def slD (x : D) (lo hi : Option Int) : Option D := match x with
  | .lst ds => some (.lst (cutL ds lo hi))
  | .tup ds => some (.tup (cutL ds lo hi))
  | .str z => if z.length ≤ 1000000 then some (.str (L2.cutS z lo hi)) else none
  | _ => none
abbrev AO := Sta → O (Option Int)
def aNoPart : AO := fun δ => .ok none δ
def aPart (a : AE) : AO := fun δ => (a δ).bind fun s δ1 => match dv δ1.ce s with
  | some (.int i) => .ok (some i) δ1
  | _ => .bad
def aSl (a : AE) (lo hi : AO) : AE := fun δ => (a δ).bind fun s δ1 => (lo δ1).bind fun l δ2 => (hi δ2).bind fun h δ3 => match s with
  | .im (.tup ds) => .ok (.im (.tup (cutL ds l h))) δ3
  | s => match dv δ3.ce s with
    | some (.tup _) => .bad
    | some x => (match slD x l h with
      | some d => .ok (.im d) δ3
      | none => .bad)
    | none => .bad
end Fx

set_option Elab.async false
set_option linter.all false
set_option autoImplicit false
set_option maxRecDepth 100000
set_option maxHeartbeats 2000000
namespace Fx
open PySem L2
section
variable {K : PySem.W.Frag} {xs : Xs} {W : WX} {ta te : TE} {a : AE} {tr : TA} {r : AA} {tl th : TO} {lo hi : AO}
/-! ## built-in calls -/
abbrev ACB := List SV → Sta → O SV
def aCB (f : ACB) (r : AA) : AE := fun δ => (r δ).bind f
def CbOk (K : PySem.W.Frag) (xs : Xs) (rr : List V → Hp → VK → Prop) (f : ACB) : Prop := ∀ fr ss δ (Ψ : SV → Sta → Prop) Ξ, (f ss δ).sat Ψ Ξ → CbW K ⟨xs, fr⟩ rr ss Ψ δ
theorem se_cb {rr : List V → Hp → VK → Prop} {f : ACB} (hf : CbOk K xs rr f) (hr : SA K xs W tr r) : SE K xs W (tCB rr tr) (aCB f r) := fun fr δ Ψ Ξ h =>
  we_cb (hr fr δ _ _ (Out.sat_mono (Out.sat_bind h) (fun ss δ1 h1 => hf fr ss δ1 Ψ Ξ h1) fun _ _ z => z))
def dCB1 (f : D → Option D) : ACB := fun ss δ => match ss with
  | [s] => (match dv δ.ce s with
    | some x => (match f x with
      | some d => .ok (.im d) δ
      | none => .bad)
    | none => .bad)
  | _ => .bad
def dCB2 (f : D → D → Option D) : ACB := fun ss δ => match ss with
  | [s, t] => dOp f s t δ
  | _ => .bad
theorem dCB1_ok {rr : List V → Hp → VK → Prop} {f : D → Option D} (h : ∀ (ec : EC) (δ : Sta) (s : SV) (x d : D) (Ψ : SV → Sta → Prop), dv δ.ce s = some x → f x = some d → Ψ (.im d) δ → CbW K ec rr [s] Ψ δ) : CbOk K xs rr (dCB1 f) := by
  intro fr ss δ Ψ Ξ q
  unfold dCB1 at q
  split at q
  · split at q
    · rename_i x e
      split at q
      · rename_i d e2; exact h _ δ _ x d Ψ e e2 q
      · exact q.elim
    · exact q.elim
  · exact q.elim
theorem dCB2_ok {rr : List V → Hp → VK → Prop} {f : D → D → Option D} (h : ∀ (ec : EC) (δ : Sta) (s t : SV) (x y d : D) (Ψ : SV → Sta → Prop), dv δ.ce s = some x → dv δ.ce t = some y → f x y = some d → Ψ (.im d) δ → CbW K ec rr [s, t] Ψ δ) : CbOk K xs rr (dCB2 f) := by
  intro fr ss δ Ψ Ξ q
  unfold dCB2 at q
  split at q
  · rename_i s t
    unfold dOp at q
    cases e1 : dv δ.ce s with
    | none => rw [e1] at q; exact q.elim
    | some x =>
      cases e2 : dv δ.ce t with
      | none => rw [e1, e2] at q; exact q.elim
      | some y =>
        rw [e1, e2] at q
        dsimp only at q
        cases e3 : f x y with
        | none => rw [e3] at q; exact q.elim
        | some d => rw [e3] at q; exact h _ δ s t x y d Ψ e1 e2 e3 q
  · exact q.elim
end
def absD : D → Option D
  | .int i => some (.int (if i < 0 then -i else i))
  | _ => none
def intD : D → Option D
  | .int i => some (.int i)
  | .bl b => some (.int (if b then 1 else 0))
  | .str a => if a.length ≤ 640 then (PySem.intText? a).map .int else none
  | _ => none
def maxD : D → D → Option D
  | .int i, .int j => some (.int (if j > i then j else i))
  | _, _ => none
def minD : D → D → Option D
  | .int i, .int j => some (.int (if j < i then j else i))
  | _, _ => none
def lenD : D → Option D
  | .lst ds => some (.int ds.length)
  | .tup ds => some (.int ds.length)
  | .scr ns => some (.int ns.length)
  | .str z => if z.length ≤ 1000000 then some (.int z.length) else none
  | .dic kvs => some (.int kvs.length)
  | _ => none
def strD : D → Option D
  | .int i => if i.natAbs < 1000000000000000000000 then some (.str (toString i)) else none
  | .str x => some (.str x)
  | _ => none
/-! the machine's rules -/
section
variable {X : Cx}
def rIntA : List V → Hp → VK → Prop := fun xs H Q => rInt1 xs H Q ∨ ∃ a n, xs = [.str a] ∧ PySem.intText? a = some n ∧ a.length ≤ 640 ∧ Q (.int n) H
theorem cl_int : CallR X (.type "int") rIntA := CallR.or call_int1 call_int_str
def rStrA : List V → Hp → VK → Prop := fun xs H Q => rReprI xs H Q ∨ ∃ a, xs = [.str a] ∧ Q (.str a) H
theorem cl_str : CallR X (.type "str") rStrA := CallR.or call_str_int SkE.call_str_str
def rLenB (K : PySem.W.Frag) : List V → Hp → VK → Prop := fun xs H Q => rLenA K xs H Q ∨ ∃ a kvs, xs = [.ref a] ∧ Rd H a (.dK kvs) ∧ Q (.int kvs.length) H
theorem cl_len : CallR X (.builtin "len") (rLenB X.K) := by
  refine CallR.or call_len ?_
  intro pins s σ H xs us Q I r h
  obtain ⟨a, kvs, rfl, ha, q⟩ := h
  obtain ⟨u, rfl, ru⟩ := vals1 r
  cases (show u = Value.ref a from ru)
  exact d_len I ha fun t s' I' => ⟨.int kvs.length, H, I', ⟨t, rfl⟩, q⟩
theorem cl_abs : CallR X (.builtin "abs") rAbs := call_abs
theorem cl_max (hc : X.calm = true) : CallR X (.builtin "max") rMax2 := call_max2 hc
theorem cl_min (hc : X.calm = true) : CallR X (.builtin "min") rMin2 := call_min2 hc
end
section
variable {K : PySem.W.Frag} {xs : Xs}
theorem ok_abs : CbOk K xs rAbs (dCB1 absD) := dCB1_ok fun ec δ s x d Ψ e h k => by
  unfold absD at h
  split at h
  · cases h; exact cb_abs e k
  · cases h
theorem ok_int : CbOk K xs rIntA (dCB1 intD) := dCB1_ok fun ec δ s x d Ψ e h k => by
  unfold intD at h
  split at h
  · cases h; exact cb_l (cb_int e k)
  · cases h; exact cb_l (cb_intB e k)
  · rename_i a
    split at h
    · rename_i hl
      rw [Option.map_eq_some_iff] at h
      obtain ⟨n, hn, rfl⟩ := h
      refine cb_r ?_
      intro σ I as H Q vs r h1 c
      obtain ⟨w, t, rfl, h, rfl⟩ := h1
      cases (show w = .str a from r.dv e h)
      exact ⟨a, n, rfl, hn, hl, c (.im (.int n)) δ _ I as H r (Le.refl I as) rfl k⟩
    · cases h
  · cases h
theorem ok_max : CbOk K xs rMax2 (dCB2 maxD) := dCB2_ok fun ec δ s t x y d Ψ e1 e2 h k => by
  unfold maxD at h
  split at h
  · cases h; exact cb_max e1 e2 k
  · cases h
theorem ok_min : CbOk K xs rMin2 (dCB2 minD) := dCB2_ok fun ec δ s t x y d Ψ e1 e2 h k => by
  unfold minD at h
  split at h
  · cases h; exact cb_min e1 e2 k
  · cases h
theorem log_of {i : Int} (h : i.natAbs < 1000000000000000000000) : i.natAbs.log2 < 1920 := by
  by_cases h0 : i.natAbs = 0
  · rw [h0]; decide
  · exact Nat.lt_of_lt_of_le ((Nat.log2_lt h0).mpr (show i.natAbs < 2 ^ 70 from Nat.lt_of_lt_of_le h (by decide))) (by decide)
theorem ok_len : CbOk K xs (rLenB K) (dCB1 lenD) := dCB1_ok fun ec δ s x d Ψ e h k => by
  unfold lenD at h
  split at h
  · cases h; exact cb_l (cb_len e len_lst k)
  · cases h; exact cb_l (cb_len e len_tup k)
  · cases h; exact cb_l (cb_len e len_scr k)
  · split at h
    · rename_i hz; cases h; exact cb_l (cb_len e (len_str (line_le hz)) k)
    · cases h
  · cases h
    refine cb_r ?_
    intro σ I as H Q vs r h1 c
    obtain ⟨w, t, rfl, h, rfl⟩ := h1
    obtain ⟨a, kvs, rfl, ha, ra⟩ := r.dvK e h
    exact ⟨a, kvs, rfl, ha, by rw [ra.length]; exact c (.im (.int _)) δ _ I as H r (Le.refl I as) rfl k⟩
  · cases h
theorem ok_str : CbOk K xs rStrA (dCB1 strD) := dCB1_ok fun ec δ s x d Ψ e h k => by
  intro σ I as H Q vs r h1 c
  obtain ⟨w, t, rfl, hw, rfl⟩ := h1
  have rep := r.dv e hw
  have go : ∀ z : Str, Ψ (.im (.str z)) δ → Q (.str z) H := fun z kk => c (.im (.str z)) δ _ I as H r (Le.refl I as) rfl kk
  unfold strD at h
  split at h
  · split at h
    · rename_i hz
      cases h
      cases (show w = _ from rep)
      exact .inl ⟨_, rfl, log_of hz, go _ k⟩
    · cases h
  · cases h
    cases (show w = _ from rep)
    exact .inr ⟨_, rfl, go _ k⟩
  · cases h
end
/-! ## list(x), tuple(x), dict(x) -/
/-- list(x) as data; as a new cell -/
def listA : ACB := fun ss δ => match ss with
  | [s] => (match dv δ.ce s with
    | some (.lst ds) => .ok (.im (.lst ds)) δ
    | some (.tup ds) => .ok (.im (.lst ds)) δ
    | _ => .bad)
  | _ => .bad
def listC : ACB := fun ss δ => match ss with
  | [s] => (match dv δ.ce s with
    | some (.lst ds) => .ok (.cl δ.ce.length) ⟨δ.sl, δ.ce ++ [.lst (ds.map .im)]⟩
    | some (.tup ds) => .ok (.cl δ.ce.length) ⟨δ.sl, δ.ce ++ [.lst (ds.map .im)]⟩
    | _ => .bad)
  | _ => .bad
def tupleA : ACB := fun ss δ => match ss with
  | [s] => (match imS δ.ce s with
    | some (.tup ds) => .ok (.im (.tup ds)) δ
    | _ => (match dv δ.ce s with
      | some (.lst ds) => .ok (.im (.tup ds)) δ
      | _ => .bad))
  | _ => .bad
def dictC : ACB := fun ss δ => match ss with
  | [s] => (match dv δ.ce s with
    | some (.dic kds) => .ok (.cl δ.ce.length) ⟨δ.sl, δ.ce ++ [.dic (kds.map fun p => (p.1, .im p.2))]⟩
    | _ => .bad)
  | _ => .bad
theorem cl_dict {X : Cx} : CallR X (.type "dict") rDictD := call_dictD
section
variable {K : PySem.W.Frag} {xs : Xs}
theorem rvl_im {I : Hp} {as : List Addr} : ∀ {ds : List D} {ws : List V}, RepL K I ds ws → RVL K I as (ds.map SV.im) ws
  | [], _, h => h
  | d :: ds, _, ⟨v, r, e, h1, h2⟩ => ⟨v, r, e, h1, rvl_im h2⟩
theorem ok_dict : CbOk K xs rDictD dictC := by
  intro fr ss δ Ψ Ξ h
  unfold dictC at h
  split at h
  · split at h
    · rename_i kds e; exact cb_dict e h
    · exact h.elim
  · exact h.elim
end
/-! ## all([..]), any([..]) -/
section
variable {K : PySem.W.Frag} {xs : Xs}
end
/-! ## isinstance -/
/-- the kind of a value: a built-in class, an own one -/
def kindD : D → Option XC
  | .non => some (.blt "NoneType") | .bl _ => some (.blt "bool") | .int _ => some (.blt "int") | .str _ => some (.blt "str") | .lst _ => some (.blt "list") | .tup _ => some (.blt "tuple") | .dic _ => some (.blt "dict")
  | .ins C _ => some (.own C) | .slf C _ => some (.own C) | _ => none
def kindS (δ : Sta) : SV → Option XC
  | .no => none
  | .im d => kindD d
  | .cl c => match δ.ce[c]? with
    | some (.fz d) => kindD d
    | some (.lst _) => some (.blt "list")
    | some (.tup _) => some (.blt "tuple")
    | some (.dic _) => some (.blt "dict")
    | some (.ins C _) => some (.own C)
    | _ => none
def clsD : D → Option XC
  | .ty n => some (.blt n)
  | .glo x => some (.own x)
  | _ => none
abbrev Isi := List ((XC × XC) × Bool)
def isiA (isi : Isi) : ACB := fun ss δ => match ss with
  | [s, t] => (match kindS δ s, dv δ.ce t with
    | some k, some d => (match clsD d with
      | some c => (match isi.lookup (k, c) with
        | some b => .ok (.im (.bl b)) δ
        | none => .bad)
      | none => .bad)
    | _, _ => .bad)
  | _ => .bad
/-- what is known of an own class, for isinstance -/
structure InsF (K : PySem.W.Frag) (C : Addr) : Prop where
  cl : Cls K C
  ha : PySem.W.findIn K (.ref C) "__class__" = some (some (.builtin "object.__class__"))
  hn : PySem.W.specialIn K (.builtin "object.__class__") "__get__" = some (some (.builtin "getset_descriptor.__get__"))
  htk : PySem.W.takesIn K (.builtin "object.__class__") = some true
  hm : PySem.W.mroIn K C (.type "object") = some true
structure IsiOk (K : PySem.W.Frag) (isi : Isi) : Prop where
  kit : ∀ k c b, isi.lookup (k, c) = some b → PySem.W.kitOne K (k.v K) (c.v K) = some b
  ins : ∀ C c b, isi.lookup (.own C, c) = some b → InsF K (He.ga K C)
theorem cl_isi {X : Cx} : CallR X (.builtin "isinstance") (rIsi X.K) := call_isi
section
variable {K : PySem.W.Frag} {xs : Xs}
theorem tyX_D {isi : Isi} (hI : IsiOk K isi) {H : Hp} {d : D} {k c : XC} {b : Bool} {v : V} (e : kindD d = some k) (q : isi.lookup (k, c) = some b) (h : Rep K H d v) : TyX K H v (k.v K) := by
  cases d with
  | non => cases e; cases (show v = _ from h); exact .base .non
  | bl b => cases e; cases (show v = _ from h); exact .base (.bl b)
  | int b => cases e; cases (show v = _ from h); exact .base (.int b)
  | str b => cases e; cases (show v = _ from h); exact .base (.str b)
  | lst b => cases e; obtain ⟨a, vs, rfl, ha, _⟩ := h; exact .base (.lst ha)
  | tup b =>
    cases e
    obtain ⟨a, vs, rfl, ha, _⟩ := h
    rcases ha with (ha | ⟨o, ha⟩) | ⟨o, its, n, h1, h2, _⟩
    · exact .base (.tup ha)
    · exact .fTuple ha
    · exact .kTuple h1 h2
  | dic b =>
    cases e
    obtain ⟨a, vs, rfl, ha, _⟩ := h
    rcases ha with ha | ⟨o, ha⟩
    · exact .base (.dK ha)
    · exact .fDict ha
  | ins C fs =>
    cases e
    obtain ⟨a, dx, vs, rfl, ha, _⟩ := h
    have f := hI.ins C c b q
    exact .base (.ins ha f.cl f.ha f.hn f.htk f.hm)
  | slf C fs =>
    cases e
    obtain ⟨a, dx, vs, rfl, ha, _⟩ := h
    have f := hI.ins C c b q
    exact .base (.ins ha f.cl f.ha f.hn f.htk f.hm)
  | _ => cases e
theorem tyX_S {isi : Isi} (hI : IsiOk K isi) {ec : EC} {δ : Sta} {σ : L2.St} {I : Hp} {as : List Addr} {H : Hp} (r : R K ec δ σ I as H) {s : SV} {k c : XC} {b : Bool} {v : V} (e : kindS δ s = some k) (q : isi.lookup (k, c) = some b) (h : RV K I as s v) : TyX K H v (k.v K) := by
  cases s with
  | no => cases e
  | im d => exact tyX_D hI e q (Rep.mono r.ih _ _ h)
  | cl cc =>
    obtain ⟨a, ha, rfl⟩ := h
    unfold kindS at e
    dsimp only at e
    cases qc : δ.ce[cc]? with
    | none => rw [qc] at e; cases e
    | some o =>
      rw [qc] at e
      have z := r.cells cc o a qc ha
      cases o with
      | fz d => exact tyX_D hI e q (Rep.mono r.ih _ _ z)
      | lst _ => cases e; obtain ⟨_, vs, h1, _⟩ := z; exact .base (.lst h1)
      | tup _ => cases e; obtain ⟨_, vs, h1, _⟩ := z; exact .base (.tup h1)
      | dic _ => cases e; obtain ⟨_, vs, h1, _⟩ := z; exact .base (.dK h1)
      | ins C _ =>
        cases e
        obtain ⟨_, dx, vs, h1, _⟩ := z
        have f := hI.ins C c b q
        exact .base (.ins h1 f.cl f.ha f.hn f.htk f.hm)
      | exc _ _ => cases e
      | dead => cases e
      | tbl _ => cases e
theorem ok_isi {isi : Isi} (hI : IsiOk K isi) : CbOk K xs (rIsi K) (isiA isi) := by
  intro fr ss δ Ψ Ξ h σ I as H Q vs r h1 c
  unfold isiA at h
  split at h
  · obtain ⟨w, _, rfl, hw, w', _, rfl, hw', rfl⟩ := h1
    split at h
    · rename_i k d ek ed
      split at h
      · rename_i cc ec
        split at h
        · rename_i b q
          have rep := r.dv ed hw'
          have cv : ClsV w' (cc.v K) := by
            cases d with
            | ty n => cases ec; cases (show w' = _ from rep); exact .ty n
            | glo x => cases ec; cases (show w' = _ from rep); exact .own _
            | _ => cases ec
          exact ⟨w, w', _, _, b, rfl, cv, tyX_S hI r ek q hw, hI.kit k cc b q, c (.im (.bl b)) δ _ I as H r (Le.refl I as) rfl h⟩
        · exact h.elim
      · exact h.elim
    · exact h.elim
  · exact h.elim
end
end Fx

set_option Elab.async false
set_option linter.all false
set_option autoImplicit false
set_option maxRecDepth 100000
set_option maxHeartbeats 2000000
namespace Fx
open PySem PySem.Spec PyProof.Rows L2
/-! ## fields and constants of classes -/
def tFC (K : PySem.W.Frag) (ta : TE) (f : Str) : TE := fun σ H Q => ta σ H fun x H1 => (∃ a C dx fs v, x = .ref a ∧ H1 a = some (.ins C dx fs) ∧ Cls K C ∧ NoAttr K C f ∧ fs.lookup f = some v ∧ Q v H1) ∨
  (∃ a C dx fs v u, x = .ref a ∧ H1 a = some (.ins C dx fs) ∧ Cls K C ∧ Con K C f v u ∧ fs.lookup f = none ∧ Q v H1)
theorem pe_fc {X : Cx} {K : PySem.W.Frag} {e : Expr} {f : Str} {pos : Pos} {ta : TE} (he : PE X e ta) (hb : attributeBase e f X.env (eval e X.env) = eval e X.env) (hK : X.K = K := by rfl) : PE X (.Attribute e f pos) (tFC K ta f) := by
  subst hK
  refine ⟨fun pins s σ H Q I h => ?_⟩
  refine attr_of hb (thn (he.run pins s σ H _ I h) fun u s1 ⟨x, H1, I1, rx, hh⟩ => ?_)
  rcases hh with ⟨a, C, dx, fs, v, ex, ea, c, n, l, q⟩ | ⟨a, C, dx, fs, v, u0, ex, ea, c, k, l, q⟩
  · subst ex
    obtain rfl : u = Value.ref a := rx
    exact getattr_ok I1 ea c n l fun u' s2 I2 ru => ⟨v, H1, I2, ru, q⟩
  · subst ex
    obtain rfl : u = Value.ref a := rx
    exact getcon_ok I1 ea c k l fun s2 I2 => ⟨v, H1, I2, k.rel, q⟩
/-- the classes: of each its fields; its constants -/
structure CT where
  fl : List (Str × List Str)
  cn : List ((Str × Str) × D)
def CT.has (ct : CT) (C f : Str) : Bool := match ct.fl.lookup C with
  | some fs => fs.contains f
  | none => false
structure CtOk (K : PySem.W.Frag) (ct : CT) : Prop where
  cls : ∀ C fs, ct.fl.lookup C = some fs → Cls K (He.ga K C)
  fl : ∀ C f, ct.has C f = true → NoAttr K (He.ga K C) f
  cn : ∀ C f d, ct.cn.lookup (C, f) = some d → Cls K (He.ga K C) ∧ ∃ v u, Con K (He.ga K C) f v u ∧ ∀ I, Rep K I d v
theorem CtOk.clsOf {K : PySem.W.Frag} {ct : CT} (h : CtOk K ct) {C f : Str} (q : ct.has C f = true) : Cls K (He.ga K C) := by
  unfold CT.has at q
  split at q
  · rename_i fs e; exact h.cls C fs e
  · cases q
def aFld (ct : CT) (a : AE) (f : Str) : AE := fun δ => (a δ).bind fun s δ1 => match s with
  | .im (.ins C fs) => (match fs.lookup f with
    | some d => if ct.has C f = true then .ok (.im d) δ1 else .bad
    | none => (match ct.cn.lookup (C, f) with
      | some d => .ok (.im d) δ1
      | none => .bad))
  | .im (.slf C fs) => (match fs.lookup f with
    | some d => if ct.has C f = true then .ok (.im (selfF (.slf C fs) d)) δ1 else .bad
    | none => (match ct.cn.lookup (C, f) with
      | some d => .ok (.im d) δ1
      | none => .bad))
  | .cl c => (match δ1.ce[c]? with
    | some (.ins C fs) => (match fs.lookup f with
      | some t => if ct.has C f = true then .ok (nrm δ1.ce t) δ1 else .bad
      | none => (match ct.cn.lookup (C, f) with
        | some d => .ok (.im d) δ1
        | none => .bad))
    | _ => .bad)
  | _ => .bad
theorem RVF.lookN {K : PySem.W.Frag} {I : Hp} {as : List Addr} : ∀ {d : List (Str × SV)} {v : List (Str × V)} {f : Str}, RVF K I as d v → d.lookup f = none → v.lookup f = none
  | [], _, f, h, e => by rw [show _ = [] from h]; rfl
  | (k, d) :: ds, _, f, ⟨v, r, h1, h2, h3⟩, e => by
    subst h1
    by_cases hk : f == k
    · simp only [List.lookup_cons, hk] at e
      cases e
    · simp only [List.lookup_cons, hk] at e ⊢
      exact RVF.lookN h3 e
theorem se_fld {K : PySem.W.Frag} {xs : Xs} {W : WX} {ct : CT} (hC : CtOk K ct) {ta : TE} {a : AE} {f : Str} (ha : SE K xs W ta a) : SE K xs W (tFC K ta f) (aFld ct a f) := by
  intro fr δ Ψ Ξ h σ I as H Q r c
  refine ha fr δ _ _ (Out.sat_bind h) σ I as H _ r ⟨fun s δ1 v I1 as1 H1 r1 l1 rv k => ?_, c.x⟩
  split at k
  · rename_i C fs
    have rep := (show Rep K I1 (.ins C fs) v from rv)
    obtain ⟨b, dx, ws, rfl, hb, rb⟩ := id rep
    split at k
    · rename_i d e
      split at k
      · rename_i q
        obtain ⟨u, q1, q2⟩ := rb.look e
        exact .inl ⟨b, _, dx, ws, u, rfl, r1.ih _ _ hb, hC.clsOf q, hC.fl C f q, q1, c.v (.im d) δ1 u I1 as1 H1 r1 l1 q2 k⟩
      · exact k.elim
    · rename_i e
      split at k
      · rename_i d q
        obtain ⟨cl, v0, u0, con, rp⟩ := hC.cn C f d q
        exact .inr ⟨b, _, dx, ws, v0, u0, rfl, r1.ih _ _ hb, cl, con, rb.lookN e, c.v (.im d) δ1 v0 I1 as1 H1 r1 l1 (rp I1) k⟩
      · exact k.elim
  · rename_i C fs
    have rep := (show Rep K I1 (.slf C fs) v from rv)
    obtain ⟨b, dx, ws, rfl, hb, rb⟩ := id rep
    split at k
    · rename_i d e
      split at k
      · rename_i q
        obtain ⟨u, q1, q2⟩ := rb.look rep e
        exact .inl ⟨b, _, dx, ws, u, rfl, r1.ih _ _ hb, hC.clsOf q, hC.fl C f q, q1, c.v (.im _) δ1 u I1 as1 H1 r1 l1 q2 k⟩
      · exact k.elim
    · rename_i e
      split at k
      · rename_i d q
        obtain ⟨cl, v0, u0, con, rp⟩ := hC.cn C f d q
        exact .inr ⟨b, _, dx, ws, v0, u0, rfl, r1.ih _ _ hb, cl, con, rb.lookN e, c.v (.im d) δ1 v0 I1 as1 H1 r1 l1 (rp I1) k⟩
      · exact k.elim
  · rename_i cc
    obtain ⟨b, hb, rfl⟩ := rv
    split at k
    · rename_i C fs qc
      obtain ⟨_, dx, ws, hh, rb⟩ := r1.cells cc _ b qc hb
      split at k
      · rename_i t e
        split at k
        · rename_i q
          obtain ⟨u, q1, q2⟩ := rb.look e
          exact .inl ⟨b, _, dx, ws, u, rfl, hh, hC.clsOf q, hC.fl C f q, q1, c.v _ δ1 u I1 as1 H1 r1 l1 (nrm_rv r1 q2) k⟩
        · exact k.elim
      · rename_i e
        split at k
        · rename_i d q
          obtain ⟨cl, v0, u0, con, rp⟩ := hC.cn C f d q
          exact .inr ⟨b, _, dx, ws, v0, u0, rfl, hh, cl, con, rb.lookN e, c.v (.im d) δ1 v0 I1 as1 H1 r1 l1 (rp I1) k⟩
        · exact k.elim
    · exact k.elim
  · exact k.elim
/-! ## calls -/
abbrev EW (W : WX) : L2.St → XK := fun σ cls d H => W cls d σ H
/-- a def by its name, so many parameters, the defaults that fill up -/
structure GF (P : Program) (w : World) (K : PySem.W.Frag) (mg : Str → Option Value) (base : Heap) (x : Str) (n : Nat) (dds : List D) (k : Nat) (F : Fn) : Prop where
  ex : ∃ (f : Addr) (fd : FuncData) (ps : List Str) (ds : List Value) (dvs : List V), FnG P w K mg base (CX P w) k f fd ps (spFn K n F) ∧ mg x = some (.ref f) ∧ PySem.W.keepIn K (.ref f) = true ∧ Binds K fd ps ds ∧ Vals dvs ds ∧ ∀ I, RepL K I dds dvs
/-- a class by its name -/
structure GK (P : Program) (w : World) (K : PySem.W.Frag) (mg : Str → Option Value) (base : Heap) (x : Str) (n : Nat) (dds : List D) (k : Nat) (F : Fn) : Prop where
  ex : ∃ (f : Addr) (fd : FuncData) (ps : List Str) (ds : List Value) (dvs : List V), FnG P w K mg base (CX P w) k f fd ps (spFn K n F) ∧ Mk K (He.ga K x) f ∧ mg x = some (.ref (He.ga K x)) ∧ Binds K fd ps ds ∧ Vals dvs ds ∧ ∀ I, RepL K I dds dvs
/-- a method of some classes -/
abbrev MTab := List (Str × (Nat × Fn))
structure GM (P : Program) (w : World) (K : PySem.W.Frag) (mg : Str → Option Value) (base : Heap) (m : Str) (k : Nat) (tab : MTab) : Prop where
  ex : ∀ C n F, tab.lookup C = some (n, F) → ∃ (f : Addr) (fd : FuncData) (ps : List Str), Cls K (He.ga K C) ∧ Meth K (He.ga K C) m f ∧ FnG P w K mg base (CX P w) k f fd ps (spFn K n F) ∧ Binds K fd ps []
def tCallF (K : PySem.W.Frag) (n : Nat) (F : Fn) (dds : List D) (W : WX) (t : TA) : TE := fun σ H Q => t σ H fun vs H1 => ∀ dvs, (∀ I, RepL K I dds dvs) → spFn K n F (vs ++ dvs) H1 Q (EW W σ)
def tMakeF (K : PySem.W.Frag) (x : Str) (n : Nat) (F : Fn) (dds : List D) (W : WX) (t : TA) : TE := fun σ H Q => t σ H fun vs H1 => ∀ dvs, (∀ I, RepL K I dds dvs) → ∀ o dx, H1 o = none → H1 dx = none → dx ≠ o →
  spFn K n F (.ref o :: (vs ++ dvs)) (upd (upd H1 dx (.own o)) o (.ins (He.ga K x) dx [])) (fun v H2 => v = .non ∧ Q (.ref o) H2) (EW W σ)
def tMethF (K : PySem.W.Frag) (tab : MTab) (m : Str) (W : WX) (ta : TE) (t : TA) : TE := fun σ H Q => ta σ H fun x H1 => ∃ a C dx fs n F, x = .ref a ∧ H1 a = some (.ins (He.ga K C) dx fs) ∧ fs.lookup m = none ∧ tab.lookup C = some (n, F) ∧
  t σ H1 fun vs H2 => spFn K n F (x :: vs) H2 Q (EW W σ)
section
variable {X : Cx} {P : Program} {w : World} {K : PySem.W.Frag} {mg : Str → Option Value} {base : Heap} {k n : Nat} {F : Fn} {dds : List D} {x m : Str} {p pos apos : Pos} {e o : Expr} {es : List Expr} {t : TA} {ta : TE} {W : WX} {tab : MTab}
abbrev Same5 (X : Cx) (P : Program) (w : World) (K : PySem.W.Frag) (mg : Str → Option Value) (base : Heap) : Prop := X.prog = P ∧ X.w = w ∧ X.K = K ∧ X.mg = mg ∧ X.base = base
theorem pe_cf (G : GF P w K mg base x n dds k F) (hr : RoomG k X.A) (hg : Gl X x) (tk : Takes X W) (ha : PA X (e :: es) t) (hX : Same5 X P w K mg base := by exact ⟨rfl, rfl, rfl, rfl, rfl⟩) (hdb : (x == ("__debug__" : Str)) = false := by decide)
    (he : starEach (e :: es) X.env = (false, eval e X.env) :: starEach es X.env := by rfl) (hpl : (backTo pos (starEach es X.env)).any (·.1) = false := by rfl) : PE X (.Call (.Name x p) (e :: es) [] pos) (tCallF K n F dds W t) := by
  obtain ⟨rfl, rfl, rfl, rfl, rfl⟩ := hX
  obtain ⟨f, fd, ps, ds, dvs, Fo, hm, hk, hb, hd, rp⟩ := G.ex
  refine ⟨fun pins s σ H Q I h => ?_⟩
  refine wpAny_Call_Name_kw (ld_glob I hg hm ?_ hdb)
  refine PySem.W.callWith_K (h₀ := X.base) I.ok.mod.kin hk (thn (ha.run pos pins s σ H _ I h) fun us s1 ⟨vs, H1, I1, r, q⟩ => ⟨I1.kIn, ?_⟩) he hpl
  exact run_fnG (E := EW W) Fo hr hb hd (passAt tk σ) I1 r (q dvs rp)
theorem run_makeS {CX : CXT} {f C : Addr} {fd : FuncData} {ps : List Str} {sp : Sp} {dvs : List V} {ds : List Value} {E : XK} {pins : List (Addr × Obj)} {σ : L2.St} {H : Hp} {s : Shared} {Q : VK} {us : List Value} {vs : List V} (M : Mk X.K C f) (F : FnG X.prog X.w X.K X.mg X.base CX k f fd ps sp) (hr : RoomG (k + 1) X.A) (hb : Binds X.K fd ps ds) (hd : Vals dvs ds)
    (hx : PassesAt CX X σ E) (I : Inv X pins σ H s) (r : Vals vs us)
    (h : ∀ x dx, H x = none → H dx = none → dx ≠ x → sp (.ref x :: (vs ++ dvs)) (upd (upd H dx (.own x)) x (.ins C dx [])) (fun v H2 => v = .non ∧ Q (.ref x) H2) E) :
    wpAny (model X.prog X.w) X.A (call (.ref C) us) (EP X pins σ Q) X.xe s := by
  have hq := h (s.heap.objs.size + 1) s.heap.objs.size (I.hok.fresh (Nat.le_succ _)) (I.hok.fresh (Nat.le_refl _)) (Nat.ne_of_lt (Nat.lt_succ_self _))
  have I2 := Inv.made (C := C) I
  have r2 : Vals (V.ref (s.heap.objs.size + 1) :: (vs ++ dvs)) (Value.ref (s.heap.objs.size + 1) :: (us ++ ds)) := .cons rfl (r.append hd)
  have hl : (Value.ref (s.heap.objs.size + 1) :: us ++ ds).length = ps.length := by
    have e := r2.length
    rw [F.len _ _ _ _ hq] at e
    exact e.symm
  refine wpAny_call (make_map (f := f) I.kIn M.makes M.init (beq_iff_eq.mp M.fn) (codeAny_mono (F.run _ X.stack _ _ ⟨Value.ref (s.heap.objs.size + 1) :: us, []⟩ (Value.ref (s.heap.objs.size + 1) :: (us ++ ds)) _ _ E (hr.make C us [])
    (I2.env0.make C us []) (hb _ (Value.ref (s.heap.objs.size + 1) :: us) I2.kIn hl) r2 hq) fun r s' hq' => ?_))
  cases r with
  | error e => exact hx pins _ _ e s' I2 hq'
  | ok fl =>
    cases fl with
    | ret u =>
      obtain ⟨v, H', I3, rv, ev, q3⟩ := I2.after hq'
      subst ev
      exact ⟨rv, ⟨V.ref (s.heap.objs.size + 1), H', I3, rfl, q3⟩⟩
    | next => exact False.elim hq'
    | brk => exact False.elim hq'
    | cont => exact False.elim hq'
theorem pe_mk (G : GK P w K mg base x n dds k F) (hr : RoomG (k + 1) X.A) (hg : Gl X x) (tk : Takes X W) (ha : PA X (e :: es) t) (hX : Same5 X P w K mg base := by exact ⟨rfl, rfl, rfl, rfl, rfl⟩) (hdb : (x == ("__debug__" : Str)) = false := by decide)
    (he : starEach (e :: es) X.env = (false, eval e X.env) :: starEach es X.env := by rfl) (hpl : (backTo pos (starEach es X.env)).any (·.1) = false := by rfl) : PE X (.Call (.Name x p) (e :: es) [] pos) (tMakeF K x n F dds W t) := by
  obtain ⟨rfl, rfl, rfl, rfl, rfl⟩ := hX
  obtain ⟨f, fd, ps, ds, dvs, Fo, M, hm, hb, hd, rp⟩ := G.ex
  refine ⟨fun pins s σ H Q I h => ?_⟩
  refine wpAny_Call_Name_kw (ld_glob I hg hm ?_ hdb)
  refine PySem.W.callWith_K (h₀ := X.base) I.ok.mod.kin M.kp (thn (ha.run pos pins s σ H _ I h) fun us s1 ⟨vs, H1, I1, r, q⟩ => ⟨I1.kIn, ?_⟩) he hpl
  exact run_makeS (E := EW W σ) M Fo hr hb hd (passAt tk σ) I1 r (q dvs rp)
theorem pe_dm0 {pl : Sem Bool} (G : GM P w K mg base m k tab) (he : PE X o ta) (hr : RoomG k X.A) (tk : Takes X W) (hX : Same5 X P w K mg base := by exact ⟨rfl, rfl, rfl, rfl, rfl⟩)
    (ht : eval (.Call (.Attribute o m apos) [] [] pos) X.env = (do
      let ov ← eval o X.env
      standAt apos.atName
      let (f, first) ← holding [ov] (getMethod ov m pl)
      callWith pos f first (backTo pos (starEach [] X.env)) (backToKw pos (keywordEach [] X.env))) := by rfl) :
    PE X (.Call (.Attribute o m apos) [] [] pos) (tMethF K tab m W ta tNil) := by
  obtain ⟨rfl, rfl, rfl, rfl, rfl⟩ := hX
  refine ⟨fun pins s σ H Q I h => ?_⟩
  refine PySem.W.methodCall_KW (pl := pl) (thn (he.run pins s σ H _ I h) fun u s1 ⟨x, H1, I1, rx, a, C, dx, fs, n, F, ex, ea, l, hl, q⟩ => ?_) ht
  obtain ⟨f, fd, ps, c, hm, Fo, hb⟩ := G.ex C n F hl
  subst ex
  obtain rfl : u = Value.ref a := rx
  refine getmeth_ok I1 ea c hm l ?_
  exact PySem.W.callWith_K0 (first := [.ref a]) I1.kIn hm.kp (run_fnG (us := [.ref a]) (vs := [.ref a]) (dvs := []) (E := EW W) Fo hr hb .nil (passAt tk σ) I1 (.cons rfl .nil) (by rw [List.append_nil]; exact q))
end
/-! the calls as outcomes -/
theorem none_of {α : Type} {o : Option α} (h : ¬ o.isSome = true) : o = none := by
  cases o with
  | none => rfl
  | some x => exact absurd rfl h
def out1 (sl : List SV) : Out (List CO) SV → O SV
  | .ok s ce => .ok s ⟨sl, ce⟩
  | .ex x ce => .ex x ⟨sl, ce⟩
  | .bad => .bad
def aCall (n : Nat) (F : Fn) (dds : List D) (r : AA) : AE := fun δ => (r δ).bind fun ss δ1 => if (ss ++ dds.map SV.im).length = n then out1 δ1.sl (F (ss ++ dds.map SV.im) δ1.ce) else .bad
/-- C(..): a new instance, filled by __init__; data behind it -/
def aMake (x : Str) (n : Nat) (F : Fn) (dds : List D) (r : AA) : AE := fun δ => (r δ).bind fun ss δ1 => if (SV.cl δ1.ce.length :: (ss ++ dds.map SV.im)).length = n then (match F (.cl δ1.ce.length :: (ss ++ dds.map SV.im)) (δ1.ce ++ [.ins x []]) with
  | .ok (.im .non) ce => (match frz ce δ1.ce.length with
    | some (d, ce1) => (match cutTo δ1.ce ce1 with
      | some ce2 => .ok (.im d) ⟨δ1.sl, ce2⟩
      | none => .ok (.im d) ⟨δ1.sl, ce1⟩)
    | none => .bad)
  | .ok _ _ => .bad
  | .ex y ce => (match cutTo δ1.ce ce with
      | some ce2 => if (y.fs.all fun p => p.2.bnd ce2.length) = true then .ex y ⟨δ1.sl, ce2⟩ else .ex y ⟨δ1.sl, ce⟩
      | none => .ex y ⟨δ1.sl, ce⟩)
  | .bad => .bad) else .bad
/-- .. that stays a cell -/
def aMakeC (x : Str) (n : Nat) (F : Fn) (dds : List D) (r : AA) : AE := fun δ => (r δ).bind fun ss δ1 => if (SV.cl δ1.ce.length :: (ss ++ dds.map SV.im)).length = n then (match F (.cl δ1.ce.length :: (ss ++ dds.map SV.im)) (δ1.ce ++ [.ins x []]) with
  | .ok (.im .non) ce => .ok (.cl δ1.ce.length) ⟨δ1.sl, ce⟩
  | .ok _ _ => .bad
  | .ex y ce => .ex y ⟨δ1.sl, ce⟩
  | .bad => .bad) else .bad
def clsS (δ : Sta) (m : Str) : SV → Option Str
  | .im (.ins C fs) => if (fs.lookup m).isSome then none else some C
  | .im (.slf C fs) => if (fs.lookup m).isSome then none else some C
  | .cl c => match δ.ce[c]? with
    | some (.ins C fs) => if (fs.lookup m).isSome then none else some C
    | _ => none
  | _ => none
def aMeth (tab : MTab) (m : Str) (a : AE) (r : AA) : AE := fun δ => (a δ).bind fun s δ1 => match clsS δ1 m s with
  | some C => (match tab.lookup C with
    | some (n, F) => (r δ1).bind fun ss δ2 => if (s :: ss).length = n then out1 δ2.sl (F (s :: ss) δ2.ce) else .bad
    | none => .bad)
  | none => .bad
section
variable {K : PySem.W.Frag} {xs : Xs} {W : WX} {ta : TE} {a : AE} {tr : TA} {r : AA} {n : Nat} {F : Fn} {dds : List D}
theorem rvl_app {I : Hp} {as : List Addr} : ∀ {s1 s2 : List SV} {w1 w2 : List V}, RVL K I as s1 w1 → RVL K I as s2 w2 → RVL K I as (s1 ++ s2) (w1 ++ w2)
  | [], _, w1, _, h1, h2 => by rw [show w1 = [] from h1]; exact h2
  | s :: ss, _, _, _, ⟨v, r, e, g1, g2⟩, h2 => by subst e; exact ⟨v, _, rfl, g1, rvl_app g2 h2⟩
/-- a def is run: from its outcome to its promise -/
theorem sp_of {fr : Fr} {δ : Sta} {σ : L2.St} {I : Hp} {as : List Addr} {H : Hp} {Q : VK} {ss : List SV} {vs : List V} {Ψ : SV → Sta → Prop} {Ξ : Xn → Sta → Prop} (r : R K ⟨xs, fr⟩ δ σ I as H) (rv : RVL K I as ss vs) (hl : ss.length = n) (h : (out1 δ.sl (F ss δ.ce)).sat Ψ Ξ) (c : ConE K ⟨xs, fr⟩ σ I as W Ψ Ξ Q) :
    spFn K n F vs H Q (EW W σ) := by
  refine ⟨by rw [rv.length]; exact hl, xs, fr, ss, δ.ce, as, I, r.bare, rv, ⟨?_⟩⟩
  cases q : F ss δ.ce with
  | ok s ce => rw [q] at h; exact fun v I' as' H' r' l' rv' => c.v s ⟨δ.sl, ce⟩ v I' as' H' (R.reslot r' r l') l' rv' h
  | ex x ce => rw [q] at h; exact fun d I' as' H' r' l' xr => c.x x ⟨δ.sl, ce⟩ d I' as' H' (R.reslot r' r l') l' xr h
  | bad => rw [q] at h; exact h
theorem se_call (hr : SA K xs W tr r) : SE K xs W (tCallF K n F dds W tr) (aCall n F dds r) := by
  intro fr δ Ψ Ξ h σ I as H Q rr c
  refine hr fr δ _ _ (Out.sat_bind h) σ I as H _ rr ⟨fun ss δ1 vs I1 as1 H1 r1 l1 rv k => ?_, c.x⟩
  intro dvs rp
  split at k
  · rename_i hl
    exact sp_of r1 (rvl_app rv (rvl_im (rp I1))) hl k (c.later l1)
  · exact k.elim
theorem se_meth {tab : MTab} {m : Str} (ha : SE K xs W ta a) (hr : SA K xs W tr r) : SE K xs W (tMethF K tab m W ta tr) (aMeth tab m a r) := by
  intro fr δ Ψ Ξ h σ I as H Q rr c
  refine ha fr δ _ _ (Out.sat_bind h) σ I as H _ rr ⟨fun s δ1 v I1 as1 H1 r1 l1 rv k => ?_, c.x⟩
  split at k
  · rename_i C hc
    split at k
    · rename_i n F q
      have cls : ∃ b dx fs, v = .ref b ∧ H1 b = some (.ins (He.ga K C) dx fs) ∧ fs.lookup m = none := by
        cases s with
        | no => cases hc
        | im d =>
          cases d with
          | ins C' fs =>
            obtain ⟨b, dx, ws, rfl, hb, rb⟩ := (show Rep K I1 (.ins C' fs) v from rv)
            unfold clsS at hc
            dsimp only at hc
            split at hc
            · cases hc
            · rename_i e
              cases hc
              exact ⟨b, dx, ws, rfl, r1.ih _ _ hb, rb.lookN (none_of e)⟩
          | slf C' fs =>
            obtain ⟨b, dx, ws, rfl, hb, rb⟩ := (show Rep K I1 (.slf C' fs) v from rv)
            unfold clsS at hc
            dsimp only at hc
            split at hc
            · cases hc
            · rename_i e
              cases hc
              exact ⟨b, dx, ws, rfl, r1.ih _ _ hb, rb.lookN (none_of e)⟩
          | _ => cases hc
        | cl cc =>
          obtain ⟨b, hb, rfl⟩ := rv
          unfold clsS at hc
          dsimp only at hc
          split at hc
          · rename_i C' fs qc
            obtain ⟨_, dx, ws, hh, rb⟩ := r1.cells cc _ b qc hb
            split at hc
            · cases hc
            · rename_i e
              cases hc
              exact ⟨b, dx, ws, rfl, hh, rb.lookN (none_of e)⟩
          · cases hc
      obtain ⟨b, dx, fs, ev, hb, hl⟩ := cls
      refine ⟨b, C, dx, fs, n, F, ev, hb, hl, q, ?_⟩
      refine hr fr δ1 _ _ (Out.sat_bind k) σ I1 as1 H1 _ r1 ⟨fun ss δ2 vs I2 as2 H2 r2 l2 rv2 k2 => ?_, (c.later l1).x⟩
      split at k2
      · rename_i hn
        exact sp_of r2 (ss := s :: ss) ⟨v, vs, rfl, rv.mono l2, rv2⟩ hn k2 ((c.later l1).later l2)
      · exact k2.elim
    · exact k.elim
  · exact k.elim
theorem slBnd {ec : EC} {δ : Sta} {σ : L2.St} {I : Hp} {as : List Addr} {H : Hp} (r : R K ec δ σ I as H) {k : Nat} (hk : δ.ce.length ≤ k) : δ.sl.map (cutS k) = δ.sl := by
  have h : ∀ s ∈ δ.sl, cutS k s = s := fun s hs => by
    obtain ⟨i, hi⟩ := List.getElem?_of_mem hs
    rcases r.slots i s hi with q | ⟨v, _, q⟩
    · subst q; rfl
    · have := q.bnd
      rw [r.clen] at this
      cases s with
      | no => rfl
      | im d => rfl
      | cl c => exact if_pos (Nat.lt_of_lt_of_le (of_decide_eq_true (show decide (c < δ.ce.length) = true from this)) hk)
  rw [List.map_congr_left (g := id) h, List.map_id]
theorem se_make {x : Str} (hr : SA K xs W tr r) : SE K xs W (tMakeF K x n F dds W tr) (aMake x n F dds r) := by
  intro fr δ Ψ Ξ h σ I as H Q rr c
  refine hr fr δ _ _ (Out.sat_bind h) σ I as H _ rr ⟨fun ss δ1 vs I1 as1 H1 r1 l1 rv k => ?_, c.x⟩
  intro dvs rp o dx ho hdx ne
  split at k
  · rename_i hl
    obtain ⟨r2, l2⟩ := r1.newF (o := .own o) hdx
    have ho2 : upd H1 dx (.own o) o = none := by rw [upd_ne (Ne.symm ne)]; exact ho
    have hn := none_back r2.ih ho2
    obtain ⟨r3, l3⟩ := r2.newC (o := .ins (He.ga K x) dx []) (co := .ins x []) ho2 ⟨hn, dx, [], upd_same, rfl⟩ rfl
    have l23 := l2.trans l3
    have hxa : (as1 ++ [o])[δ1.ce.length]? = some o := by rw [← r1.clen]; simp
    have rv' : RVL K (upd I1 dx (.own o)) (as1 ++ [o]) (.cl δ1.ce.length :: (ss ++ dds.map SV.im)) (.ref o :: (vs ++ dvs)) :=
      ⟨_, _, rfl, ⟨o, hxa, rfl⟩, rvl_app (rv.mono l23) (rvl_im (rp _))⟩
    have c1 := c.later l1
    refine ⟨by rw [rv'.length]; exact hl, xs, fr, _, _, _, _, r3.bare, rv', ⟨?_⟩⟩
    show (F (.cl δ1.ce.length :: (ss ++ dds.map SV.im)) (δ1.ce ++ [.ins x []])).sat _ _
    cases q : F (.cl δ1.ce.length :: (ss ++ dds.map SV.im)) (δ1.ce ++ [.ins x []]) with
    | bad => rw [q] at k; exact k
    | ok s ce =>
      rw [q] at k
      cases s with
      | no => exact k.elim
      | cl _ => exact k.elim
      | im d0 =>
        cases d0 with
        | non =>
          dsimp only at k
          intro v I' as' H' r' l' rvv
          refine ⟨rvv, ?_⟩
          have hxa' := l'.a _ _ hxa
          split at k
          · rename_i d ce1 qf
            obtain ⟨I4, r4, l4, rep⟩ := R.frz r' qf
            have rep := rep o hxa'
            have l14 := (l23.trans l').trans l4
            split at k
            · rename_i ce2 qc
              obtain ⟨r5, l5, _, _, hle⟩ := R.cutTo r1 (R.reslot r4 r1 l14) l14 qc
              have r6 : R K ⟨xs, fr⟩ ⟨δ1.sl, ce2⟩ σ I4 (as'.take ce2.length) H' := by rw [slBnd r1 hle] at r5; exact r5
              exact c1.v (.im d) _ _ I4 _ H' r6 l5 rep k
            · exact c1.v (.im d) _ _ I4 as' H' (R.reslot r4 r1 l14) l14 rep k
          · exact k.elim
        | _ => exact k.elim
    | ex y ce =>
      rw [q] at k
      dsimp only at k
      intro d I' as' H' r' l' xr
      have l14 := l23.trans l'
      split at k
      · rename_i ce2 qc
        split at k
        · rename_i hb
          obtain ⟨r5, l5, _, _, hle⟩ := R.cutTo r1 (R.reslot r' r1 l14) l14 qc
          have r6 : R K ⟨xs, fr⟩ ⟨δ1.sl, ce2⟩ σ I' (as'.take ce2.length) H' := by rw [slBnd r1 hle] at r5; exact r5
          exact c1.x y _ d I' _ H' r6 l5 (xr.cut hb) k
        · exact c1.x y _ d I' as' H' (R.reslot r' r1 l14) l14 xr k
      · exact c1.x y _ d I' as' H' (R.reslot r' r1 l14) l14 xr k
  · exact k.elim
end
end Fx

set_option Elab.async false
set_option linter.all false
set_option autoImplicit false
set_option maxRecDepth 100000
set_option maxHeartbeats 2000000
namespace Fx
open PySem L2
/-! ## targets -/
def gNm (i : Nat) : AG := fun s δ => some ⟨δ.sl.set i s, δ.ce⟩
def gAll : List AG → List D → Sta → Option Sta
  | [], [], δ => some δ
  | g :: gs, d :: ds, δ => match g (.im d) δ with
    | some δ1 => gAll gs ds δ1
    | none => none
  | _, _, _ => none
def gTp (gs : List AG) : AG := fun s δ => match imS δ.ce s with
  | some (.tup ds) => gAll gs ds δ
  | _ => none
/-- x.f = s, x in the slot i -/
def gFl (ct : CT) (i : Nat) (f : Str) : AG := fun s δ => match δ.sl[i]? with
  | some (.cl c) => (match δ.ce[c]? with
    | some (.ins C fs) => if ct.has C f = true ∧ fs.length < 1000 then some ⟨δ.sl, δ.ce.set c (.ins C (putFS f s fs))⟩ else none
    | _ => none)
  | _ => none
/-- a[i] = s, a a list -/
def gIx (a b : AE) : AG := fun s δ => match a δ with
  | .ok (.cl c) δ1 => (match b δ1 with
    | .ok t δ2 => (match δ2.ce[c]?, dv δ2.ce t with
      | some (.lst us), some (.int k) => (match ixN us.length k with
        | some j => some ⟨δ2.sl, δ2.ce.set c (.lst (us.set j s))⟩
        | none => none)
      | _, _ => none)
    | _ => none)
  | _ => none
def SGs (K : PySem.W.Frag) (xs : Xs) (g : TGs) (n : Nat) (gs : List AG) : Prop := gs.length = n ∧ ∀ fr ds δ (Φ : Sta → Prop), (match gAll gs ds δ with | some δ' => Φ δ' | none => False) → WGs K ⟨xs, fr⟩ g ds Φ δ
section
variable {K : PySem.W.Frag} {xs : Xs} {W : WX} {ta tb te : TE} {a b : AE}
theorem sg_nm (i : Nat) : SG K xs (gName i) (gNm i) := fun fr s δ Φ h => wg_name h
theorem sgs_nil : SGs K xs gNil 0 [] := ⟨rfl, fun fr ds δ Φ h => by
  cases ds with
  | nil => exact wgs_nil h
  | cons d ds => exact h.elim⟩
theorem sgs_cons {g : TG} {gs : TGs} {n : Nat} {p : AG} {ps : List AG} (hg : SG K xs g p) (hs : SGs K xs gs n ps) : SGs K xs (gCons g gs) (n + 1) (p :: ps) := ⟨by rw [List.length_cons, hs.1], fun fr ds δ Φ h => by
  cases ds with
  | nil => exact h.elim
  | cons d ds =>
    refine wgs_cons (hg fr (.im d) δ _ ?_)
    unfold gAll at h
    cases q : p (.im d) δ with
    | none => rw [q] at h; exact h
    | some δ1 => rw [q] at h; exact hs.2 fr ds δ1 Φ h⟩
theorem gAll_len : ∀ {gs : List AG} {ds : List D} {δ δ' : Sta}, gAll gs ds δ = some δ' → ds.length = gs.length
  | [], [], _, _, _ => rfl
  | [], _ :: _, _, _, h => by cases h
  | _ :: _, [], _, _, h => by cases h
  | g :: gs, d :: ds, δ, δ', h => by
    unfold gAll at h
    split at h
    · rw [List.length_cons, List.length_cons, gAll_len h]
    · cases h
theorem sg_tp {gs : TGs} {n : Nat} {ps : List AG} (hs : SGs K xs gs n ps) : SG K xs (gTup K n gs) (gTp ps) := fun fr s δ Φ h => by
  unfold gTp at h
  split at h
  · rename_i δ' q
    split at q
    · rename_i ds e
      exact wg_tup e (by rw [gAll_len q, hs.1]) (hs.2 fr ds δ Φ (by rw [q]; exact h))
    · cases q
  · exact h.elim
theorem sg_fl {ct : CT} (hC : CtOk K ct) (i : Nat) (f : Str) : SG K xs (gFld K (tVar i) f) (gFl ct i f) := fun fr s δ Φ h => by
  unfold gFl at h
  split at h
  · rename_i δ' q
    split at q
    · rename_i c e
      split at q
      · rename_i C fs e2
        split at q
        · rename_i hh
          cases q
          exact wg_fld e e2 (hC.clsOf hh.1) (hC.fl C f hh.1) hh.2 h
        · cases q
      · cases q
    · cases q
  · exact h.elim
theorem sg_ix (ha : SE K xs W0 ta a) (hb : SE K xs W0 tb b) : SG K xs (gSub ta tb rSetL) (gIx a b) := fun fr s δ Φ h => by
  unfold gIx at h
  split at h
  · rename_i δ' q
    refine wg_setL ?_
    cases qa : a δ with
    | bad => rw [qa] at q; cases q
    | ex x δ1 => rw [qa] at q; cases q
    | ok t δ1 =>
      rw [qa] at q
      cases t with
      | no => cases q
      | im d => cases q
      | cl c =>
        dsimp only at q
        cases qb : b δ1 with
        | bad => rw [qb] at q; cases q
        | ex x δ2 => rw [qb] at q; cases q
        | ok u δ2 =>
          rw [qb] at q
          dsimp only at q
          split at q
          · rename_i us k e1 e2
            split at q
            · rename_i j e3
              cases q
              refine ha fr δ _ _ ?_
              rw [qa]
              refine hb fr δ1 _ _ ?_
              rw [qb]
              exact ⟨c, us, k, j, rfl, e1, e2, e3, h⟩
            · cases q
          · cases q
  · exact h.elim
end
/-! ## statements -/
def aNext : AS := fun δ => .nx δ
def aSeq (a b : AS) : AS := fun δ => match a δ with
  | .nx δ1 => b δ1
  | o => o
def aAsg (e : AE) (g : AG) : AS := fun δ => match e δ with
  | .ok s δ1 => (match g s δ1 with
    | some δ2 => .nx δ2
    | none => .bad)
  | .ex x δ1 => .ex x δ1
  | .bad => .bad
def aRet (e : AE) : AS := fun δ => match e δ with
  | .ok s δ1 => .rt s δ1
  | .ex x δ1 => .ex x δ1
  | .bad => .bad
def aRetN : AS := fun δ => .rt (.im .non) δ
def aExpr (e : AE) : AS := fun δ => match e δ with
  | .ok _ δ1 => .nx δ1
  | .ex x δ1 => .ex x δ1
  | .bad => .bad
def aIfS (t : AT) (a b : AS) : AS := fun δ => match t δ with
  | .ok c δ1 => if c = true then a δ1 else b δ1
  | .ex x δ1 => .ex x δ1
  | .bad => .bad
def aPar (i j : Nat) (r : AA) : AS := fun δ => match r δ with
  | .ok [s, t] δ1 => .nx ⟨(δ1.sl.set i s).set j t, δ1.ce⟩
  | .ok _ _ => .bad
  | .ex x δ1 => .ex x δ1
  | .bad => .bad
def aBreak : AS := fun δ => .bk δ
def aCont : AS := fun δ => .ct δ
def aNever : AS := fun _ => .bad
/-- d[k] = v -/
def aDput (d k v : AE) : AS := fun δ => match v δ with
  | .ok s δ1 => (match d δ1 with
    | .ok (.cl c) δ2 => (match k δ2 with
      | .ok y δ3 => (match δ3.ce[c]?, dv δ3.ce y with
        | some (.dic kvs), some kd => (match keyOf kd with
          | some kk => if kvs.length < 1000 then .nx ⟨δ3.sl, δ3.ce.set c (.dic (putS kvs kk s))⟩ else .bad
          | none => .bad)
        | _, _ => .bad)
      | .ex x δ3 => .ex x δ3
      | .bad => .bad)
    | .ok _ _ => .bad
    | .ex x δ2 => .ex x δ2
    | .bad => .bad)
  | .ex x δ1 => .ex x δ1
  | .bad => .bad
def forL (g : AG) (body : AS) : List D → Sta → OutS
  | [], δ => .nx δ
  | d :: ds, δ => match g (.im d) δ with
    | none => .bad
    | some δ1 => match body δ1 with
      | .nx δ2 => forL g body ds δ2
      | .ct δ2 => forL g body ds δ2
      | .bk δ2 => .nx δ2
      | o => o
def aFor (it : AI) (g : AG) (body : AS) : AS := fun δ => match it δ with
  | .ok ds δ1 => forL g body ds δ1
  | .ex x δ1 => .ex x δ1
  | .bad => .bad
/-- behind a turn: the cells that it made are dropped -/
def cutTurn (ce0 : List CO) (δ : Sta) : Sta := match cutTo ce0 δ.ce with
  | some ce2 => ⟨δ.sl.map (cutS ce2.length), ce2⟩
  | none => δ
def forLC (ce0 : List CO) (g : AG) (body : AS) : List D → Sta → OutS
  | [], δ => .nx δ
  | d :: ds, δ => match g (.im d) δ with
    | none => .bad
    | some δ1 => match body δ1 with
      | .nx δ2 => forLC ce0 g body ds (cutTurn ce0 δ2)
      | .ct δ2 => forLC ce0 g body ds (cutTurn ce0 δ2)
      | .bk δ2 => .nx δ2
      | o => o
def aForC (it : AI) (g : AG) (body : AS) : AS := fun δ => match it δ with
  | .ok ds δ1 => forLC δ1.ce g body ds δ1
  | .ex x δ1 => .ex x δ1
  | .bad => .bad
/-- while, at most n turns -/
def whileN (t : AT) (body : AS) : Nat → Sta → OutS
  | 0, _ => .bad
  | n + 1, δ => match t δ with
    | .ok c δ1 => if c = true then (match body δ1 with
        | .nx δ2 => whileN t body n δ2
        | .ct δ2 => whileN t body n δ2
        | .bk δ2 => .nx δ2
        | o => o) else .nx δ1
    | .ex x δ1 => .ex x δ1
    | .bad => .bad
def aWhile (n : Nat) (t : AT) (body : AS) : AS := whileN t body n
section
variable {K : PySem.W.Frag} {xs : Xs} {W : WX} {ta tb te : TE} {e : AE} {t : TT} {p : AT} {ts us : TS} {a b : AS} {tr : TA} {r : AA}
theorem ss_next : SS K xs W tNext aNext := fun fr δ Φ h => ws_next h
theorem ss_seq (ha : SS K xs W ts a) (hb : SS K xs W us b) : SS K xs W (tSeq ts us) (aSeq a b) := fun fr δ Φ h => by
  refine ws_seq (ha fr δ _ ?_)
  unfold aSeq at h
  cases q : a δ with
  | nx δ1 => rw [q] at h; exact hb fr δ1 Φ h
  | rt s δ1 => rw [q] at h; exact h
  | bk δ1 => rw [q] at h; exact h
  | ct δ1 => rw [q] at h; exact h
  | ex x δ1 => rw [q] at h; exact h
  | bad => rw [q] at h; exact h
theorem ss_asg {g : TG} {ag : AG} (he : SE K xs W te e) (hg : SG K xs g ag) : SS K xs W (tAsg te g) (aAsg e ag) := fun fr δ Φ h => by
  refine ws_asg (he fr δ _ _ ?_)
  unfold aAsg at h
  cases q : e δ with
  | ok s δ1 =>
    rw [q] at h
    refine hg fr s δ1 _ ?_
    dsimp only at h
    cases q2 : ag s δ1 with
    | none => rw [q2] at h; exact h
    | some δ2 => rw [q2] at h; exact h
  | ex x δ1 => rw [q] at h; exact h
  | bad => rw [q] at h; exact h
theorem ss_ret (he : SE K xs W te e) : SS K xs W (tRet te) (aRet e) := fun fr δ Φ h => by
  refine ws_ret (he fr δ _ _ ?_)
  unfold aRet at h
  cases q : e δ with
  | ok s δ1 => rw [q] at h; exact h
  | ex x δ1 => rw [q] at h; exact h
  | bad => rw [q] at h; exact h
theorem ss_expr (he : SE K xs W te e) : SS K xs W (tDrop te) (aExpr e) := fun fr δ Φ h => by
  refine ws_drop (he fr δ _ _ ?_)
  unfold aExpr at h
  cases q : e δ with
  | ok s δ1 => rw [q] at h; exact h
  | ex x δ1 => rw [q] at h; exact h
  | bad => rw [q] at h; exact h
theorem ss_if (ht : ST K xs W t p) (ha : SS K xs W ts a) (hb : SS K xs W us b) : SS K xs W (tIfS t ts us) (aIfS p a b) := fun fr δ Φ h => by
  refine ws_if (ht fr δ _ _ ?_)
  unfold aIfS at h
  cases q : p δ with
  | ok c δ1 =>
    rw [q] at h
    dsimp only at h
    exact ⟨fun hc => ha fr δ1 Φ (by rw [if_pos hc] at h; exact h), fun hc => hb fr δ1 Φ (by rw [hc] at h; exact h)⟩
  | ex x δ1 => rw [q] at h; exact h
  | bad => rw [q] at h; exact h
theorem ss_par {i j : Nat} (hr : SA K xs W tr r) : SS K xs W (tPar i j tr) (aPar i j r) := fun fr δ Φ h => by
  refine ws_par (hr fr δ _ _ ?_)
  unfold aPar at h
  cases q : r δ with
  | ok ss δ1 =>
    rw [q] at h
    match ss, h with
    | [s, t], h => exact ⟨s, t, rfl, h⟩
    | [], h => exact h.elim
    | [_], h => exact h.elim
    | _ :: _ :: _ :: _, h => exact h.elim
  | ex x δ1 => rw [q] at h; exact h
  | bad => rw [q] at h; exact h
theorem ss_dput {td ty tv : TE} {d k v : AE} (hd : SE K xs W td d) (hk : SE K xs W ty k) (hv : SE K xs W tv v) : SS K xs W (sDPut td ty tv) (aDput d k v) := fun fr δ Φ h => by
  refine ws_dput (hv fr δ _ _ ?_)
  unfold aDput at h
  cases q : v δ with
  | ex x δ1 => rw [q] at h; exact h
  | bad => rw [q] at h; exact h
  | ok s δ1 =>
    rw [q] at h
    refine hd fr δ1 _ _ ?_
    dsimp only at h
    cases q2 : d δ1 with
    | ex x δ2 => rw [q2] at h; exact h
    | bad => rw [q2] at h; exact h
    | ok o δ2 =>
      rw [q2] at h
      cases o with
      | no => exact h.elim
      | im _ => exact h.elim
      | cl c =>
        refine hk fr δ2 _ _ ?_
        dsimp only at h
        cases q3 : k δ2 with
        | ex x δ3 => rw [q3] at h; exact h
        | bad => rw [q3] at h; exact h
        | ok y δ3 =>
          rw [q3] at h
          dsimp only at h
          split at h
          · rename_i kvs kd e1 e2
            split at h
            · rename_i kk e3
              split at h
              · rename_i hl
                exact ⟨c, kvs, kd, kk, rfl, e1, e2, e3, hl, h⟩
              · exact h.elim
            · exact h.elim
          · exact h.elim
theorem ss_for {wi : TI} {g : TG} {it : AI} {ag : AG} (hi : SI K xs W wi it) (hg : SG K xs g ag) (hb : SS K xs W ts a) : SS K xs W (tFor wi g ts) (aFor it ag a) := fun fr δ Φ h => by
  refine ws_for (hi fr δ _ _ ?_)
  unfold aFor at h
  cases q : it δ with
  | ex x δ1 => rw [q] at h; exact h
  | bad => rw [q] at h; exact h
  | ok ds δ1 =>
    rw [q] at h
    refine ⟨fun i δ2 => (forL ag a (ds.drop i) δ2).sat Φ, h, fun i d δ2 hd hP => ?_, fun δ2 hP => ?_⟩
    · have hlt := lt_of_get hd
      have e : ds.drop i = d :: ds.drop (i + 1) := by
        rw [List.drop_eq_getElem_cons hlt]
        rw [List.getElem?_eq_getElem hlt] at hd
        rw [Option.some.inj hd]
      have hP : (forL ag a (ds.drop i) δ2).sat Φ := hP
      rw [e] at hP
      unfold forL at hP
      refine hg fr (.im d) δ2 _ ?_
      cases q2 : ag (.im d) δ2 with
      | none => rw [q2] at hP; exact hP
      | some δ3 =>
        rw [q2] at hP
        refine hb fr δ3 _ ?_
        dsimp only at hP
        cases q3 : a δ3 with
        | nx δ4 => rw [q3] at hP; exact hP
        | ct δ4 => rw [q3] at hP; exact hP
        | bk δ4 => rw [q3] at hP; exact hP
        | rt s δ4 => rw [q3] at hP; exact hP
        | ex x δ4 => rw [q3] at hP; exact hP
        | bad => rw [q3] at hP; exact hP
    · have hP : (forL ag a (ds.drop ds.length) δ2).sat Φ := hP
      rw [List.drop_length] at hP; exact hP
theorem ss_forC {wi : TI} {g : TG} {it : AI} {ag : AG} (hi : SI K xs W wi it) (hg : SG K xs g ag) (hb : SS K xs W ts a) : SS K xs W (tFor wi g ts) (aForC it ag a) := by
  intro fr δ Φ h σ I as H D r c
  unfold aForC at h
  refine hi fr δ (fun ds δ1 => (forLC δ1.ce ag a ds δ1).sat Φ) Φ.ex ?_ σ I as H _ r ⟨fun ds δ1 J I1 as1 H1 r1 l1 w k => ?_, fun x δ1 d I1 as1 H1 r1 l1 z k => c.x x δ1 σ d I1 as1 H1 r1 l1 z k⟩
  · cases q : it δ with
    | ex x δ1 => rw [q] at h; exact h
    | bad => rw [q] at h; exact h
    | ok ds δ1 => rw [q] at h; exact h
  refine ⟨fun i m σ' H' => m = ds.length - i ∧ i ≤ ds.length ∧ ∃ δ' I' as', R K ⟨xs, fr⟩ δ' σ' I' as' H' ∧ Le I1 as1 I' as' ∧ (forLC δ1.ce ag a (ds.drop i) δ').sat Φ, ⟨ds.length, by simp, Nat.zero_le _, δ1, I1, as1, r1, Le.refl I1 as1, k⟩, ?_⟩
  rintro i m σ2 H2 ⟨rfl, hi, δ2, I2, as2, r2, l2, p2⟩
  have e2 : Same I1 H2 := l2.i.trans r2.ih
  by_cases hlt : i < ds.length
  · refine .inr ⟨w.go i H2 e2 hlt, fun σ' H' => ∃ δ' I' as', R K ⟨xs, fr⟩ δ' σ' I' as' H' ∧ Le I1 as1 I' as' ∧ (forLC δ1.ce ag a (ds.drop (i + 1)) δ').sat Φ, fun σ' H' p' => ⟨ds.length - (i + 1), by omega, rfl, hlt, p'⟩, fun x H3 y => ?_⟩
    have hd : ds[i]? = some ds[i] := List.getElem?_eq_getElem hlt
    obtain ⟨I3, r3, l3, q3⟩ := w.yld _ i _ x H2 H3 δ2 σ2 I2 as2 hd l2.i r2 y
    rw [List.drop_eq_getElem_cons hlt] at p2
    unfold forLC at p2
    refine hg fr (.im ds[i]) δ2 (fun δ3 => (match a δ3 with | .nx δ2 => forLC δ1.ce ag a (ds.drop (i + 1)) (cutTurn δ1.ce δ2) | .ct δ2 => forLC δ1.ce ag a (ds.drop (i + 1)) (cutTurn δ1.ce δ2) | .bk δ2 => .nx δ2 | o => o : OutS).sat Φ) ?_ σ2 I3 as2 H3 x _ r3 q3 fun δ4 σ4 I4 as4 H4 r4 l4 k4 => ?_
    · cases q2 : ag (.im ds[i]) δ2 with
      | none => rw [q2] at p2; exact p2
      | some δ3 => rw [q2] at p2; exact p2
    have l14 := (l2.trans l3).trans l4
    have c4 := c.later (l1.trans l14)
    have turn : ∀ δ5 σ5 I5 as5 H5, R K ⟨xs, fr⟩ δ5 σ5 I5 as5 H5 → Le I4 as4 I5 as5 → (forLC δ1.ce ag a (ds.drop (i + 1)) (cutTurn δ1.ce δ5)).sat Φ → ∃ δ' I' as', R K ⟨xs, fr⟩ δ' σ5 I' as' H5 ∧ Le I1 as1 I' as' ∧ (forLC δ1.ce ag a (ds.drop (i + 1)) δ').sat Φ := fun δ5 σ5 I5 as5 H5 r5 l5 k5 => by
      unfold cutTurn at k5
      split at k5
      · rename_i ce2 qc
        obtain ⟨r6, l6, _⟩ := R.cutTo r1 r5 (l14.trans l5) qc
        exact ⟨_, I5, _, r6, l6, k5⟩
      · exact ⟨δ5, I5, as5, r5, l14.trans l5, k5⟩
    refine hb fr δ4 { Φ with nx := fun δ5 => (forLC δ1.ce ag a (ds.drop (i + 1)) (cutTurn δ1.ce δ5)).sat Φ, ct := fun δ5 => (forLC δ1.ce ag a (ds.drop (i + 1)) (cutTurn δ1.ce δ5)).sat Φ, bk := Φ.nx } ?_ σ4 I4 as4 H4 _ r4 ⟨fun δ5 σ5 I5 as5 H5 r5 l5 k5 => turn δ5 σ5 I5 as5 H5 r5 l5 k5, c4.rt, c4.nx, fun δ5 σ5 I5 as5 H5 r5 l5 k5 => turn δ5 σ5 I5 as5 H5 r5 l5 k5, c4.x⟩
    dsimp only at k4
    cases q3 : a δ4 with
    | nx δ5 => rw [q3] at k4; exact k4
    | ct δ5 => rw [q3] at k4; exact k4
    | bk δ5 => rw [q3] at k4; exact k4
    | rt s δ5 => rw [q3] at k4; exact k4
    | ex x δ5 => rw [q3] at k4; exact k4
    | bad => rw [q3] at k4; exact k4
  · have e : i = ds.length := by omega
    subst e
    rw [List.drop_length] at p2
    exact .inl ⟨w.stop H2 e2, (c.later l1).nx δ2 σ2 I2 as2 H2 r2 l2 p2⟩
end
end Fx

set_option Elab.async false
set_option linter.all false
set_option autoImplicit false
set_option maxRecDepth 100000
set_option maxHeartbeats 2000000
namespace Fx
open PySem PySem.Spec PyProof.Rows L2
/-! ## what is walked: a list, a tuple, a text -/
def iAny (K : PySem.W.Frag) (tl : TE) : TI := fun σ H R => tl σ H fun x H1 => (∃ a, x = .ref a ∧ (∃ xs, SqL K H1 a xs) ∧ R (Itl K a) H1) ∨ ((∃ a, x = .ref a ∧ (∃ xs, SqT K H1 a xs) ∧ R (Itt K a) H1) ∨ ∃ z, x = .str z ∧ R (Its z) H1)
theorem pi_any {X : Cx} {K : PySem.W.Frag} {tg l : Expr} {tl : TE} (hl : PE X l tl) (hK : X.K = K := by rfl) : PI X tg l (iAny K tl) := by
  subst hK
  refine ⟨fun pins s σ H R I h => ?_⟩
  refine thn (hl.run pins s σ H _ I h) fun v s1 ⟨x, H1, I1, r1, q1⟩ => ?_
  rcases q1 with ⟨a, e, ⟨xs, hq⟩, q⟩ | ⟨a, e, ⟨xs, hq⟩, q⟩ | ⟨z, e, q⟩
  · subst e
    cases r1
    obtain ⟨its, rv, p, hz⟩ := I1.list hq
    refine wpAny_pyIter_list p.isList ?_
    refine ⟨s1.heap.objs.size, [s1.heap.objs.size], _, _, H1, rfl, I1.kept (t' := s1.toks) fun b o e => Heap.get?_push_of_some _ e, turn_list a _, ⟨_, Heap.get?_push_size _ rfl, rfl, rfl⟩, fun b hb => ?_, q⟩
    have e : b = s1.heap.objs.size := by simpa using hb
    subst e
    exact I1.fpOk (Nat.le_refl _) (I1.hok.fresh (Nat.le_refl _))
  · subst e
    cases r1
    obtain ⟨its, rv, p, hz⟩ := I1.tuple hq
    refine wpAny_pyIter_tuple (show s1.heap.IsTuple a its.toArray from p) ?_
    refine ⟨s1.heap.objs.size, [s1.heap.objs.size], _, _, H1, rfl, I1.kept (t' := s1.toks) fun b o e => Heap.get?_push_of_some _ e, turn_tuple a _, ⟨_, Heap.get?_push_size _ rfl, rfl, rfl⟩, fun b hb => ?_, q⟩
    have e : b = s1.heap.objs.size := by simpa using hb
    subst e
    exact I1.fpOk (Nat.le_refl _) (I1.hok.fresh (Nat.le_refl _))
  · subst e
    obtain ⟨t, rfl⟩ := r1
    cases ha : z.cps.all (· < 128)
    · exact wpAny_pyIter_wide ha (pi_one (tk := s1.toks) I1 _ (turn_str _ z t "str_iterator" (.inr rfl)) ⟨_, Heap.get?_push_size _ rfl, rfl, rfl⟩ q)
    · exact wpAny_pyIter_ascii ha (pi_one (tk := s1.toks) I1 _ (turn_str _ z t "str_ascii_iterator" (.inl rfl)) ⟨_, Heap.get?_push_size _ rfl, rfl, rfl⟩ q)
def chsD (z : Str) : List D := z.cps.toList.map fun c => D.str ⟨#[c]⟩
def itD : D → Option (List D)
  | .lst ds => some ds
  | .tup ds => some ds
  | .scr ns => some (ns.map .int)
  | .str z => some (chsD z)
  | _ => none
def aIt (a : AE) : AI := fun δ => (a δ).bind fun s δ1 => match s with
  | .im d => (match itD d with
    | some ds => .ok ds δ1
    | none => .bad)
  | .cl c => (match frz δ1.ce c with
    | some (.lst ds, ce) => .ok ds ⟨δ1.sl, ce⟩
    | some (.tup ds, ce) => .ok ds ⟨δ1.sl, ce⟩
    | _ => .bad)
  | .no => .bad
def aRg1 (r : AA) : AI := fun δ => (r δ).bind fun ss δ1 => match ss with
  | [s] => (match dv δ1.ce s with
    | some (.int n) => if -1000000000 ≤ n ∧ n ≤ 1000000000 then .ok (rgD 0 n.toNat) δ1 else .bad
    | _ => .bad)
  | _ => .bad
def aRg2 (r : AA) : AI := fun δ => (r δ).bind fun ss δ1 => match ss with
  | [s, t] => (match dv δ1.ce s, dv δ1.ce t with
    | some (.int n), some (.int m) => if (-1000000000 ≤ n ∧ n ≤ 1000000000) ∧ (-1000000000 ≤ m ∧ m ≤ 1000000000) then .ok (rgD n (m - n).toNat) δ1 else .bad
    | _, _ => .bad)
  | _ => .bad
/-- d.items() of a dict that is a cell: it is data from then on -/
def aItems (a : AE) : AI := fun δ => (a δ).bind fun s δ1 => match s with
  | .cl c => (match δ1.ce[c]? with
    | some (.dic kvs) => (match imK δ1.ce kvs with
      | some kds => .ok (pairsD kds) ⟨δ1.sl, δ1.ce.set c (.fz (.dic kds))⟩
      | none => .bad)
    | _ => .bad)
  | _ => .bad
section
variable {K : PySem.W.Frag} {xs : Xs} {W : WX} {ta te : TE} {a : AE} {tr : TA} {r : AA}
theorem walks_str {ec : EC} {I : Hp} (z : Str) : Walks K ec (Its z) I (chsD z) where
  go := fun i H e hi => by
    have : (chsD z).length = z.cps.size := by simp [chsD]
    rw [this] at hi; exact hi
  stop := fun H e => by
    have : (chsD z).length = z.cps.size := by simp [chsD]
    rw [this]; exact Nat.le_refl _
  yld := fun ec' i d x H H' δ σ I2 as hd e r y => by
    obtain ⟨rfl, c, hc, rfl⟩ := y
    unfold chsD at hd
    rw [List.getElem?_map] at hd
    have hc' : z.cps.toList[i]? = some c := by simpa using hc
    rw [hc'] at hd
    cases hd
    exact ⟨I2, r, Le.refl I2 as, rfl⟩
theorem si_it (ha : SE K xs W ta a) : SI K xs W (iAny K ta) (aIt a) := by
  intro fr δ Ψ Ξ h σ I as H Q r c
  refine ha fr δ _ _ (Out.sat_bind h) σ I as H _ r ⟨fun s δ1 v I1 as1 H1 r1 l1 rv k => ?_, c.x⟩
  split at k
  · rename_i d
    split at k
    · rename_i ds e
      have rep := (show Rep K I1 d v from rv)
      unfold itD at e
      split at e
      · cases e
        obtain ⟨b, vs, rfl, hb, rb⟩ := rep
        exact .inl ⟨b, rfl, ⟨vs, SqL.of (r1.ih _ _ hb)⟩, c.v _ δ1 _ I1 as1 H1 r1 l1 (walks_list (SqL.of hb) rb) k⟩
      · cases e
        obtain ⟨b, vs, rfl, hb, rb⟩ := rep
        exact .inr (.inl ⟨b, rfl, ⟨vs, same_t r1.ih hb⟩, c.v _ δ1 _ I1 as1 H1 r1 l1 (walks_tup hb rb) k⟩)
      · cases e
        obtain ⟨b, rfl, hb⟩ := rep
        exact .inl ⟨b, rfl, ⟨_, r1.ih.seq hb⟩, c.v _ δ1 _ I1 as1 H1 r1 l1 (walks_list hb (repL_ints _)) k⟩
      · rename_i z
        cases e
        exact .inr (.inr ⟨z, rep, c.v _ δ1 _ I1 as1 H1 r1 l1 (walks_str z) k⟩)
      · cases e
    · exact k.elim
  · rename_i cc
    obtain ⟨b, hb, rfl⟩ := rv
    split at k
    · rename_i ds ce qf
      obtain ⟨I2, r2, l2, rep⟩ := R.frz r1 qf
      obtain ⟨b', vs, e, hb', rb⟩ := rep b hb
      cases e
      exact .inl ⟨b, rfl, ⟨vs, SqL.of (r2.ih _ _ hb')⟩, c.v ds _ _ I2 as1 H1 r2 (l1.trans l2) (walks_list (SqL.of hb') rb) k⟩
    · rename_i ds ce qf
      obtain ⟨I2, r2, l2, rep⟩ := R.frz r1 qf
      obtain ⟨b', vs, e, hb', rb⟩ := rep b hb
      cases e
      exact .inr (.inl ⟨b, rfl, ⟨vs, same_t r2.ih hb'⟩, c.v ds _ _ I2 as1 H1 r2 (l1.trans l2) (walks_tup hb' rb) k⟩)
    · exact k.elim
  · exact k.elim
theorem si_rg1 (hr : SA K xs W tr r) : SI K xs W (iRng1 tr) (aRg1 r) := fun fr δ Ψ Ξ h =>
  wi_rng1 (hr fr δ _ _ (Out.sat_mono (Out.sat_bind h) (fun ss δ1 h1 => by
    split at h1
    · rename_i s
      split at h1
      · rename_i n e
        split at h1
        · rename_i hh
          exact ⟨s, n, rfl, e, by omega, by omega, h1⟩
        · exact h1.elim
      · exact h1.elim
    · exact h1.elim) fun _ _ z => z))
theorem si_items (ha : SE K xs W ta a) : SI K xs W (iItems (tLk ta)) (aItems a) := fun fr δ Ψ Ξ h =>
  wi_items (ha fr δ _ _ (Out.sat_mono (Out.sat_bind h) (fun s δ1 h1 => by
    split at h1
    · rename_i c
      split at h1
      · rename_i kvs e
        split at h1
        · rename_i kds e2
          exact ⟨c, kvs, kds, rfl, e, e2, h1⟩
        · exact h1.elim
      · exact h1.elim
    · exact h1.elim) fun _ _ z => z))
/-! ## list(range(..)) as data -/
def aLstRg (a b : AE) : AE := fun δ => (a δ).bind fun s δ1 => (b δ1).bind fun t δ2 => match dv δ2.ce s, dv δ2.ce t with
  | some (.int i), some (.int j) => if (-1000000 ≤ i ∧ i ≤ 1000000) ∧ (-1000000 ≤ j ∧ j ≤ 1000000) then .ok (.im (.lst (rgD i (j - i).toNat))) δ2 else .bad
  | _, _ => .bad
end
/-! ## [e for x in .. if t] -/
/-- a value as data -/
def toIm (ce : List CO) : SV → Option (D × List CO)
  | .no => none
  | .im d => some (d, ce)
  | .cl c => frz ce c
def cutOr (ce0 ce : List CO) : List CO := match cutTo ce0 ce with
  | some ce2 => ce2
  | none => ce
def wipeS (sl : List SV) : List Nat → List SV
  | [] => sl
  | v :: vs => (wipeS sl vs).set v .no
def lcL (g : AG) (t : AT) (e : AE) (sl : List SV) : List D → List D → List CO → Option (List D × List CO)
  | [], acc, ce => some (acc, ce)
  | d :: ds, acc, ce => match g (.im d) ⟨sl, ce⟩ with
    | none => none
    | some δ1 => match t δ1 with
      | .ok b δ2 => if b = true then (match e δ2 with
          | .ok s δ3 => (match toIm δ3.ce s with
            | some (y, ce3) => lcL g t e sl ds (acc ++ [y]) (cutOr ce ce3)
            | none => none)
          | _ => none) else lcL g t e sl ds acc (cutOr ce δ2.ce)
      | _ => none
def aLc (it : AI) (g : AG) (t : AT) (e : AE) (vs : List Nat) : AE := fun δ => (it δ).bind fun ds δ1 => if ds.length ≤ 100000 then (match lcL g t e (wipeS δ1.sl vs) ds [] δ1.ce with
  | some (acc, ce) => .ok (.im (.lst acc)) ⟨δ1.sl, ce⟩
  | none => .bad) else .bad
section
variable {K : PySem.W.Frag} {xs : Xs} {W : WX}
theorem wipeS_len (sl : List SV) : ∀ vs : List Nat, (wipeS sl vs).length = sl.length
  | [] => rfl
  | v :: vs => by show ((wipeS sl vs).set v .no).length = _; rw [List.length_set, wipeS_len sl vs]
theorem R.wipe {ec : EC} {sl : List SV} {ce : List CO} {σ : L2.St} {I : Hp} {as : List Addr} {H : Hp} (r : R K ec ⟨sl, ce⟩ σ I as H) (vs : List Nat) : R K ec ⟨wipeS sl vs, ce⟩ (L2.wipe σ vs) I as H := by
  refine ⟨r.fh, r.cf, r.fi, r.ih, by show (L2.wipe σ vs).length = (wipeS sl vs).length; rw [wipe_length, wipeS_len]; exact r.len, fun i s hs => ?_, r.clen, r.cells, r.inj, r.it⟩
  have key : ∀ (vs : List Nat) (i : Nat) (s : SV), (wipeS sl vs)[i]? = some s → s = .no ∨ ∃ v, (L2.wipe σ vs)[i]? = some (some v) ∧ RV K I as s v := fun vs => by
    induction vs with
    | nil => intro i s h; exact r.slots i s h
    | cons v vs ih =>
      intro i s h
      have h' : ((wipeS sl vs).set v .no)[i]? = some s := h
      by_cases hi : i = v
      · subst hi
        by_cases hlt : i < (wipeS sl vs).length
        · rw [List.getElem?_set_self hlt] at h'; cases h'; exact .inl rfl
        · have := lt_of_get h'; simp at this; exact absurd this hlt
      · rw [List.getElem?_set_ne (Ne.symm hi)] at h'
        rcases ih i s h' with z | ⟨w, z1, z2⟩
        · exact .inl z
        · exact .inr ⟨w, by show ((L2.wipe σ vs).set v none)[i]? = _; rw [List.getElem?_set_ne (Ne.symm hi)]; exact z1, z2⟩
  exact key vs i s hs
theorem R.toIm {ec : EC} {δ : Sta} {σ : L2.St} {I : Hp} {as : List Addr} {H : Hp} (r : R K ec δ σ I as H) {s : SV} {v : V} {d : D} {ce' : List CO} (e : Fx.toIm δ.ce s = some (d, ce')) (h : RV K I as s v) : ∃ I', R K ec ⟨δ.sl, ce'⟩ σ I' as H ∧ Le I as I' as ∧ Rep K I' d v := by
  cases s with
  | no => cases e
  | im d' => cases e; exact ⟨I, r, Le.refl I as, h⟩
  | cl c =>
    obtain ⟨a, ha, rfl⟩ := h
    obtain ⟨I', r', l, rep⟩ := R.frz r e
    exact ⟨I', r', l, rep a ha⟩
theorem R.cutOr {ec : EC} {δ0 : Sta} {σ0 : L2.St} {I0 I : Hp} {as0 as : List Addr} {H0 H : Hp} {ce : List CO} (r0 : R K ec δ0 σ0 I0 as0 H0) (r : R K ec ⟨δ0.sl, ce⟩ σ0 I as H) (l : Le I0 as0 I as) : ∃ as', R K ec ⟨δ0.sl, Fx.cutOr δ0.ce ce⟩ σ0 I as' H ∧ Le I0 as0 I as' := by
  unfold Fx.cutOr
  split
  · rename_i ce2 q
    obtain ⟨r2, l2, _, _, hle⟩ := R.cutTo r0 r l q
    rw [slBnd r0 hle] at r2
    exact ⟨_, r2, l2⟩
  · exact ⟨as, r, l⟩
end
end Fx

set_option Elab.async false
set_option linter.all false
set_option autoImplicit false
set_option maxRecDepth 100000
set_option maxHeartbeats 2000000
namespace Fx
open PySem L2
/-! ## targets of a comprehension keep the other slots -/
def Keeps (vs : List Nat) (g : TG) : Prop := ∀ (x : V) (σ : L2.St) (H : Hp) (Q : L2.St → Hp → Prop), g x σ H Q → g x σ H fun σ2 H2 => wipe σ2 vs = wipe σ vs ∧ Q σ2 H2
def KeepsS (vs : List Nat) (g : TGs) : Prop := ∀ (x : List V) (σ : L2.St) (H : Hp) (Q : L2.St → Hp → Prop), g x σ H Q → g x σ H fun σ2 H2 => wipe σ2 vs = wipe σ vs ∧ Q σ2 H2
structure GMono (g : TG) : Prop where
  m : ∀ (x : V) (σ : L2.St) (H : Hp) (Q Q' : L2.St → Hp → Prop), (∀ σ H, Q σ H → Q' σ H) → g x σ H Q → g x σ H Q'
structure GMonoS (g : TGs) : Prop where
  m : ∀ (x : List V) (σ : L2.St) (H : Hp) (Q Q' : L2.St → Hp → Prop), (∀ σ H, Q σ H → Q' σ H) → g x σ H Q → g x σ H Q'
/-- what a comprehension asks of its target -/
structure TgOk (vs : List Nat) (g : TG) : Prop where
  k : Keeps vs g
  m : GMono g
structure TgsOk (vs : List Nat) (g : TGs) : Prop where
  k : KeepsS vs g
  m : GMonoS g
/-! ## methods of built-in things -/
abbrev ABM := SV → List SV → Sta → O SV
def tyS (T : String) (δ : Sta) (s : SV) : Bool := match kindS δ s with
  | some (.blt n) => n == T
  | _ => false
def aBM (T : String) (f : ABM) (a : AE) (r : AA) : AE := fun δ => (a δ).bind fun s δ1 => if tyS T δ1 s = true then (r δ1).bind fun ss δ2 => f s ss δ2 else .bad
def aBM0 (T : String) (f : ABM) (a : AE) : AE := fun δ => (a δ).bind fun s δ1 => if tyS T δ1 s = true then f s [] δ1 else .bad
def MtOk (K : PySem.W.Frag) (xs : Xs) (T : String) (rr : V → List V → Hp → VK → Prop) (f : ABM) : Prop := ∀ fr s ss δ (Ψ : SV → Sta → Prop) Ξ, (f s ss δ).sat Ψ Ξ → MtW K ⟨xs, fr⟩ T rr s ss Ψ δ
section
variable {K : PySem.W.Frag} {xs : Xs} {W : WX} {ta te : TE} {a : AE} {tr : TA} {r : AA}
theorem tyS_list {ec : EC} {δ : Sta} {s : SV} (h : tyS "list" δ s = true) : TyS K ec "list" s δ := fun σ I as H v r rv => by
  unfold tyS at h
  split at h
  · rename_i n e
    have hn : n = "list" := eq_of_beq h
    subst hn
    cases s with
    | no => cases e
    | im d =>
      cases d with
      | lst ds => obtain ⟨b, vs, rfl, hb, _⟩ := (show Rep K I (.lst ds) v from rv); exact .inl ⟨rfl, vs, SqL.of (r.ih _ _ hb)⟩
      | _ => first | (cases e; done) | (simp [kindS, kindD] at e)
    | cl c =>
      obtain ⟨b, hb, rfl⟩ := rv
      unfold kindS at e
      dsimp only at e
      cases q : δ.ce[c]? with
      | none => rw [q] at e; cases e
      | some o =>
        rw [q] at e
        have z := r.cells c o b q hb
        cases o with
        | lst us => obtain ⟨_, vs, h1, _⟩ := z; exact .inl ⟨rfl, vs, SqL.of h1⟩
        | fz d =>
          cases d with
          | lst ds => obtain ⟨b', vs, e', h1, _⟩ := (show Rep K I (.lst ds) (.ref b) from z); cases e'; exact .inl ⟨rfl, vs, SqL.of (r.ih _ _ h1)⟩
          | _ => first | (cases e; done) | (simp [kindD] at e)
        | _ => first | (cases e; done) | (simp at e)
  · cases h
theorem tyS_str {ec : EC} {δ : Sta} {s : SV} (h : tyS "str" δ s = true) : TyS K ec "str" s δ := fun σ I as H v r rv => by
  unfold tyS at h
  split at h
  · rename_i n e
    have hn : n = "str" := eq_of_beq h
    subst hn
    cases s with
    | no => cases e
    | im d =>
      cases d with
      | str z => cases (show v = _ from rv); rfl
      | _ => first | (cases e; done) | (simp [kindS, kindD] at e)
    | cl c =>
      obtain ⟨b, hb, rfl⟩ := rv
      unfold kindS at e
      dsimp only at e
      cases q : δ.ce[c]? with
      | none => rw [q] at e; cases e
      | some o =>
        rw [q] at e
        have z := r.cells c o b q hb
        cases o with
        | fz d =>
          cases d with
          | str ds => cases (show V.ref b = .str ds from z)
          | _ => first | (cases e; done) | (simp [kindD] at e)
        | _ => first | (cases e; done) | (simp at e)
  · cases h
/-- a dict that may be changed: a cell -/
def tyC (δ : Sta) (s : SV) : Bool := match s with
  | .cl c => (match δ.ce[c]? with
    | some (.dic _) => true
    | _ => false)
  | _ => false
def aBMd (f : ABM) (a : AE) (r : AA) : AE := fun δ => (a δ).bind fun s δ1 => if tyC δ1 s = true then (r δ1).bind fun ss δ2 => f s ss δ2 else .bad
theorem se_bmS {rr : V → List V → Hp → VK → Prop} {f : ABM} (hf : MtOk K xs "str" rr f) (ha : SE K xs W ta a) (hr : SA K xs W tr r) : SE K xs W (tBM K "str" rr ta tr) (aBM "str" f a r) := fun fr δ Ψ Ξ h =>
  we_bm (ha fr δ _ _ (Out.sat_mono (Out.sat_bind h) (fun s δ1 h1 => by
    split at h1
    · rename_i q
      exact ⟨tyS_str q, hr fr δ1 _ _ (Out.sat_mono (Out.sat_bind h1) (fun ss δ2 h2 => hf fr s ss δ2 Ψ Ξ h2) fun _ _ z => z)⟩
    · exact h1.elim) fun _ _ z => z))
theorem se_bmL {rr : V → List V → Hp → VK → Prop} {f : ABM} (hf : MtOk K xs "list" rr f) (ha : SE K xs W ta a) (hr : SA K xs W tr r) : SE K xs W (tBM K "list" rr ta tr) (aBM "list" f a r) := fun fr δ Ψ Ξ h =>
  we_bm (ha fr δ _ _ (Out.sat_mono (Out.sat_bind h) (fun s δ1 h1 => by
    split at h1
    · rename_i q
      exact ⟨tyS_list q, hr fr δ1 _ _ (Out.sat_mono (Out.sat_bind h1) (fun ss δ2 h2 => hf fr s ss δ2 Ψ Ξ h2) fun _ _ z => z)⟩
    · exact h1.elim) fun _ _ z => z))
theorem se_bmD {rr : V → List V → Hp → VK → Prop} {f : ABM} (hf : MtOk K xs "dict" rr f) (ha : SE K xs W ta a) (hr : SA K xs W tr r) : SE K xs W (tBM K "dict" rr ta tr) (aBMd f a r) := fun fr δ Ψ Ξ h =>
  we_bm (ha fr δ _ _ (Out.sat_mono (Out.sat_bind h) (fun s δ1 h1 => by
    split at h1
    · rename_i q
      refine ⟨?_, hr fr δ1 _ _ (Out.sat_mono (Out.sat_bind h1) (fun ss δ2 h2 => hf fr s ss δ2 Ψ Ξ h2) fun _ _ z => z)⟩
      unfold tyC at q
      split at q
      · split at q
        · rename_i e; exact ty_dicC e
        · cases q
      · cases q
    · exact h1.elim) fun _ _ z => z))
end
/-! their outcomes -/
def dBM0 (f : D → Option D) : ABM := fun s ss δ => match ss with
  | [] => (match dv δ.ce s with
    | some x => (match f x with
      | some d => .ok (.im d) δ
      | none => .bad)
    | none => .bad)
  | _ => .bad
def dBM1 (f : D → D → Option D) : ABM := fun s ss δ => match ss with
  | [t] => dOp f s t δ
  | _ => .bad
def strsOf : List D → Option (List Str)
  | [] => some []
  | .str z :: r => (strsOf r).map (z :: ·)
  | _ => none
def joinS (a : Str) (ys : List Str) : Option D := if (ys.map (·.length)).sum + ys.length * a.length ≤ 1000000 then some (.str (Txt.join a ys)) else none
def joinD : D → D → Option D
  | .str a, .lst ds => (strsOf ds).bind (joinS a)
  | .str a, .tup ds => (strsOf ds).bind (joinS a)
  | _, _ => none
def appendA : ABM := fun s ss δ => match s, ss with
  | .cl c, [t] => (match δ.ce[c]? with
    | some (.lst us) => if us.length < 100000 then .ok (.im .non) ⟨δ.sl, δ.ce.set c (.lst (us ++ [t]))⟩ else .bad
    | _ => .bad)
  | _, _ => .bad
def notCl (t : SV) (c : Nat) : Bool := match t with
  | .cl c' => c' != c
  | _ => true
theorem notCl_ne {t : SV} {c : Nat} (h : notCl t c = true) : ∀ c', t = .cl c' → c' ≠ c := fun c' z => by
  subst z
  simpa [notCl] using h
def updateA : ABM := fun s ss δ => match s, ss with
  | .cl c, [t] => (match δ.ce[c]?, dv δ.ce t with
    | some (.dic kvs), some (.dic kds) => if kvs.length + kds.length ≤ 1000 ∧ notCl t c = true then .ok (.im .non) ⟨δ.sl, δ.ce.set c (.dic (mergeS kvs (kds.map fun p => (p.1, .im p.2))))⟩ else .bad
    | _, _ => .bad)
  | _, _ => .bad
/-! the machine's rules -/
section
variable {X : Cx}
def rJoin (K : PySem.W.Frag) : V → List V → Hp → VK → Prop := fun x xs H Q => ∃ a p, ∃ ys : List Str, x = .str a ∧ xs = [.ref p] ∧ (SqL K H p (ys.map V.str) ∨ SqT K H p (ys.map V.str)) ∧ (ys.map (·.length)).sum + ys.length * a.length ≤ 16777216 ∧ Q (.str (Txt.join a ys)) H
theorem mtr_join : MtR X "str.join" (rJoin X.K) := mt_join
theorem mtr_update : MtR X "dict.update" rUpdD := mt_update
end
section
variable {K : PySem.W.Frag} {xs : Xs}
theorem dBM1_ok {T : String} {rr : V → List V → Hp → VK → Prop} {f : D → D → Option D} (h : ∀ (ec : EC) (δ : Sta) (s t : SV) (x y d : D) (Ψ : SV → Sta → Prop), dv δ.ce s = some x → dv δ.ce t = some y → f x y = some d → Ψ (.im d) δ → MtW K ec T rr s [t] Ψ δ) : MtOk K xs T rr (dBM1 f) := by
  intro fr s ss δ Ψ Ξ q
  unfold dBM1 at q
  split at q
  · rename_i t
    unfold dOp at q
    cases e1 : dv δ.ce s with
    | none => rw [e1] at q; exact q.elim
    | some x =>
      cases e2 : dv δ.ce t with
      | none => rw [e1, e2] at q; exact q.elim
      | some y =>
        rw [e1, e2] at q
        dsimp only at q
        cases e3 : f x y with
        | none => rw [e3] at q; exact q.elim
        | some d => rw [e3] at q; exact h _ δ s t x y d Ψ e1 e2 e3 q
  · exact q.elim
theorem strs_rep {H : Hp} : ∀ {ds : List D} {zs : List Str} {vs : List V}, strsOf ds = some zs → RepL K H ds vs → vs = zs.map V.str
  | [], zs, vs, e, h => by cases e; exact h
  | d :: ds, zs, vs, e, ⟨v, r, h1, h2, h3⟩ => by
    cases d with
    | str b =>
      have e' : (strsOf ds).map (b :: ·) = some zs := e
      rw [Option.map_eq_some_iff] at e'
      obtain ⟨bs', q, rfl⟩ := e'
      rw [h1, strs_rep q h3, show v = V.str b from h2]; rfl
    | _ => cases e
theorem ok_join : MtOk K xs "str" (rJoin K) (dBM1 joinD) := dBM1_ok fun ec δ s t x y d Ψ e1 e2 h k σ I as H Q v vs r rv rvs cc => by
  obtain ⟨w, _, rfl, hw, rfl⟩ := rvs
  unfold joinD at h
  split at h
  · rename_i a ds
    rw [Option.bind_eq_some_iff] at h
    obtain ⟨zs, q, h⟩ := h
    unfold joinS at h
    split at h
    · rename_i hz
      cases h
      obtain ⟨p, ws, rfl, hp, rp⟩ := r.dv e2 hw
      exact ⟨a, p, zs, r.dv e1 rv, rfl, .inl (by rw [← strs_rep q rp]; exact SqL.of hp), Nat.le_trans hz (by decide), cc (.im (.str _)) δ _ I as H r (Le.refl I as) rfl k⟩
    · cases h
  · rename_i a ds
    rw [Option.bind_eq_some_iff] at h
    obtain ⟨zs, q, h⟩ := h
    unfold joinS at h
    split at h
    · rename_i hz
      cases h
      obtain ⟨p, ws, rfl, hp, rp⟩ := r.dv e2 hw
      exact ⟨a, p, zs, r.dv e1 rv, rfl, .inr (by rw [← strs_rep q rp]; exact hp), Nat.le_trans hz (by decide), cc (.im (.str _)) δ _ I as H r (Le.refl I as) rfl k⟩
    · cases h
  · cases h
theorem count_of {H : Hp} {x : D} {v : V} (fx : flatD x = true) (hx : Rep K H x v) : ∀ {ds : List D} {vs : List V}, ds.all flatD = true → RepL K H ds vs → (vs.countP fun z => eqV z v) = (ds.countP fun y => eqF y x) ∧ vs.all flatV = true
  | [], vs, _, h => by rw [show vs = [] from h]; exact ⟨rfl, rfl⟩
  | y :: ys, _, f, ⟨u, r, e, h1, h2⟩ => by
    subst e
    obtain ⟨f1, f2⟩ := and2 (show (flatD y && ys.all flatD) = true from f)
    obtain ⟨g1, g2⟩ := count_of fx hx f2 h2
    refine ⟨?_, ?_⟩
    · rw [List.countP_cons, List.countP_cons, g1, eqF_of f1 fx h1 hx]
    · show (flatV u && r.all flatV) = true
      rw [flat_of f1 h1, g2]; rfl
theorem ok_update : MtOk K xs "dict" rUpdD updateA := fun fr s ss δ Ψ Ξ h => by
  unfold updateA at h
  split at h
  · rename_i c t
    split at h
    · rename_i kvs kds e1 e2
      split at h
      · rename_i hh
        exact mt_update' e1 e2 (notCl_ne hh.2) hh.1 h
      · exact h.elim
    · exact h.elim
  · exact h.elim
end
/-! ## dict displays -/
def pairsA : List (AE × AE) → Sta → O (List (Key × SV))
  | [], δ => .ok [] δ
  | (k, v) :: r, δ => (k δ).bind fun s δ1 => (v δ1).bind fun t δ2 => (pairsA r δ2).bind fun ps δ3 => match imS δ3.ce s with
    | some kd => (match keyOf kd with
      | some kk => .ok ((kk, t) :: ps) δ3
      | none => .bad)
    | none => .bad
/-- {k: v, ..}: a new cell -/
def aDisp (ps : List (AE × AE)) : AE := fun δ => (pairsA ps ⟨δ.sl, δ.ce ++ [.dic []]⟩).bind fun kvs δ1 => match δ1.ce[δ.ce.length]? with
  | some (.dic []) => if kvs.length ≤ 15 then .ok (.cl δ.ce.length) ⟨δ1.sl, δ1.ce.set δ.ce.length (.dic (mergeS [] kvs))⟩ else .bad
  | _ => .bad
/-- {**d, k: v, ..} -/
def aDispS (d : AE) (ps : List (AE × AE)) : AE := fun δ => (d ⟨δ.sl, δ.ce ++ [.dic []]⟩).bind fun s δ1 => match dv δ1.ce s, δ1.ce[δ.ce.length]? with
  | some (.dic kds), some (.dic []) => if kds.length ≤ 1000 ∧ notCl s δ.ce.length = true then
      (pairsA ps ⟨δ1.sl, δ1.ce.set δ.ce.length (.dic (mergeS [] (kds.map fun p => (p.1, .im p.2)))) ++ [.dic []]⟩).bind fun kvs δ2 => (match δ2.ce[δ.ce.length]?, δ2.ce[δ1.ce.length]? with
        | some (.dic kvs3), some (.dic []) => if kvs.length ≤ 15 ∧ kvs3 = mergeS [] (kds.map fun p => (p.1, .im p.2)) then .ok (.cl δ.ce.length) ⟨δ2.sl, (δ2.ce.set δ1.ce.length (.dic (mergeS [] kvs))).set δ.ce.length (.dic (mergeS kvs3 (mergeS [] kvs)))⟩ else .bad
        | _, _ => .bad) else .bad
  | _, _ => .bad
section
variable {K : PySem.W.Frag} {xs : Xs} {W : WX} {ta te : TE} {a : AE}
def SPs (K : PySem.W.Frag) (xs : Xs) (W : WX) : List (TE × TE) → List (AE × AE) → Prop
  | [], [] => True
  | (tk, tv) :: r, (k, v) :: q => SE K xs W tk k ∧ SE K xs W tv v ∧ SPs K xs W r q
  | _, _ => False
theorem sps_run : ∀ {trs : List (TE × TE)} {ps : List (AE × AE)}, SPs K xs W trs ps → ∀ fr δ Ψ Ξ, (pairsA ps δ).sat Ψ Ξ → WPs K ⟨xs, fr⟩ W trs Ψ Ξ δ
  | [], [], _, fr, δ, Ψ, Ξ, h => h
  | (tk, tv) :: r, (k, v) :: q, hs, fr, δ, Ψ, Ξ, h => by
    obtain ⟨h1, h2, h3⟩ := hs
    refine h1 fr δ _ _ (Out.sat_mono (Out.sat_bind h) (fun s δ1 g1 => h2 fr δ1 _ _ (Out.sat_mono (Out.sat_bind g1) (fun t δ2 g2 => sps_run h3 fr δ2 _ _ (Out.sat_mono (Out.sat_bind g2) (fun ps δ3 g3 => ?_) fun _ _ z => z)) fun _ _ z => z)) fun _ _ z => z)
    split at g3
    · rename_i kd e
      split at g3
      · rename_i kk e2; exact ⟨kd, kk, e, e2, g3⟩
      · exact g3.elim
    · exact g3.elim
  | [], _ :: _, hs, _, _, _, _, _ => hs.elim
  | _ :: _, [], hs, _, _, _, _, _ => by simp [SPs] at hs
theorem se_disp {trs : List (TE × TE)} {ps : List (AE × AE)} (hs : SPs K xs W trs ps) : SE K xs W (tDisp trs) (aDisp ps) := fun fr δ Ψ Ξ h =>
  we_disp (sps_run hs fr _ _ _ (Out.sat_mono (Out.sat_bind h) (fun kvs δ1 g => by
    split at g
    · rename_i e
      split at g
      · rename_i hl; exact ⟨hl, e, g⟩
      · exact g.elim
    · exact g.elim) fun _ _ z => z))
theorem se_dispS {td : TE} {d : AE} {trs : List (TE × TE)} {ps : List (AE × AE)} (hd : SE K xs W td d) (hs : SPs K xs W trs ps) : SE K xs W (tDispS td trs) (aDispS d ps) := fun fr δ Ψ Ξ h =>
  we_dispS (hd fr _ _ _ (Out.sat_mono (Out.sat_bind h) (fun s δ1 g => by
    split at g
    · rename_i kds e1 e2
      split at g
      · rename_i hh
        refine ⟨kds, e1, notCl_ne hh.2, e2, hh.1, sps_run hs fr _ _ _ (Out.sat_mono (Out.sat_bind g) (fun kvs δ2 g2 => ?_) fun _ _ z => z)⟩
        split at g2
        · rename_i kvs3 e3 e4
          split at g2
          · rename_i hl
            obtain ⟨h1, rfl⟩ := hl
            exact ⟨h1, e3, e4, g2⟩
          · exact g2.elim
        · exact g2.elim
      · exact g.elim
    · exact g.elim) fun _ _ z => z))
end
end Fx

set_option Elab.async false
set_option linter.all false
set_option autoImplicit false
set_option maxRecDepth 100000
set_option maxHeartbeats 2000000
namespace Fx
open PySem L2
/-! ## the rules with K told -/
section
variable {X : Cx} {K : PySem.W.Frag} {w : World}
theorem op_addA' (hK : X.K = K := by rfl) : OpR X (binaryOp .Add) (rAddA K) := by subst hK; exact op_addA
theorem op_eqA' {k : Nat} (hr : RoomG k X.A) (hK : X.K = K := by rfl) : OpR X (compareOp .Eq) (rEqA K) := by subst hK; exact op_eqA hr
theorem op_neA' {k : Nat} (hr : RoomG k X.A) (hK : X.K = K := by rfl) : OpR X (compareOp .NotEq) (rNeA K) := by subst hK; exact op_neA hr
theorem op_inA' (hu : X.A.units + 1 < cLine) (hK : X.K = K := by rfl) : OpR X (compareOp .In) (rInA K) := by subst hK; exact op_inA hu
theorem ix_all' (hu : X.A.units + 1 < cLine) (hK : X.K = K := by rfl) (hw : X.w = w := by rfl) : IxR X (rIxB K w) := by subst hK hw; exact ix_all hu
theorem cl_len' (hK : X.K = K := by rfl) : CallR X (.builtin "len") (rLenB K) := by subst hK; exact cl_len
theorem cl_isi' (hK : X.K = K := by rfl) : CallR X (.builtin "isinstance") (rIsi K) := by subst hK; exact cl_isi
theorem mtr_join' (hK : X.K = K := by rfl) : MtR X "str.join" (rJoin K) := by subst hK; exact mtr_join
theorem pe_bm' {o e : Expr} {es : List Expr} {to : TE} {t : TA} {name : Str} {apos cpos : Pos} {T id : String} {r : V → List V → Hp → VK → Prop} (pa : PlainAttrs T) (slot : Slot T name id) (hty : typeOf (.builtin id) = pure (.type "method_descriptor")) (hm : MtR X id r) (ho : PE X o to) (ha : PA X (e :: es) t) (hK : X.K = K := by rfl)
    (hbase : attributeBase o name X.env (eval o X.env) = eval o X.env := by rfl)
    (hp : ((((backTo cpos (starEach (e :: es) X.env)).all fun x => !x.fst) && (backToKw cpos (keywordEach [] X.env)).all fun x => x.fst.isSome) && decide (((e :: es).length + ([] : List Keyword).length + if ([] : List Keyword).isEmpty = true then 0 else 1) < 30)) = true := by rfl)
    (hline : (apos.endLine == cpos.line) = true := by rfl) (hs : starEach (e :: es) X.env = (false, eval e X.env) :: starEach es X.env := by rfl) (hpl : (backTo cpos (starEach es X.env)).any (·.1) = false := by rfl) : PE X (.Call (.Attribute o name apos) (e :: es) [] cpos) (tBM K T r to t) := by
  subst hK; exact pe_bm pa slot hty hm ho ha hbase hp hline hs hpl
theorem pg_tup' {es : List Expr} {k : Nat} {t : TGs} {n : Nat} {pos : Pos} (hc : X.calm = true) (h : PGs X es t) (hK : X.K = K := by rfl)
    (hn : (assignEach es X.env).length = n := by rfl) (hst : (assignEach es X.env).findIdx? (·.1) = none := by rfl) : PG X (.Tuple es k pos) (gTup K n t) := by
  subst hK; exact pg_tup hc h hn hst
theorem pg_fld' {o : Expr} {f : Str} {pos : Pos} {ta : TE} (ha : PE X o ta) (hK : X.K = K := by rfl) : PG X (.Attribute o f pos) (gFld K ta f) := by
  subst hK; exact pg_fld ha
end
/-- {} : a new cell -/
def aDnew : AE := fun δ => .ok (.cl δ.ce.length) ⟨δ.sl, δ.ce ++ [.dic []]⟩
/-! ## the law's own promise -/
open Classical in
/-- H without its tables -/
noncomputable def noT (H : Hp) : Hp := fun b => if ∃ ps, H b = some (.tbl ps) then none else H b
theorem noT_of {H : Hp} {b : Addr} {u : HO} (h : noT H b = some u) : H b = some u := by
  unfold noT at h
  split at h
  · cases h
  · exact h
theorem noT_at {H : Hp} {b : Addr} {u : HO} (h : H b = some u) (hu : ∀ ps, u ≠ .tbl ps) : noT H b = some u := by
  unfold noT
  rw [if_neg (fun ⟨ps, z⟩ => hu ps (Option.some.inj (h.symm.trans z)))]
  exact h
theorem noT_it {H : Hp} (b : Addr) (ps : Array Value) : noT H b ≠ some (.tbl ps) := fun z => by
  have y := noT_of z
  unfold noT at z
  rw [if_pos ⟨ps, y⟩] at z
  cases z
theorem seq_noT {K : PySem.W.Frag} {H : Hp} {a : Addr} {xs : List V} (h : SqL K H a xs) : SqL K (noT H) a xs := by
  rcases h with (h | ⟨o, h⟩) | h
  · exact .inl (.inl (noT_at h fun _ z => by cases z))
  · exact .inl (.inr ⟨o, noT_at h fun _ z => by cases z⟩)
  · exact .inr h
theorem sp_startT {K : PySem.W.Frag} {F : Fn} {H : Hp} {a : Addr} {ns : List Int} {ce : List CO} {ts : List (Addr × Str)} (hA : ∀ p ∈ ts, p.1 = tabA K p.2) (hT : ∀ p ∈ ts, H p.1 = some (.tbl #[])) (hN : (ts.map (·.1)).Nodup) (hS : SqL K H a (ns.map V.int)) (h : F [.im (.scr ns)] (ts.map fun p => .tbl p.2) = .ok (.im (.bl true)) ce) : spFn K 1 F [.ref a] H (fun v _ => v = .bl true) fun _ _ _ => False := by
  have at_ : ∀ (c : Nat) (o : CO) (b : Addr), (ts.map fun p => CO.tbl p.2)[c]? = some o → (ts.map (·.1))[c]? = some b → ∃ p, ts[c]? = some p ∧ p ∈ ts ∧ b = p.1 ∧ o = .tbl p.2 := fun c o b h1 h2 => by
    rw [List.getElem?_map, Option.map_eq_some_iff] at h1 h2
    obtain ⟨p, e1, e2⟩ := h1
    obtain ⟨q, e3, e4⟩ := h2
    rw [e1] at e3
    cases e3
    exact ⟨p, e1, List.mem_of_getElem? e1, e4.symm, e2.symm⟩
  refine ⟨rfl, [], fun _ => none, [.im (.scr ns)], ts.map fun p => .tbl p.2, ts.map (·.1), noT H, ⟨(fun b u e => by cases e), (fun c o b h1 h2 l => rfl), (fun b u e => by cases e), (fun b u e => noT_of e), rfl, (fun i s h => by simp at h), by simp, (fun c o b h1 h2 => ?_), (fun c c' o o' b h1 h1' _ _ h2 h2' => ?_), noT_it⟩, ⟨.ref a, [], rfl, ⟨a, rfl, seq_noT hS⟩, rfl⟩, ⟨?_⟩⟩
  · obtain ⟨p, _, hp, rfl, rfl⟩ := at_ c o b h1 h2
    have e := hT p hp
    refine ⟨hA p hp, ?_, #[], e, trivial, fun pos cv hc => ?_⟩
    · unfold noT
      rw [if_pos ⟨_, e⟩]
    · have z : codeAmong pos [] = some cv := hc
      simp [codeAmong] at z
  · have e : c = c' := by
      rcases Nat.lt_trichotomy c c' with z | z | z
      · exact absurd (List.pairwise_iff_getElem.mp hN c c' (lt_of_get h2) (lt_of_get h2') z) (by
          rw [List.getElem?_eq_getElem (lt_of_get h2)] at h2
          rw [List.getElem?_eq_getElem (lt_of_get h2')] at h2'
          rw [Option.some.inj h2, Option.some.inj h2']; simp)
      · exact z
      · exact absurd (List.pairwise_iff_getElem.mp hN c' c (lt_of_get h2') (lt_of_get h2) z) (by
          rw [List.getElem?_eq_getElem (lt_of_get h2)] at h2
          rw [List.getElem?_eq_getElem (lt_of_get h2')] at h2'
          rw [Option.some.inj h2, Option.some.inj h2']; simp)
    exact e
  · rw [h]
    intro v I' as' H' r l rv
    exact rv
/-! ## the head's checks -/
def relB : D → Value → Bool
  | .non, .none => true
  | .bl b, .bool c => b == c
  | .int i, .int j _ => i == j
  | .str x, .str y _ => x == y
  | _, _ => false
def relLB : List D → List Value → Bool
  | [], [] => true
  | d :: ds, v :: vs => relB d v && relLB ds vs
  | _, _ => false
def repB (K : PySem.W.Frag) (d : D) (u : Value) : Bool := match d with
  | .tup ds => (match u with
    | .ref t => (match K.lookup t with
      | some ⟨.type c, _, .seq its _, _⟩ => decide (c = "tuple") && (decide (its.size ≤ sizeLine) && relLB ds its.toList)
      | _ => false)
    | _ => false)
  | d => relB d u
def vOf : D → V
  | .bl b => .bl b | .int i => .int i | .str x => .str x | _ => .non
theorem relB_ok {d : D} {u : Value} (h : relB d u = true) : RelV (vOf d) u ∧ ∀ (K : PySem.W.Frag) I, Rep K I d (vOf d) := by
  cases d <;> cases u <;> simp only [relB] at h <;> first
    | (cases h; done)
    | exact ⟨rfl, fun _ _ => rfl⟩
    | (rw [eq_of_beq h]; exact ⟨rfl, fun _ _ => rfl⟩)
    | (rw [eq_of_beq h]; exact ⟨⟨_, rfl⟩, fun _ _ => rfl⟩)
theorem relLB_ok : ∀ {ds : List D} {us : List Value}, relLB ds us = true → Vals (ds.map vOf) us ∧ ∀ (K : PySem.W.Frag) I, RepL K I ds (ds.map vOf)
  | [], [], _ => ⟨.nil, fun _ _ => rfl⟩
  | [], _ :: _, h => by cases h
  | _ :: _, [], h => by cases h
  | d :: ds, u :: us, h => by
    obtain ⟨h1, h2⟩ := and2 (show (relB d u && relLB ds us) = true from h)
    obtain ⟨g1, g2⟩ := relB_ok h1
    obtain ⟨k1, k2⟩ := relLB_ok h2
    exact ⟨.cons g1 k1, fun K I => ⟨_, _, rfl, g2 K I, k2 K I⟩⟩
theorem repB_ok {K : PySem.W.Frag} {d : D} {u : Value} (h : repB K d u = true) : ∃ v, RelV v u ∧ ∀ I, Rep K I d v := by
  by_cases hd : ∃ ds, d = .tup ds
  · obtain ⟨ds, rfl⟩ := hd
    unfold repB at h
    dsimp only at h
    split at h
    · rename_i t
      split at h
      · rename_i c od its n sl q
        obtain ⟨h1, h2⟩ := and2 h
        obtain ⟨h3, h4⟩ := and2 h2
        obtain ⟨k1, k2⟩ := relLB_ok h4
        exact ⟨.ref t, rfl, fun I => ⟨t, _, rfl, .inr ⟨_, its, n, q, congrArg Value.type (of_decide_eq_true h1), rfl, of_decide_eq_true h3, k1⟩, k2 K I⟩⟩
      · cases h
    · cases h
  · have e : repB K d u = relB d u := by
      cases d <;> first | rfl | exact absurd ⟨_, rfl⟩ hd
    rw [e] at h
    exact ⟨_, (relB_ok h).1, fun I => (relB_ok h).2 K I⟩
/-- a global that is data -/
def conG (K : PySem.W.Frag) (x : Str) (d : D) : Bool := match PySem.W.nsIn K mainGlobals x with
  | some (some u) => repB K d u
  | _ => false
theorem conG_ok {K : PySem.W.Frag} {h : Heap} {mg : Str → Option Value} (X : K.In h) (G : h.Ns mainGlobals mg) {x : Str} {d : D} (c : conG K x d = true) : ∃ v u, mg x = some u ∧ RelV v u ∧ ∀ I, Rep K I d v := by
  unfold conG at c
  split at c
  · rename_i u q
    obtain ⟨v, h1, h2⟩ := repB_ok c
    exact ⟨v, u, PySem.W.mg_of X G q, h1, h2⟩
  · cases c
def tabB (K : PySem.W.Frag) (tabs : Tabs) : Bool := tabs.all fun p => p.2.all fun q => match PySem.W.nsIn K (He.ga K p.1) q.1 with
  | some (some u) => repB K q.2 u
  | _ => false
theorem tabAt_mem {tabs : Tabs} {x z : Str} {d : D} (h : tabAt tabs x z = some d) : ∃ kvs, (x, kvs) ∈ tabs ∧ (z, d) ∈ kvs := by
  have mem : ∀ {α : Type} {l : List (Str × α)} {x : Str} {y : α}, l.lookup x = some y → (x, y) ∈ l := fun {α l x y} => by
    induction l with
    | nil => intro h; cases h
    | cons p ps ih =>
      intro h
      obtain ⟨k, v⟩ := p
      rw [List.lookup_cons] at h
      split at h
      · rename_i e; cases h; rw [eq_of_beq e]; exact List.mem_cons_self
      · exact List.mem_cons_of_mem _ (ih h)
  unfold tabAt at h
  split at h
  · rename_i kvs e; exact ⟨kvs, mem e, mem h⟩
  · cases h
theorem tabB_ok {K : PySem.W.Frag} {w : World} {tabs : Tabs} (h : tabB K tabs = true) (hk : ∀ x kvs, (x, kvs) ∈ tabs → ∃ es n, KDict K w (He.ga K x) es n) : TabOk K w tabs := fun x z d q => by
  obtain ⟨kvs, m1, m2⟩ := tabAt_mem q
  obtain ⟨es, n, kd⟩ := hk x kvs m1
  have h1 := List.all_eq_true.mp (List.all_eq_true.mp h (x, kvs) m1) (z, d) m2
  dsimp only at h1
  split at h1
  · rename_i u q2
    obtain ⟨v, g1, g2⟩ := repB_ok h1
    exact ⟨v, ⟨es, n, u, kd.at_, kd.lit, q2, g1⟩, g2⟩
  · cases h1
def clsB (K : PySem.W.Frag) (C : Str) : Bool := (He.Fa.cls C).ok K
def ctB (K : PySem.W.Frag) (ct : CT) : Bool := (ct.fl.all fun p => clsB K p.1 && p.2.all fun f => (He.Fa.noat p.1 f).ok K) && ct.cn.all fun p => clsB K p.1.1 && (!PySem.W.copiedNames.contains p.1.2 && match p.2 with
  | .str z => He.conB K p.1.1 p.1.2 (.str z)
  | .bl b => He.conB K p.1.1 p.1.2 (.bl b)
  | _ => false)
theorem look_mem {α β : Type} [BEq α] [LawfulBEq α] {l : List (α × β)} {x : α} {y : β} (h : l.lookup x = some y) : (x, y) ∈ l := by
  induction l with
  | nil => cases h
  | cons p ps ih =>
    obtain ⟨k, v⟩ := p
    rw [List.lookup_cons] at h
    split at h
    · rename_i e; cases h; rw [eq_of_beq e]; exact List.mem_cons_self
    · exact List.mem_cons_of_mem _ (ih h)
theorem ctB_ok {K : PySem.W.Frag} {ct : CT} (h : ctB K ct = true) : CtOk K ct := by
  obtain ⟨h1, h2⟩ := and2 h
  have key : ∀ C fs, ct.fl.lookup C = some fs → clsB K C = true ∧ ∀ f ∈ fs, (He.Fa.noat C f).ok K = true := fun C fs e => by
    obtain ⟨g1, g2⟩ := and2 (List.all_eq_true.mp h1 (C, fs) (look_mem e))
    exact ⟨g1, fun f hf => List.all_eq_true.mp g2 f hf⟩
  refine ⟨fun C fs e => He.cls_ok (key C fs e).1, fun C f e => ?_, fun C f d e => ?_⟩
  · unfold CT.has at e
    split at e
    · rename_i fs q
      exact He.noat_ok ((key C fs q).2 f (by simpa using e))
    · cases e
  · obtain ⟨g1, g2⟩ := and2 (List.all_eq_true.mp h2 ((C, f), d) (look_mem e))
    obtain ⟨g2, g3⟩ := and2 g2
    refine ⟨He.cls_ok g1, ?_⟩
    dsimp only at g3
    split at g3
    · rename_i z
      obtain ⟨u, con⟩ := He.conB_ok g3 (by simpa using g2)
      exact ⟨_, u, con, fun _ => rfl⟩
    · rename_i b
      obtain ⟨u, con⟩ := He.conB_ok g3 (by simpa using g2)
      exact ⟨_, u, con, fun _ => rfl⟩
    · cases g3
def insB (K : PySem.W.Frag) (C : Str) : Bool := clsB K C && (decide (PySem.W.findIn K (.ref (He.ga K C)) "__class__" = some (some (.builtin "object.__class__"))) && (decide (PySem.W.specialIn K (.builtin "object.__class__") "__get__" = some (some (.builtin "getset_descriptor.__get__"))) &&
  (decide (PySem.W.takesIn K (.builtin "object.__class__") = some true) && decide (PySem.W.mroIn K (He.ga K C) (.type "object") = some true))))
def isiB (K : PySem.W.Frag) (isi : Isi) : Bool := isi.all fun p => decide (PySem.W.kitOne K (p.1.1.v K) (p.1.2.v K) = some p.2) && (match p.1.1 with
  | .own C => insB K C
  | _ => true)
theorem isiB_ok {K : PySem.W.Frag} {isi : Isi} (h : isiB K isi = true) : IsiOk K isi := by
  refine ⟨fun k c b e => ?_, fun C c b e => ?_⟩
  · obtain ⟨g1, _⟩ := and2 (List.all_eq_true.mp h ((k, c), b) (look_mem e))
    exact of_decide_eq_true g1
  · obtain ⟨_, g2⟩ := and2 (List.all_eq_true.mp h ((.own C, c), b) (look_mem e))
    obtain ⟨a1, g2⟩ := and2 (show insB K C = true from g2)
    obtain ⟨a2, g2⟩ := and2 g2
    obtain ⟨a3, g2⟩ := and2 g2
    obtain ⟨a4, a5⟩ := and2 g2
    exact ⟨He.cls_ok a1, of_decide_eq_true a2, of_decide_eq_true a3, of_decide_eq_true a4, of_decide_eq_true a5⟩
/-- a fact of the law's text -/
structure Tx (K : PySem.W.Frag) (w : World) (mg : Str → Option Value) (tabs : Tabs) (ct : CT) (isi : Isi) (free : List Str) (glo : List Str) (cons : List (Str × D)) : Prop where
  tabs : TabOk K w tabs
  ct : CtOk K ct
  isi : IsiOk K isi
  free : ∀ x, free.contains x = true → mg x = none
  glo : ∀ x, glo.contains x = true → mg x = some (.ref (He.ga K x))
  con : ∀ x d, cons.lookup x = some d → ∃ v u, mg x = some u ∧ RelV v u ∧ ∀ I, Rep K I d v
def txB (K : PySem.W.Frag) (tabs : Tabs) (ct : CT) (isi : Isi) (free : List Str) (glo : List Str) (cons : List (Str × D)) : Bool := tabB K tabs && (ctB K ct && (isiB K isi && ((free.all fun x => (He.Fa.free x).ok K) && ((glo.all fun x => (He.Fa.glo x).ok K) && cons.all fun p => conG K p.1 p.2))))
theorem txB_ok {K : PySem.W.Frag} {w : World} {h : Heap} {mg : Str → Option Value} {tabs : Tabs} {ct : CT} {isi : Isi} {free glo : List Str} {cons : List (Str × D)} (X : K.In h) (G : h.Ns mainGlobals mg) (c : txB K tabs ct isi free glo cons = true) (hk : ∀ x kvs, (x, kvs) ∈ tabs → ∃ es n, KDict K w (He.ga K x) es n) : Tx K w mg tabs ct isi free glo cons := by
  obtain ⟨c1, c⟩ := and2 c
  obtain ⟨c2, c⟩ := and2 c
  obtain ⟨c3, c⟩ := and2 c
  obtain ⟨c4, c⟩ := and2 c
  obtain ⟨c5, c6⟩ := and2 c
  exact ⟨tabB_ok c1 hk, ctB_ok c2, isiB_ok c3, fun x hx => He.free_ok X G (List.all_eq_true.mp c4 x (by simpa using hx)), fun x hx => He.glo_ok X G (List.all_eq_true.mp c5 x (by simpa using hx)), fun x d e => conG_ok X G (List.all_eq_true.mp c6 (x, d) (look_mem e))⟩
section
open PySem.Spec PyProof.Rows
end
end Fx

set_option Elab.async false
set_option linter.all false
set_option autoImplicit false
set_option maxRecDepth 100000
set_option maxHeartbeats 4000000
namespace Fx
open PySem L2 StX
/-! ## keywords: d.m(k = v), C(**d) -/
section
variable {prog : Program} {w : World} {A : Around} {E : Value → Shared → Prop} {s : Shared}
theorem ns_put {d : Addr} {kvs : List (Key × Value)} {name : Str} {v : Value} {Q : Unit → Shared → Prop} (hm : s.heap.DictOf (mixKind prog w) d kvs)
    (hQ : ∀ h', h'.DictOf (mixKind prog w) d (stored kvs (.inr name) v) → Heap.SameBut d s.heap h' → Q () { s with heap := h', toks := s.toks + 1 }) : wpAny (model prog w) A (nsSet d name v) Q E s := fun Γ p ΓA => by
  obtain ⟨o, es, ep, ho, hc, hd, hk, hp, hn⟩ := hm
  have his : ∀ x : Value, (mixKind prog w).is (.inr name) x = x.isStr name := fun x => by
    show Value.isStrOf name x = _
    cases x <;> first | rfl | simp [Value.isStrOf, Value.isStr]
  have hany : es.any (·.refKey) = false := by
    rw [Array.any_eq_false']
    intro e he
    obtain ⟨k', hkey', _⟩ := hk e he
    rcases keyIs_shape (show keyIs k' e.key = true from hkey') with ⟨i, t, _, q⟩ | ⟨x, t, _, q⟩ <;> simp [DictEntry.refKey, q]
  simp only [nsSet, strHash, Sem.wp_bind', Sem.wp_cmd_ask, Sem.wp_pure', Sem.wp_cmd_mkText]
  rw [Sem.wp_loadPart_of _ _ _ _ { s with toks := s.toks + 1 } (o := o) _ ho]
  simp only [hd, aRefKeyMayBeTheName_eq, aRefKeyMayBeTheNameByArray, hany, Bool.and_false, Bool.false_eq_true, if_false, Sem.wp_cmd_updatePart]
  refine ⟨by rw [ho]; rfl, hQ _ ?_ (Heap.SameBut.update ..)⟩
  have hidx : (es.findIdx? fun e => e.key.isStr name) = kvs.findIdx? fun kv => decide (kv.1 = .inr name) := by
    rw [← hp.findIdx (.inr name)]
    obtain ⟨l⟩ := es
    simp [his]
  obtain ⟨c, dd, dt, sl⟩ := o
  subst hd
  cases hi : es.findIdx? (·.key.isStr name) with
  | some i =>
    refine ⟨_, _, ep, Heap.get?_update_self _ ho (by simp only [Obj.putName_eq, Obj.putNameByArray, hi]; rfl), ?_, by simp only [Obj.putName_eq, Obj.putNameByArray, hi]; rfl, hk.modify _ _, ?_, ?_⟩
    · simp only [Obj.putName_eq, Obj.putNameByArray, hi]; exact hc
    · rw [stored, if_pos (any_of_findIdx_some (hidx ▸ hi))]
      have hl : (es.toList.findIdx? fun e => (mixKind prog w).is (.inr name) e.key) = some i := by rw [← hi]; obtain ⟨l⟩ := es; simp [his]
      have := hp.modify hn hl v
      obtain ⟨l⟩ := es
      simpa using this
    · rw [stored, if_pos (any_of_findIdx_some (hidx ▸ hi)), keys_map_store]; exact hn
  | none =>
    have hkey : ∀ t, (mixKind prog w).is (.inr name) (.str name t) = true := fun t => by rw [his]; simp [Value.isStr]
    have hnot : (.inr name : Key) ∉ kvs.map (·.1) := not_mem_of_findIdx_none (hidx ▸ hi)
    have hany : ¬ (kvs.any fun kv => decide (kv.1 = .inr name)) = true := by
      rw [List.any_eq_true]; rintro ⟨kv, hkv, he⟩
      exact hnot (List.mem_map.mpr ⟨kv, hkv, of_decide_eq_true he⟩)
    refine ⟨_, _, ep + 1, Heap.get?_update_self _ ho (by simp only [Obj.putName_eq, Obj.putNameByArray, hi]; rfl), ?_, by simp only [Obj.putName_eq, Obj.putNameByArray, hi]; rfl, hk.push (hkey _) _, ?_, ?_⟩
    · simp only [Obj.putName_eq, Obj.putNameByArray, hi]; exact hc
    · rw [stored, if_neg hany]
      have := hp.append (hkey s.toks) ((mixKind prog w).hash (.inr name)) v
      obtain ⟨l⟩ := es
      simpa using this
    · rw [stored, if_neg hany, List.map_append, List.nodup_append]
      refine ⟨hn, by simp, ?_⟩
      intro a ha b hb
      simp only [List.map_cons, List.map_nil, List.mem_singleton] at hb
      subst hb
      exact fun e => hnot (e ▸ ha)
/-- the pairs stored one by one -/
def putAll (d : Addr) : List (Str × Value) → Sem Unit
  | [] => pure ()
  | (k, v) :: r => nsSet d k v >>= fun _ => putAll d r
/-- the same, as bindArgs says it -/
def putFor (d : Addr) (l : List (Str × Value)) : Sem PUnit := forIn l PUnit.unit fun x _ => match x with
  | (k, v) => do
    nsSet d k v
    pure (ForInStep.yield PUnit.unit)
theorem putFor_eq (d : Addr) : ∀ l, putFor d l = putAll d l
  | [] => by simp [putFor, putAll]
  | (k, v) :: r => by
    have ih := putFor_eq d r
    unfold putFor at ih ⊢
    rw [List.forIn_cons]
    simp only [bind_assoc, pure_bind]
    rw [ih]
    rfl
def inrs {α : Type} (l : List (Str × α)) : List (Key × α) := l.map fun p => (.inr p.1, p.2)
theorem putAll_ok {d : Addr} : ∀ (l : List (Str × Value)) (kvs : List (Key × Value)) (s : Shared) (Q : Unit → Shared → Prop), s.heap.DictOf (mixKind prog w) d kvs →
    (∀ h' t', h'.DictOf (mixKind prog w) d (merged kvs (inrs l)) → Heap.SameBut d s.heap h' → Q () { s with heap := h', toks := t' }) → wpAny (model prog w) A (putAll d l) Q E s
  | [], kvs, s, Q, hd, hQ => wpAny_pure (hQ s.heap s.toks hd (Heap.SameBut.refl _ _))
  | (k, v) :: r, kvs, s, Q, hd, hQ => wpAny_bind (ns_put hd fun h' d1 sb => putAll_ok r _ _ _ d1 fun h2 t2 d2 sb2 => hQ h2 t2 d2 (sb.trans sb2))
end
def FnKW (P : Program) (w : World) (K : PySem.W.Frag) (mg : Str → Option Value) (base : Heap) (CX : CXT) (k : Nat) (f : Addr) (ks : List Str) (sp : List V → List V → Hp → VK → XK → Prop) : Prop :=
  ∀ (A : Around) (outer : List Env) (s : Shared) (H : Hp) (us ws : List Value) (vs zs : List V) (Q : VK) (E : XK), RoomG k A → Env0 P w K mg base A outer s H → Vals vs us → Vals zs ws → sp vs zs H Q E →
    codeAny (model P w) A (.call (.ref f) ⟨us, ks.zip ws⟩) (CR CX outer P w H s Q E) s
section
variable {CX : CXT} {P : Program} {w : World} {K : PySem.W.Frag} {mg : Str → Option Value} {base : Heap} {k : Nat} {f : Addr} {fd : FuncData} {x qual : Str} {params : Arguments} {body : List Stmt} {scope : Scope} {kws : List (Str × V)} {N ps ks : List Str} {sp : Sp} {pd : Str}
theorem kv_zip : ∀ {ks : List Str} {zs : List V} {ws : List Value}, Vals zs ws → KV (inrs (ks.zip zs)) (inrs (ks.zip ws))
  | [], _, _, _ => Paired.nil
  | _ :: _, _, _, .nil => Paired.nil
  | k :: ks, _, _, .cons h r => by
    have ih := kv_zip (ks := ks) r
    exact .cons ⟨rfl, h⟩ ih
theorem fn_kw (F : FunD K x qual params body scope [] kws f fd) (S : FnScope N (ps ++ [pd]) scope) (hCX : CXUp CX) (hks : ks.length ≤ 1000)
    (hb : ∀ (kV doc pm : Value) (an : Option Addr) (cdv ct : Value) (us ws : List Value), us.length = ps.length → ws.length = ks.length → bindArgs (PySem.W.fnOf x qual params body scope .none kV doc pm an cdv ct) ⟨us, ks.zip ws⟩ =
      ((alloc ({ cls := .type "dict", data := .dict #[] } : Obj) : Sem Addr) >>= fun d => putFor d (ks.zip ws) >>= fun _ => pure (ps.zip us ++ [(pd, Value.ref d)])))
    (hbody : ∀ (cdv : Value) (A : Around) (outer : List Env) (s : Shared) (H : Hp) (vs : List V) (Q : VK) (E : XK), RoomG k (A.deeper (PyProof.Rows.envOfC qual scope s.heap.objs.size f cdv)) → sp vs H Q E →
      ∃ t, PSs (cxOf CX P w K mg base N qual scope f cdv A outer s H E) body t ∧ t { nx := fun _ H' => Q .non H', rt := Q } (L2.start N vs) H) :
    FnKW P w K mg base CX (k + 1) f ks (fun vs zs H Q E => vs.length = ps.length ∧ zs.length = ks.length ∧ ∀ d, H d = none → sp (vs ++ [V.ref d]) (upd H d (.dK (mergeK [] (inrs (ks.zip zs))))) Q E) := by
  obtain ⟨oc, od, dV, kV, doc, pm, an, cdv, ct, osl, rfl, lk, hcd, hD, hK⟩ := F.ex
  rcases hD with ⟨_, rfl⟩ | ⟨e, _⟩
  case inr => exact absurd rfl e
  intro A outer s H us ws vs zs Q E hr e0 r rz hsp
  obtain ⟨l1, l2, hq⟩ := hsp
  have hn : H s.heap.objs.size = none := e0.hok.fresh (Nat.le_refl _)
  have k1 : us.length = ps.length := by rw [← r.length]; exact l1
  have k2 : ws.length = ks.length := by rw [← rz.length]; exact l2
  refine run_bnd lk hcd S hr.r e0 (G := fun xs H2 => ∃ p, H p = none ∧ xs = vs ++ [V.ref p] ∧ H2 = upd H p (.dK (mergeK [] (inrs (ks.zip zs))))) (fun A' Ex Q' h => ?_) fun s2 H2 xs ⟨p, hp, ex, eH⟩ hr' => ?_
  · rw [hb _ _ _ _ _ _ us ws k1 k2]
    refine wpAny_bind (wpAny_alloc (wpAny_bind ?_))
    rw [putFor_eq]
    refine (((putAll_ok (w := w) _ [] _ _ (Heap.DictOf.new s.heap) fun h' t' dd sb => wpAny_pure ?_)))
    have kp : ∀ b o, s.heap.get? b = some o → h'.get? b = some o := fun b o q => (sb.2 b (Nat.ne_of_lt (Heap.lt_size q))).trans (Heap.get?_push_of_some _ q)
    have hz : (mergeK [] (inrs (ks.zip zs))).length ≤ sizeLine := by
      have h1 := length_mergeK (inrs (ks.zip zs)) []
      have h2 : (inrs (ks.zip zs)).length ≤ 1000 := by simp [inrs]; omega
      rw [List.length_nil] at h1
      rw [sizeLine_eq]; omega
    have hsm : (s.heap.objs.size == sysModules) = false := beq_eq_false_iff_ne.mpr (Ne.symm (Nat.ne_of_lt (env0_big e0)))
    have new : ObjOk P w (upd H s.heap.objs.size (.dK (mergeK [] (inrs (ks.zip zs))))) h' s.heap.objs.size (.dK (mergeK [] (inrs (ks.zip zs)))) := dk_new hz hsm ((kv_zip rz).merge .nil) dd
    have un : Un (frs outer) [] H (upd H s.heap.objs.size (.dK (mergeK [] (inrs (ks.zip zs))))) s.heap h' := Un.laid kp (Nat.le_refl _) hn
    have hsz : s.heap.objs.size ≤ h'.objs.size := by
      have e1 : h'.objs.size = (s.heap.push ({ cls := .type "dict", data := .dict #[] } : Obj)).objs.size := sb.1
      rw [e1, Heap.size_push]
      exact Nat.le_succ _
    have e2 : Env0 P w K mg base A outer { s with heap := h', toks := t' } (upd H s.heap.objs.size (.dK (mergeK [] (inrs (ks.zip zs))))) := by
      refine ⟨e0.frames, e0.mod, fun b x e => ⟨kp b x (e0.bs b x e).1, ?_⟩, Nat.le_trans e0.bsz hsz, Heap.FunFrames.of_keeps (fun b x e _ => ⟨x, kp b x e, rfl⟩) e0.funs, fun b hb => ?_, e0.hok.laid kp (Nat.le_refl _) new, e0.bare⟩
      · rw [upd_ne (Nat.ne_of_lt (Heap.lt_size (e0.bs b x e).1))]
        exact (e0.bs b x e).2
      · obtain ⟨_, x, hx, _⟩ := e0.funs.mem hb
        rw [upd_ne (Nat.ne_of_lt (Heap.lt_size hx))]
        exact e0.frf b hb
    have z := h _ _ (vs ++ [V.ref s.heap.objs.size]) (us ++ [Value.ref s.heap.objs.size]) e2 un rfl (fun e s' => hCX outer s H _ _ E e s' un kp rfl) (r.append (.cons rfl .nil)) (by rw [List.length_append, List.length_append, l1] <;> rfl) ⟨_, hn, rfl, rfl⟩
    rw [List.zip_append k1.symm] at z
    exact z
  · subst ex eH
    exact hbody cdv A outer s2 _ _ Q E ⟨hr', fun z => hr.gd (Nat.le_succ_of_le z)⟩ (hq p hp)
end
end Fx

set_option Elab.async false
set_option linter.all false
set_option autoImplicit false
set_option maxRecDepth 100000
set_option maxHeartbeats 4000000
namespace Fx
open PySem L2 StX
/-- a method of some classes, def m(self, **d), called by the keywords ks -/
structure GMK (P : Program) (w : World) (K : PySem.W.Frag) (mg : Str → Option Value) (base : Heap) (m : Str) (k : Nat) (ks : List Str) (tab : MTab) : Prop where
  ex : ∀ C n F, tab.lookup C = some (n, F) → ∃ f : Addr, Cls K (He.ga K C) ∧ Meth K (He.ga K C) m f ∧
    FnKW P w K mg base (CX P w) k f ks (fun vs zs H Q E => vs.length = 1 ∧ zs.length = ks.length ∧ ∀ d, H d = none → spFn K n F (vs ++ [V.ref d]) (upd H d (.dK (mergeK [] (inrs (ks.zip zs))))) Q E)
def tMethKW (K : PySem.W.Frag) (tab : MTab) (m : Str) (ks : List Str) (W : WX) (ta : TE) (t : TA) : TE := fun σ H Q => ta σ H fun x H1 => ∃ a C dx fs n F, x = .ref a ∧ H1 a = some (.ins (He.ga K C) dx fs) ∧ fs.lookup m = none ∧ tab.lookup C = some (n, F) ∧
  t σ H1 fun zs H2 => zs.length = ks.length ∧ ∀ d, H2 d = none → spFn K n F [x, .ref d] (upd H2 d (.dK (mergeK [] (inrs (ks.zip zs))))) Q (EW W σ)
section
variable {X : Cx} {P : Program} {w : World} {K : PySem.W.Frag} {mg : Str → Option Value} {base : Heap} {k n : Nat} {F : Fn} {x m : Str} {p pos apos kp : Pos} {e o : Expr} {es : List Expr} {kws : List Keyword} {ks : List Str} {t : TA} {ta te : TE} {W : WX} {tab : MTab}
theorem pe_dmKW {pl : Sem Bool} (G : GMK P w K mg base m k ks tab) (he : PE X o ta) (hr : RoomG k X.A) (tk : Takes X W) (hkw : PK X kws t) (hX : Same5 X P w K mg base := by exact ⟨rfl, rfl, rfl, rfl, rfl⟩)
    (hall : (backToKw pos (keywordEach kws X.env)).all (·.1.isSome) = true := by rfl) (hks : (backToKw pos (keywordEach kws X.env)).filterMap (·.1) = ks := by rfl)
    (hpl : ((backTo pos (starEach [] X.env)).any (·.1) || (backToKw pos (keywordEach kws X.env)).any (·.1.isNone)) = false := by rfl)
    (ht : eval (.Call (.Attribute o m apos) [] kws pos) X.env = (do
      let ov ← eval o X.env
      standAt apos.atName
      let (f, first) ← holding [ov] (getMethod ov m pl)
      callWith pos f first (backTo pos (starEach [] X.env)) (backToKw pos (keywordEach kws X.env))) := by rfl) :
    PE X (.Call (.Attribute o m apos) [] kws pos) (tMethKW K tab m ks W ta t) := by
  obtain ⟨rfl, rfl, rfl, rfl, rfl⟩ := hX
  refine ⟨fun pins s σ H Q I h => ?_⟩
  refine PySem.W.methodCall_KW (pl := pl) (thn (he.run pins s σ H _ I h) fun u s1 ⟨x, H1, I1, rx, a, C, dx, fs, n, F, ex, ea, l, hl, q⟩ => ?_) ht
  obtain ⟨f, c, hm, Fo⟩ := G.ex C n F hl
  subst ex
  obtain rfl : u = Value.ref a := rx
  refine getmeth_ok I1 ea c hm l ?_
  refine PySem.W.callWith_KW0 (first := [.ref a]) (h₀ := X.base) I.ok.mod.kin hm.kp hall (thn (hkw.run pos pins s1 σ H1 _ I1 q) fun ws s2 ⟨zs, H2, I2, rz, l2, q2⟩ => ⟨I2.kIn, ?_⟩) hpl
  rw [hks]
  refine wpAny_call (codeAny_mono (Fo X.A X.stack s2 H2 [.ref a] ws [.ref a] zs Q (EW W σ) hr I2.env0 (.cons rfl .nil) rz ⟨rfl, l2, q2⟩) fun r s' hq => ?_)
  cases r with
  | error e => exact passAt tk σ pins H2 s2 e s' I2 hq
  | ok fl =>
    cases fl with
    | ret u => exact I2.after hq
    | next => exact False.elim hq
    | brk => exact False.elim hq
    | cont => exact False.elim hq
end
/-! ## C(**d) -/
section
variable {prog : Program} {w : World} {A : Around} {E : Value → Shared → Prop} {s : Shared}
theorem merge_mapU {d o : Addr} {more : List (Key × Value)} {Q : Unit → Shared → Prop} (hdo : d ≠ o) (hoS : (o == sysModules) = false)
    (hd : s.heap.DictOf (mixKind prog w) d []) (ho : s.heap.DictOf (mixKind prog w) o more)
    (hQ : ∀ h', h'.DictOf (mixKind prog w) d more → h'.DictOf (mixKind prog w) o more → Heap.SameBut d s.heap h' → Q () { s with heap := h' })
    (hsz : more.length ≤ sizeLine) :
    wpAny (model prog w) A (mergeMapping d (.ref o) true) Q E s := by
  obtain ⟨od, esd, epd, hod, hcd, hdd, hkd, hpd, hnd⟩ := id hd
  obtain ⟨oo, eso, epo, hoo, hco, hdo', hko, hpo, hno⟩ := id ho
  have hlen : more.length = eso.size := by rw [← hpo.length]; simp
  have tail : wpAny (model prog w) A (do
      let __do_lift ← dictEntries o
      let size := __do_lift.size
      let epoch ← dictEpoch o
      forIn (List.range size) PUnit.unit fun i (_ : PUnit) => (do
          let l' ← dictEntries o
          match l'[i]? with
            | some e => do
              holding [e.key, e.val] (do
                if true = true then do
                  let q ← dictFind d e.key e.hash
                  if q.isSome = true then do
                    rule "dict.merge.duplicate-key"
                    let x ← newExc (.type "KeyError") [e.key]
                    raiseNew x
                    dictPut d e.hash e.key e.val
                  else dictPut d e.hash e.key e.val
                else dictPut d e.hash e.key e.val)
              let ep' ← dictEpoch o
              if (ep' != epoch) = true then do
                  (unsupported "dict.changed-during-merge" : Sem PUnit)
                  pure (ForInStep.yield PUnit.unit)
                else pure (ForInStep.yield PUnit.unit)
            | _ => do
              (unsupported "dict.changed-during-merge" : Sem PUnit)
              pure (ForInStep.yield PUnit.unit) : Sem (ForInStep PUnit))
      pure ()) Q E s := by
    refine wpAny_bind (wpAny_dictEntries hoo hdo' ?_)
    dsimp only
    refine wpAny_bind (wpAny_dictEpoch hoo hdo' ?_)
    refine wpAny_bind ?_
    rw [List.range_eq_range']
    refine wpAny_forIn_list _
      (fun rest _ s' => ∃ h' i, s' = { s with heap := h' } ∧ rest = List.range' i (eso.size - i) ∧ i ≤ eso.size ∧ h'.DictOf (mixKind prog w) d (more.take i) ∧ h'.get? o = some oo ∧ Heap.SameBut d s.heap h')
      _ ?_ ?_ _ _ ⟨s.heap, 0, rfl, by simp, Nat.zero_le _, by simpa using hd, hoo, Heap.SameBut.refl _ _⟩
    · rintro x rest b s' ⟨h', i, rfl, hr, hi, hd', hoo', hs'⟩
      have hlt : i < eso.size := by
        rcases Nat.lt_or_ge i eso.size with h | h
        · exact h
        · rw [Nat.sub_eq_zero_of_le h] at hr; simp at hr
      obtain ⟨rfl, hrest⟩ : x = i ∧ rest = List.range' (i + 1) (eso.size - (i + 1)) := by
        have e : eso.size - i = (eso.size - (i + 1)) + 1 := by omega
        rw [e, List.range'_succ] at hr
        injection hr with h1 h2
        exact ⟨h1, h2⟩
      refine wpAny_bind (wpAny_dictEntries hoo' hdo' ?_)
      rw [Array.getElem?_eq_getElem hlt]
      obtain ⟨kv, hkv⟩ : ∃ kv, more[x]? = some kv := ⟨more[x]'(by rw [hlen]; exact hlt), List.getElem?_eq_getElem _⟩
      obtain ⟨k, v⟩ := kv
      obtain ⟨hkey, hval⟩ := hpo.get? (e := eso[x]) (by simp [hlt]) hkv
      obtain ⟨k', hkey', hhash⟩ := hko eso[x] (Array.getElem_mem hlt)
      obtain rfl : k' = k := (mixKind prog w).inj _ _ _ hkey' hkey
      have hts : more.take (x + 1) = more.take x ++ [(k', v)] := by
        rw [List.take_succ, hkv]; rfl
      have hnd2 : ((more.take x ++ [(k', v)]).map (·.1)).Nodup := by
        rw [← hts, List.map_take]
        exact hno.sublist (List.take_sublist _ _)
      have hnk : k' ∉ (more.take x).map (·.1) := by
        rw [List.map_append, List.nodup_append] at hnd2
        intro hm
        exact hnd2.2.2 _ hm _ (by simp) rfl
      have hst : stored (more.take x) k' v = more.take (x + 1) := by
        rw [hts, stored, if_neg]
        rw [List.any_eq_true]
        rintro ⟨kv, h1, h2⟩
        exact hnk (List.mem_map.mpr ⟨kv, h1, of_decide_eq_true h2⟩)
      obtain ⟨o2, es2, ep2, ho2, hc2, hd2, hk2, hp2, hn2⟩ := id hd'
      have hfind : (es2.findIdx? fun e => (mixKind prog w).is k' e.key) = none := by
        have e1 : (es2.findIdx? fun e => (mixKind prog w).is k' e.key) = (more.take x).findIdx? fun kv => decide (kv.1 = k') := by
          rw [← hp2.findIdx k']; obtain ⟨l⟩ := es2; simp
        rw [e1, List.findIdx?_eq_none_iff]
        intro kv h1
        refine decide_eq_false fun h2 => hnk (List.mem_map.mpr ⟨kv, h1, h2⟩)
      show wpAny _ _ (holding [eso[x].key, eso[x].val] _ >>= _) _ _ _
      have hmx : (more.take x).length ≤ sizeLine := by
        have e2 : (more.take x).length ≤ more.length := by rw [List.length_take]; omega
        omega
      refine wpAny_bind (wpAny_holding ?_)
      rw [if_pos rfl, hhash]
      refine wpAny_bind (wpAny_dictFind_of hkey ho2 hd2 hk2 ?_)
      rw [hfind, hval]
      rw [if_neg (by simp)]
      refine put_pairs (hsz := hmx) hkey hd' fun h'' hd'' hs'' => ?_
      have hoo'' : h''.get? o = some oo := (hs''.2 o (Ne.symm hdo)).trans hoo'
      refine wpAny_bind (wpAny_dictEpoch hoo'' hdo' ?_)
      rw [if_neg (by simp)]
      exact wpAny_pure ⟨h'', x + 1, rfl, hrest, hlt, by rw [← hst]; exact hd'', hoo'', hs'.trans hs''⟩
    · rintro b s' ⟨h', i, rfl, hr, hi, hd', hoo', hs'⟩
      have hin : i = eso.size := by
        rcases Nat.lt_or_ge i eso.size with h | h
        · have e : eso.size - i = (eso.size - (i + 1)) + 1 := by omega
          rw [e, List.range'_succ] at hr; exact nomatch hr
        · exact Nat.le_antisymm hi h
      refine wpAny_pure (hQ h' ?_ ⟨oo, eso, epo, hoo', hco, hdo', hko, hpo, hno⟩ hs')
      rw [hin, ← hlen, List.take_length] at hd'; exact hd'
  unfold mergeMapping
  refine wpAny_bind (wpAny_isInstance ho.typeIs isSubtype_dict_dict ?_)
  dsimp only
  rw [if_pos rfl]
  refine wpAny_bind (wpAny_specialOf ho.typeIs F.slot_dict_iter.lookup ?_)
  refine wpAny_bind (wpAny_pure ?_)
  rw [beq_self_eq_true]
  dsimp only
  rw [if_neg (by rw [hoS]; exact Bool.false_ne_true)]
  refine wpAny_bind (wpAny_dictEntries hod hdd ?_)
  split
  · refine wpAny_bind (wpAny_dictEntries hoo hdo' ?_)
    refine wpAny_bind (MeetsSeq2.wpAny_forIn_array _ (fun rest _ s' => s' = s ∧ ∀ e ∈ rest, e ∈ eso.toList) _ ?_ ?_ _ _ ⟨rfl, fun _ h => h⟩)
    · rintro e rest b s' ⟨rfl, hm⟩
      obtain ⟨k', hkey', _⟩ := hko e (by simpa using hm e List.mem_cons_self)
      rcases keyIs_shape (show keyIs k' e.key = true from hkey') with ⟨i, t, _, q⟩ | ⟨x, t, _, q⟩
      · rw [q]
        exact wpAny_pure ⟨rfl, fun z hz => hm z (List.mem_cons_of_mem _ hz)⟩
      · rw [q]
        exact wpAny_pure ⟨rfl, fun z hz => hm z (List.mem_cons_of_mem _ hz)⟩
    · rintro b s' ⟨rfl, _⟩
      exact tail
  · exact tail
theorem kwIn {d : Addr} {f : Value} {ks : List Str} {vs : List (Key × Value)} {Q : List (Str × Value) → Shared → Prop} (hd : s.heap.DictOf (mixKind prog w) d vs) (hk : vs.map (·.1) = ks.map .inr) (hQ : Q (ks.zip (vs.map (·.2))) s) :
    wpAny (model prog w) A (keywordsIn f d) Q E s := by
  obtain ⟨o, es, ep, ho, hc, hdd, hkk, hp, hn⟩ := hd
  unfold keywordsIn
  refine wpAny_bind (wpAny_dictEntries ho hdd ?_)
  refine wpAny_bind (MeetsSeq2.wpAny_forIn_array _ (fun rest kw s' => s' = s ∧ ∃ (vs' : List (Key × Value)) (ks' : List Str), Pairs (mixKind prog w) rest vs' ∧ vs'.map (·.1) = ks'.map .inr ∧ kw ++ ks'.zip (vs'.map (·.2)) = ks.zip (vs.map (·.2))) _ ?_ ?_ _ _ ⟨rfl, vs, ks, hp, hk, by simp⟩)
  · rintro e rest b s' ⟨rfl, vs', ks', hr, hk', hb⟩
    cases hr with
    | @cons _ kv _ vs2 h1 h2 h3 =>
      obtain ⟨k0, v0⟩ := kv
      cases ks' with
      | nil => simp at hk'
      | cons z ks2 =>
        simp only [List.map_cons, List.cons.injEq] at hk'
        obtain ⟨e1, e2⟩ := hk'
        subst e1
        rcases keyIs_shape (show keyIs (.inr z) e.key = true from h1) with ⟨i, t, q0, q⟩ | ⟨x, t, q0, q⟩
        · cases q0
        · cases q0
          rw [q]
          refine wpAny_pure ⟨rfl, vs2, ks2, h3, e2, ?_⟩
          rw [← hb, h2]
          simp
  · rintro b s' ⟨rfl, vs', ks', hr, hk', hb⟩
    cases hr
    cases ks' with
    | nil =>
      refine wpAny_pure ?_
      have : b = ks.zip (vs.map (·.2)) := by simpa using hb
      rw [this]
      exact hQ
    | cons z ks2 => simp at hk'
end
end Fx

set_option Elab.async false
set_option linter.all false
set_option autoImplicit false
set_option maxRecDepth 100000
set_option maxHeartbeats 4000000
namespace Fx
open PySem L2 StX
section
variable {prog : Program} {w : World} {A : Around} {E : Value → Shared → Prop} {s : Shared}
theorem wpAny_ifT {α : Type} {c : Prop} [Decidable c] {a b : Sem α} {Q : α → Shared → Prop} (hc : c) (h : wpAny (model prog w) A a Q E s) : wpAny (model prog w) A (if c then a else b) Q E s := by rw [if_pos hc]; exact h
/-- f(**e): the arguments -/
theorem args_dd {f : Value} {sv : Sem Value} {Q : Args → Shared → Prop}
    (h : wpAny (model prog w) A sv (fun m s1 => wpAny (model prog w) A (mergeMapping s.heap.objs.size m true) (fun _ s2 => wpAny (model prog w) A (keywordsIn f s.heap.objs.size) (fun kw s3 => Q ⟨[], kw⟩ s3) (fun _ _ => False) s2) (fun _ _ => False) s1) E { s with heap := s.heap.push { cls := .type "dict", data := .dict #[] } }) :
    wpAny (model prog w) A (evalArgs f true [] [(none, sv)]) Q E s := by
  have no : ∀ {α : Type} {m : Sem α} {Q : α → Shared → Prop} {E' : Value → Shared → Prop} {s' : Shared}, wpAny (model prog w) A m Q (fun _ _ => False) s' → wpAny (model prog w) A m Q E' s' := fun h => wpAny_mono h (fun _ _ z => z) fun _ _ z => z.elim
  unfold evalArgs
  dsimp only
  refine wpAny_bind ?_
  rw [spliced]
  refine wpAny_pure (wpAny_bind (wpAny_pure ?_))
  dsimp only
  refine wpAny_holding ?_
  simp only [List.all_cons, List.all_nil, Option.isSome_none, Bool.false_and, Bool.false_eq_true, if_false]
  refine wpAny_bind ?_
  unfold mergedKeywords
  refine wpAny_bind (wpAny_alloc ?_)
  refine wpAny_bind (wpAny_holding ?_)
  dsimp only
  refine wpAny_bind ?_
  rw [List.forIn_cons]
  refine wpAny_bind ?_
  refine wpAny_bind ?_
  refine wpAny_ifT rfl (wpAny_pure ?_)
  refine wpAny_bind (wpAny_mono h (fun m s1 h1 => ?_) fun _ _ e => e)
  refine wpAny_bind (wpAny_onRaise (wpAny_holding (wpAny_tryCatch (wpAny_onRaise (no (wpAny_mono h1 (fun _ s2 h2 => ?_) fun _ _ z => z))))))
  refine wpAny_pure ?_
  dsimp only
  rw [List.forIn_nil]
  refine wpAny_pure ?_
  refine wpAny_ifT rfl (wpAny_pure (wpAny_pure ?_))
  refine wpAny_bind (wpAny_pure (wpAny_bind (wpAny_holding (no (wpAny_mono h2 (fun kw s3 h3 => wpAny_pure h3) fun _ _ z => z)))))
theorem callWith_dd {f : Value} {first : List Value} {pos : Pos} {Q : Value → Shared → Prop} {Pr : Heap → Prop} {sv : Sem Value}
    (hk : ∀ h, Pr h → ∃ k, (k = Keeper.frame ∨ k = Keeper.machine ∨ k = Keeper.boundFrame) ∧ PySem.W.Looks (model prog w) h (keeperOf f) k)
    (h : wpAny (model prog w) A (evalArgs f true [] [(none, sv)]) (fun a s₁ => Pr s₁.heap ∧ wpAny (model prog w) A (call f (first ++ a.pos) a.kw) Q E s₁) E s) : wpAny (model prog w) A (callWith pos f first [] [(none, sv)]) Q E s := by
  unfold callWith
  refine wpAny_bind (wpAny_holding (wpAny_mono h (fun a s₁ h₁ => wpAny_bind (wpAny_standAt ?_)) fun _ _ x => x))
  obtain ⟨k, hk', L⟩ := hk _ h₁.1
  refine wpAny_bind (L.here ?_)
  have tail : ∀ {t : Sem Value}, wpAny (model prog w) A t Q E s₁ → wpAny (model prog w) A (t >>= fun r => holding [r] point >>= fun _ => pure r) Q E s₁ :=
    fun ht => wpAny_bind (wpAny_mono ht (fun r s₂ hr => wpAny_bind (wpAny_holding (wpAny_point (wpAny_pure hr)))) fun _ _ x => x)
  have marked (mk : Value) : wpAny (model prog w) A (callMarked mk f (first ++ a.pos) a.kw) Q E s₁ := by unfold callMarked; exact Calls.wpAny_keep h₁.2
  rcases hk' with rfl | rfl | rfl <;> first | exact tail (marked _) | exact tail (wpAny_operating h₁.2)
end
theorem kv_keys {kvs : List (Key × V)} {vs : List (Key × Value)} (h : KV kvs vs) : kvs.map (·.1) = vs.map (·.1) := by
  unfold KV at h
  induction h with
  | nil => rfl
  | cons h _ ih => simp only [List.map_cons, h.1, ih]
theorem kv_vals {kvs : List (Key × V)} {vs : List (Key × Value)} (h : KV kvs vs) : Vals (kvs.map (·.2)) (vs.map (·.2)) := by
  unfold KV at h
  induction h with
  | nil => exact .nil
  | cons h _ ih => exact .cons h.2 ih
/-- a class by its name, called by the keywords ks -/
structure GKK (P : Program) (w : World) (K : PySem.W.Frag) (mg : Str → Option Value) (base : Heap) (x : Str) (n : Nat) (ks : List Str) (k : Nat) (F : Fn) : Prop where
  ex : ∃ (f : Addr) (fd : FuncData) (ps : List Str) (g : List Value → List Value → List Value), FnG P w K mg base (CX P w) k f fd ps (spFn K n F) ∧ Mk K (He.ga K x) f ∧ mg x = some (.ref (He.ga K x)) ∧ KBn K fd ps 1 ks g (fun vs zs => vs ++ zs)
def tMakeKW (K : PySem.W.Frag) (x : Str) (n : Nat) (F : Fn) (ks : List Str) (W : WX) (te : TE) : TE := fun σ H Q => ∀ p, H p = none → te σ (upd H p (.dK [])) fun y H1 => ∃ a kvs, y = .ref a ∧ a ≠ p ∧ H1 p = some (.dK []) ∧ Rd H1 a (.dK kvs) ∧ kvs.length ≤ 1000 ∧ kvs.map (·.1) = ks.map .inr ∧
  ∀ o dx, upd H1 p (.dK kvs) o = none → upd H1 p (.dK kvs) dx = none → dx ≠ o →
    spFn K n F (.ref o :: kvs.map (·.2)) (upd (upd (upd H1 p (.dK kvs)) dx (.own o)) o (.ins (He.ga K x) dx [])) (fun v H2 => v = .non ∧ Q (.ref o) H2) (EW W σ)
section
variable {X : Cx} {P : Program} {w : World} {K : PySem.W.Frag} {mg : Str → Option Value} {base : Heap} {k n : Nat} {F : Fn} {x m : Str} {p pos apos kp : Pos} {e o : Expr} {ks : List Str} {te : TE} {W : WX}
theorem run_makeK {CX : CXT} {f C : Addr} {fd : FuncData} {ps : List Str} {sp : Sp} {E : XK} {g : List Value → List Value → List Value} {gV : List V → List V → List V} {pins : List (Addr × Obj)} {σ : L2.St} {H : Hp} {s : Shared} {Q : VK} {us ws : List Value} {vs zs : List V} (M : Mk X.K C f) (F : FnG X.prog X.w X.K X.mg X.base CX k f fd ps sp) (hr : RoomG (k + 1) X.A) (hb : KBn X.K fd ps (n + 1) ks g gV)
    (hx : PassesAt CX X σ E) (I : Inv X pins σ H s) (r : Vals vs us) (rz : Vals zs ws) (l1 : vs.length = n) (l2 : zs.length = ks.length)
    (h : ∀ x dx, H x = none → H dx = none → dx ≠ x → sp (gV (.ref x :: vs) zs) (upd (upd H dx (.own x)) x (.ins C dx [])) (fun v H2 => v = .non ∧ Q (.ref x) H2) E) :
    wpAny (model X.prog X.w) X.A (call (.ref C) us (ks.zip ws)) (EP X pins σ Q) X.xe s := by
  have hq := h (s.heap.objs.size + 1) s.heap.objs.size (I.hok.fresh (Nat.le_succ _)) (I.hok.fresh (Nat.le_refl _)) (Nat.ne_of_lt (Nat.lt_succ_self _))
  have I2 := Inv.made (C := C) I
  have r1 : Vals (V.ref (s.heap.objs.size + 1) :: vs) (Value.ref (s.heap.objs.size + 1) :: us) := .cons rfl r
  have r2 := hb.rel r1 rz
  have e1 : (Value.ref (s.heap.objs.size + 1) :: us).length = n + 1 := r1.length.symm.trans (congrArg Nat.succ l1)
  have e2 : ws.length = ks.length := rz.length.symm.trans l2
  refine wpAny_call (make_map (f := f) I.kIn M.makes M.init (beq_iff_eq.mp M.fn) (codeAny_mono (F.run _ X.stack _ _ ⟨Value.ref (s.heap.objs.size + 1) :: us, ks.zip ws⟩ (g (Value.ref (s.heap.objs.size + 1) :: us) ws) _ _ E (hr.make C us (ks.zip ws))
    (I2.env0.make C us (ks.zip ws)) (hb.to _ (Value.ref (s.heap.objs.size + 1) :: us) ws I2.kIn e1 e2) r2 hq) fun r s' hq' => ?_))
  cases r with
  | error e => exact hx pins _ _ e s' I2 hq'
  | ok fl =>
    cases fl with
    | ret u =>
      obtain ⟨v, H', I3, rv, ev, q3⟩ := I2.after hq'
      subst ev
      exact ⟨rv, ⟨V.ref (s.heap.objs.size + 1), H', I3, rfl, q3⟩⟩
    | next => exact False.elim hq'
    | brk => exact False.elim hq'
    | cont => exact False.elim hq'
theorem pe_mkKW (G : GKK P w K mg base x n ks k F) (hr : RoomG (k + 1) X.A) (hg : Gl X x) (tk : Takes X W) (he : PE X e te) (hX : Same5 X P w K mg base := by exact ⟨rfl, rfl, rfl, rfl, rfl⟩) (hdb : (x == ("__debug__" : Str)) = false := by decide) :
    PE X (.Call (.Name x p) [] [⟨none, e, kp⟩] pos) (tMakeKW K x n F ks W te) := by
  obtain ⟨rfl, rfl, rfl, rfl, rfl⟩ := hX
  obtain ⟨f, fd, ps, g, Fo, M, hm, hb⟩ := G.ex
  refine ⟨fun pins s σ H Q I h => ?_⟩
  refine wpAny_Call_Name_kw (ld_glob I hg hm ?_ hdb)
  show wpAny _ _ (callWith pos (.ref (He.ga X.K x)) [] [] [(none, do let v ← eval e X.env; standAt pos; pure v)]) _ _ _
  refine callWith_dd (Pr := fun h => X.K.In h) (PySem.W.keeps_K M.kp) (args_dd ?_)
  have hn := I.hok.fresh (Nat.le_refl s.heap.objs.size)
  have I1 := I.laid (a := s.heap.objs.size) (o := .dK []) (h' := s.heap.push { cls := .type "dict", data := .dict #[] }) (t' := s.toks) (fun _ _ q => Heap.get?_push_of_some _ q) (Nat.le_refl _) (dk_empty s.heap I.big)
  refine wpAny_bind (thn (he.run pins _ σ _ _ I1 (h _ hn)) fun m s1 ⟨y, H1, I2, rx, a, kvs, ex, nap, hp, ha, hk, hks, q1⟩ => ?_)
  refine wpAny_bind (wpAny_standAt (wpAny_pure ?_))
  subst ex
  obtain rfl : m = Value.ref a := rx
  obtain ⟨_, hd, vs0, r0, dd⟩ := dk_of I2.hok hp
  cases r0
  obtain ⟨_, hda, vsa, ra, da⟩ := dk_rd I2.hok ha
  have lva : vsa.length = kvs.length := ra.length.symm
  refine merge_mapU (Ne.symm nap) hda dd da (fun h' d1 d2 sb => ?_) (by rw [lva, sizeLine_eq]; omega)
  have I3 : Inv X pins σ (upd H1 s.heap.objs.size (.dK kvs)) { s1 with heap := h' } := d_write (t' := s1.toks) I2 (by rw [hp]; exact True.intro) sb (let ⟨q, _, _, hq, _⟩ := d1; ⟨q, hq⟩) (dk_new (by rw [sizeLine_eq]; omega) hd ra d1)
  refine kwIn d1 ((kv_keys ra).symm.trans hks) ⟨I3.kIn, ?_⟩
  have l2 : (kvs.map (·.2)).length = ks.length := by
    have := congrArg List.length hks
    simpa using this
  exact run_makeK (us := []) (vs := []) M Fo hr hb (passAt tk σ) I3 .nil (kv_vals ra) rfl l2 q1
end
end Fx

set_option Elab.async false
set_option linter.all false
set_option autoImplicit false
set_option maxRecDepth 100000
set_option maxHeartbeats 4000000
namespace Fx
open PySem L2 PySem.W PySem.Calls PyProof.Rows PySem.HandSPX
/-! ## own errors: def __init__(self, f): super().__init__(f); self.f = f -/
def iA (f : Str) (p1 p2 : Pos) : Arguments := { posonlyargs := [], args := [{ arg := "self", annotation := none, pos := p1 }, { arg := f, annotation := none, pos := p2 }], vararg := none, kwonlyargs := [], kw_defaults := [], kwarg := none, defaults := [] }
def iB (f : Str) (a1 a2 a3 a4 a5 a6 q1 q2 q3 q4 : Pos) : List Stmt := [.Expr (.Call (.Attribute (.Call (.Name "super" a1) [] [] a2) "__init__" a3) [.Name f a4] [] a5) a6, .Assign [.Attribute (.Name "self" q1) f q2] (.Name f q3) q4]
def iS (f : Str) : Scope := { kind := .function, names := [("self", .local), (f, .local), ("__class__", .free), ("super", .globalImplicit)], isGenerator := false, isCoroutine := false, more := [] }
/-- a name that is none of the others -/
structure FldOk (f : Str) : Prop where
  lk : (iS f).names.lookup f = some .local
  cl : (iS f).names.lookup ("__class__" : Str) = some NameKind.free
  su : (iS f).names.lookup ("super" : Str) = some NameKind.globalImplicit
  ns : (("self" : Str) == f) = false
  nd : (f == ("__debug__" : Str)) = false
  bd : ∀ (qual : Str) (p1 p2 : Pos) (body : List Stmt) (sc : Scope) (doc pm : Value) (an : Option Addr) (cdv ct : Value) (cc : Addr) (a b : Value), bindArgs (ksFn "__init__" qual (iA f p1 p2) body sc .none .none doc pm an cdv ct cc) ⟨[a, b], []⟩ = pure [(("self" : Str), a), (f, b)]
/-- super().__init__(f), written in one line -/
theorem ev_super {f : Str} {env : Env} {a1 a2 a3 a4 a5 : Pos} (h : (a3.endLine == a5.line) = true) : eval (.Call (.Attribute (.Call (.Name "super" a1) [] [] a2) "__init__" a3) [.Name f a4] [] a5) env = (do
      let ov ← attributeBase (.Call (.Name "super" a1) [] [] a2) "__init__" env (eval (.Call (.Name "super" a1) [] [] a2) env)
      standAt a3.atName
      let (f1, first) ← holding [ov] (getMethod ov "__init__" (do return (← importBound (.Call (.Name "super" a1) [] [] a2) env).getD true))
      callWith a5 f1 first (backTo a5 (starEach [.Name f a4] env)) []) := by
  rw [arm_eval_Call]
  unfold methodCall methodCallPos
  rw [h]
  rfl
structure SupTxt (P : Program) (K : Frag) (mg : Str → Option Value) (x fld : Str) (C fI : Addr) : Prop where
  ok : FldOk fld
  gC : mg x = some (.ref C)
  cls : ∃ nm q N bs bm sn sub ab col dd k0 k1 k2 k3 k5, K.lookup C = some (excClassObj nm q C N bs bm true sn sub ab col dd k0 k1 k2 k3 k5 "ValueError.__new__") ∧ refsVE bm = true
  sa : findIn K (.ref C) "__setattr__" = some (some (.builtin "object.__setattr__"))
  ga : findIn K (.ref C) "__getattribute__" = some (some (.builtin "BaseException.__getattribute__"))
  gg : findIn K (.ref C) "__getattr__" = some none
  noN : findIn K (.ref C) fld = some none
  iC : findIn K (.ref C) "__init__" = some (some (.ref fI))
  tC : typeIn K (.ref fI) = some (.type "function")
  kC : keepIn K (.ref C) = true
  exC : subIn K (.ref C) (.type "BaseException") = some true
  tyC : typeIn K (.ref C) = some (.type "type")
  hdC : hasDictIn K C = true
  te : exmOne K (.ref C) (.ref C) = some true
  sup : ks_superIn K C C "__init__" = some (some (.builtin "ValueError.__init__"))
  subV : subIn K (.ref C) (.type "ValueError") = some true
  own : mroIn K C (.ref C) = some true
  opq : nsIn K cStatics "thirdparty.any" = some none
  nosup : mg "super" = none
  top : (P.main.scope.names.lookup ("super" : Str)).isSome = false
  fn : ∃ (qual : Str) (oc : Value) (od : Option Addr) (doc pm : Value) (an : Option Addr) (cda : Addr) (ct : Value) (osl : Array (Option Value)) (cc : Addr) (p1 p2 a1 a2 a3 a4 a5 a6 q1 q2 q3 q4 : Pos) (ccl : Value) (cdd : Option Addr) (vs : Array Value) (ccs : Array (Option Value)) (file : Str) (tf : Tok) (cl : Value) (cld : Option Addr) (csl : Array (Option Value)),
    (a3.endLine == a5.line) = true ∧ K.lookup fI = some ⟨oc, od, .func (ksFn "__init__" qual (iA fld p1 p2) (iB fld a1 a2 a3 a4 a5 a6 q1 q2 q3 q4) (iS fld) .none .none doc pm an (.ref cda) ct cc), osl⟩ ∧ codeIn K (.ref cda) qual = true ∧
    K.lookup cda = some ⟨ccl, cdd, .fields vs, ccs⟩ ∧ vs[2]? = some (.str file tf) ∧ ((P.main.file : Str) == file) = true ∧ K.lookup cc = some ⟨cl, cld, .cell (some (.ref C)), csl⟩
/-- what __init__ leaves of a fresh exception at x -/
structure InitEnd (h h' : Heap) (x C dx t1 : Addr) (fld : Str) (v : Value) : Prop where
  keep : ∀ b o, b ≠ x → h.get? b = some o → h'.get? b = some o
  obj : h'.get? x = some { cls := .ref C, dict := some dx, data := .fields #[.ref t1, .none, .none, .none, .bool false, .none] }
  dbig : h.objs.size ≤ dx
  dne : dx ≠ x
  ns : h'.Ns1 dx (fun y => if y = fld then some v else none)
section
variable {prog : Program} {w : World} {A : Around} {R : Result → Shared → Prop} {s : Shared} {K : Frag} {mg mb : Str → Option Value} {xn fld : Str} {C fI : Addr}
theorem sup_init (T : SupTxt prog K mg xn fld C fI) {x t0 : Addr} {v : Value} (X : K.In s.heap) (hg : s.heap.Ns mainGlobals mg) (hb : s.heap.Ns builtinsNs mb) (hmb : mb "super" = some (.type "super")) (hlim : s.heap.NoLimit) (hx : s.heap.get? x = some (excO C t0)) (hnx : K.lookup x = none) (hroom : A.depth < recursionLimit)
    (hq : ∀ h' tk dx t1, InitEnd s.heap h' x C dx t1 fld v → R (.ok (.ret .none)) { s with heap := h', toks := tk }) :
    codeAny (model prog w) A (.call (.ref fI) ⟨[.ref x, v], []⟩) R s := by
  obtain ⟨qual, oc, od, doc, pm, an, cda, ct, osl, cc, p1, p2, a1, a2, a3, a4, a5, a6, q1, q2, q3, q4, ccl, cdd, vs, ccs, file, tf, cl, cld, csl, hln, ho, hcd, hcode, hvs, hfile, hcell⟩ := T.fn
  obtain ⟨nm, q, N, bs, bm, sn, sub, ab, col, dd, k0, k1, k2, k3, k5, hC, hbm⟩ := T.cls
  have hcl : clsIn K C = some { name := nm, bases := bs, mro := .ref C :: bm, ns := N, qualname := q, hasDict := true, slotNames := sn, subclasses := sub, abstract := ab, collection := col, hasDel := false } := by unfold clsIn; rw [hC] <;> rfl
  have hxC : x ≠ C := fun z => by rw [z, hC] at hnx; cases hnx
  refine ks_codeAny_call_defAt (fd := ksFn "__init__" qual (iA fld p1 p2) (iB fld a1 a2 a3 a4 a5 a6 q1 q2 q3 q4) (iS fld) .none .none doc pm an (.ref cda) ct cc) (body := iB fld a1 a2 a3 a4 a5 a6 q1 q2 q3 q4) (binds := [("self", .ref x), (fld, v)])
    hroom (X _ _ ho) rfl hlim (codeRec_of X hcd) rfl (BindsTo.of_eq ?_) ?_ ?_ (fun h₁ hns hk₁ => ?_) rfl rfl rfl
  · exact T.ok.bd _ _ _ _ _ _ _ _ _ _ _ _ _
  · intro y hy
    simp only [iS, List.mem_cons, List.not_mem_nil, or_false] at hy
    rcases hy with rfl | rfl | rfl | rfl <;> exact fun z => by cases z
  · intro y hy
    simp only [List.mem_cons, List.not_mem_nil, or_false] at hy
    rcases hy with rfl | rfl
    · rfl
    · exact T.ok.lk
  have X₁ : K.In h₁ := X.keeps hk₁
  have hx₁ := hk₁ _ _ hx
  have mself : (fun y => ([("self", Value.ref x), (fld, v)] : List (Str × Value)).reverse.lookup y) "self" = some (.ref x) := by
    show List.lookup ("self" : Str) [(fld, v), ("self", Value.ref x)] = _
    simp [List.lookup, T.ok.ns]
  have mfld : (fun y => ([("self", Value.ref x), (fld, v)] : List (Str × Value)).reverse.lookup y) fld = some v := by
    show List.lookup fld [(fld, v), ("self", Value.ref x)] = _
    simp [List.lookup]
  show PySem.wpAt _ _ _ (execs _ _) _ _ _
  have hev := ev_super (f := fld) (env := ksEnv qual (iS fld) s.heap.objs.size fI (.ref cda) cc) (a1 := a1) (a2 := a2) (a4 := a4) hln
  refine ks_wpAt_execs_cons (ks_wpAt_Expr_any (ks_wpAt_MethodCall ?_ hev))
  refine ks_wpAt_super_base (env := ksEnv qual (iS fld) s.heap.objs.size fI (.ref cda) cc) T.ok.su T.ok.cl (by decide) rfl (X₁ _ _ ho) rfl rfl rfl (X₁ _ _ hcode) rfl hvs hfile T.top ?_
  refine ks_loadName_global rfl T.ok.su (loadGlobal_builtin (env := ksEnv qual (iS fld) s.heap.objs.size fI (.ref cda) cc) (hg.keeps hk₁) T.nosup (hb.keeps hk₁) hmb ⟨rfl, ?_⟩)
  refine wpAny_loadName_free rfl T.ok.cl rfl ⟨_, X₁ _ _ hcell, rfl⟩ ?_
  refine wpAny_loadName_local rfl rfl hns mself ?_
  have hC₁ := X₁ _ _ hC
  have hxd : ∀ c, (excO C t0).data ≠ .cls c := fun c z => by cases z
  refine ks_wpAny_isType_cls hC₁ rfl ⟨rfl, ?_⟩
  refine ks_wpAny_call_super hC₁ rfl hx₁ rfl hxd (looks_mroIn X₁ T.own) (fun h₂ hso hk₂ => ?_)
  have X₂ : K.In h₂ := X₁.keeps hk₂
  have hx₂ := hk₂ _ _ hx₁
  have I₂ : InstAt h₂ x (excO C t0) C none := ⟨hx₂, rfl, rfl, trivial⟩
  have hI : Looks (model prog w) h₂ (isInstance (.ref x) (.type "ValueError")) true := I₂.type.andThen (looks_subIn X₂ T.subV)
  have hsup := T.sup
  unfold ks_superIn at hsup
  rw [hcl, Option.bind_some] at hsup
  refine kxs_getMethod kxs_ValueError hso (looks_opaque X₂ T.opq) (fun A Q E s k q => wpAny_bind ((looks_clsIn X₂ hcl) A _ E s k (wpAny_pure q))) rfl X₂ hsup hI hxC (by decide) ?_
  have hk₃ : ∀ b o, h₂.get? b = some o → (h₂.push (kxs_mw "ValueError.__init__" x)).get? b = some o := fun b o e => Heap.get?_push_of_some _ e
  have hu : (h₂.push (kxs_mw "ValueError.__init__" x)).get? h₂.objs.size = some (kxs_mw "ValueError.__init__" x) := Heap.get?_push_at rfl rfl
  have hns₃ : (h₂.push (kxs_mw "ValueError.__init__" x)).Ns s.heap.objs.size (fun y => ([("self", Value.ref x), (fld, v)] : List (Str × Value)).reverse.lookup y) := (hns.keeps hk₂).keeps hk₃
  refine kxs_callWith (i := "ValueError.__init__") (x := x) rfl ?_
  refine evalArgs_plain ?_
  show wpAny _ _ (spliced ((false, eval (.Name fld a4) (ksEnv qual (iS fld) s.heap.objs.size fI (.ref cda) cc)) :: backTo a5 (starEach [] (ksEnv qual (iS fld) s.heap.objs.size fI (.ref cda) cc)))) _ _ _
  refine Calls.spliced_cons (wpAny_Name (wpAny_loadName_local rfl T.ok.lk hns₃ mfld ?_) T.ok.nd)
  show wpAny _ _ (spliced []) _ _ _
  rw [spliced]
  refine wpAny_pure ⟨hu, ?_⟩
  have X₃ := X₂.keeps hk₃
  have hC₃ := X₃ _ _ hC
  have hx₃ := hk₃ _ _ hx₂
  have FB := F.excBase_ValueError
  refine wpAny_call (codeAny_of_tree ?_)
  show wpAny _ _ (callAny (.ref h₂.objs.size) ⟨[v], []⟩) _ _ _
  simp only [callAny]
  refine wpAny_bind (wpAny_load hu ?_)
  simp only [kxs_mw, show (Value.type "method-wrapper" == Value.type "method" || Value.type "method-wrapper" == Value.type "builtin_function_or_method" || Value.type "method-wrapper" == Value.type "method-wrapper") = true by decide, if_true]
  refine KFB.if_so (by decide) ?_
  refine wpAny_bind (check_bound_init FB.toExcCallFacts hC₃ hx₃ rfl ?_)
  refine wpAny_bind (wpAny_pure (wpAny_pure ?_))
  refine ⟨plainId_quiet FB.init.plain _, codeAny_builtin FB.initEntry ?_⟩
  refine exc_init_tree (cls := .ref C) (t0 := t0) (dv := none) (c2 := .none) (c3 := .none) (b4 := .bool false) hx₃ (by rw [sizeLine_eq]; exact (by decide : 1 ≤ 16777216)) (fun h₄ hk₄ hx₄ _ => ?_)
  have hxL : s.heap.objs.size ≠ x := Nat.ne_of_gt (Heap.lt_size hx)
  have X₄ : K.In h₄ := fun a o e => hk₄ a o (fun z => by rw [z] at e; rw [hnx] at e; cases e) (X₃ a o e)
  have hns₄ : h₄.Ns s.heap.objs.size (fun y => ([("self", Value.ref x), (fld, v)] : List (Str × Value)).reverse.lookup y) := by
    obtain ⟨oL, es, ep, hL, r⟩ := hns₃
    exact ⟨oL, es, ep, hk₄ _ _ hxL hL, r⟩
  show PySem.wpAt _ _ _ (execs _ _) _ _ _
  refine ks_wpAt_execs_cons (ks_wpAt_Assign_Attr (wpAt_of_wpAny ?_))
  refine wpAny_Name (wpAny_loadName_local rfl T.ok.lk hns₄ mfld ?_) T.ok.nd
  refine wpAny_Name (wpAny_loadName_local rfl rfl hns₄ mself ?_) (by decide)
  refine set_plain X₄ (ox := excO C (h₂.push (kxs_mw "ValueError.__init__" x)).objs.size) (od := none) ⟨hx₄, rfl, rfl, trivial⟩ T.sa ?_
  refine exc_osa X₄ hx₄ hcl (show refsVE (.ref C :: bm) = true from hbm) rfl T.noN (fun h₅ tk₅ dx k₅ dn dne hx₅ hn₅ => ?_)
  show PySem.wpAt _ _ _ (execs _ _) _ _ _
  refine wpAt_of_wpAny (wpAny_execs_nil ?_)
  refine hq h₅ tk₅ dx _ ⟨fun b o hb e => k₅ b o hb (hk₄ b o hb (hk₃ b o (hk₂ b o (hk₁ b o e)))), hx₅, Nat.le_of_lt (Nat.lt_of_lt_of_le hns₄.lt dn), dne, hn₅⟩
/-- a made error -/
structure OwnMade (h h' : Heap) (e C d : Addr) (fld : Str) (v : Value) : Prop where
  keep : ∀ b o, h.get? b = some o → h'.get? b = some o
  new : h.objs.size ≤ e
  obj : ∃ oe vs, h'.get? e = some oe ∧ oe.cls = .ref C ∧ oe.dict = some d ∧ oe.data = .fields vs ∧ vs[1]? = some .none
  dbig : h.objs.size ≤ d
  dne : d ≠ e
  ns : h'.Ns1 d (fun y => if y = fld then some v else none)
  six : ∃ t1, h'.get? e = some { cls := .ref C, dict := some d, data := .fields #[.ref t1, .none, .none, .none, .bool false, .none] }
theorem sup_made (T : SupTxt prog K mg xn fld C fI) {v : Value} (X : K.In s.heap) (hg : s.heap.Ns mainGlobals mg) (hb : s.heap.Ns builtinsNs mb) (hmb : mb "super" = some (.type "super")) (hlim : s.heap.NoLimit) (hroom : A.depth + 1 < recursionLimit)
    (hq : ∀ h' tk e d, OwnMade s.heap h' e C d fld v → R (.ok (.ret (.ref e))) { s with heap := h', toks := tk }) :
    codeAny (model prog w) A (.call (.ref C) ⟨[v], []⟩) R s := by
  obtain ⟨nm, q, N, bs, bm, sn, sub, ab, col, dd, k0, k1, k2, k3, k5, hC, hbm⟩ := T.cls
  obtain ⟨hp, g, dr, tk, os⟩ := s
  have k : ∀ b o, hp.get? b = some o → ((hp.push (kdv_tup [v])).push (excO C hp.objs.size)).get? b = some o := fun b o e => Heap.get?_push_of_some _ (Heap.get?_push_of_some _ e)
  have hget : ((hp.push (kdv_tup [v])).push (excO C hp.objs.size)).get? (hp.objs.size + 1) = some (excO C hp.objs.size) := by heap_get
  have hnx : K.lookup (hp.objs.size + 1) = none := by
    cases e : K.lookup (hp.objs.size + 1) with
    | none => rfl
    | some o =>
      have z : hp.get? (hp.objs.size + 1) = some o := X _ _ e
      exact absurd (Nat.lt_of_succ_lt (Heap.lt_size z)) (Nat.lt_irrefl _)
  have h1 : [v].length ≤ sizeLine := by rw [sizeLine_eq]; exact (by decide : 1 ≤ 16777216)
  refine call_own F.excBase_ValueError (fun X => refsVE_contains X bm hbm) (X _ _ hC) (looks_findIn X T.iC) (fun self => bind_fn X self T.tC) h1 ?_
  refine sup_init (s := ⟨(hp.push (kdv_tup [v])).push (excO C hp.objs.size), g, dr, tk, os⟩) T (X.keeps k) (hg.keeps k) (hb.keeps k) hmb (hlim.keeps k) hget hnx ?_ fun h' tk' dx t1 ⟨k', hx, dn, dne, hns⟩ => ?_
  · show A.depth + 1 < recursionLimit
    exact hroom
  · have old : ∀ b o, hp.get? b = some o → h'.get? b = some o := fun b o e => k' b o (Nat.ne_of_lt (Nat.lt_succ_of_lt (Heap.lt_size e))) (k b o e)
    have z : hp.objs.size + 1 + 1 ≤ dx := by
      first
        | (simpa only [Heap.size_push] using dn)
        | exact dn
        | (have q := dn; rw [Heap.size_push, Heap.size_push] at q; exact q)
    exact ⟨rfl, hq h' tk' (hp.objs.size + 1) dx ⟨old, Nat.le_succ _, ⟨_, _, hx, rfl, rfl, rfl, rfl⟩, Nat.le_trans (Nat.le_trans (Nat.le_succ _) (Nat.le_succ _)) z, dne, hns, ⟨_, hx⟩⟩⟩
end
end Fx

set_option Elab.async false
set_option linter.all false
set_option autoImplicit false
set_option maxRecDepth 100000
set_option maxHeartbeats 4000000
namespace Fx
open PySem PySem.Spec PyProof.Rows L2
theorem relO_fld {fld : Str} {v : V} {v' : Value} (r : RelV v v') (f : Str) : RelO (List.lookup f [(fld, v)]) (if f = fld then some v' else none) := by
  by_cases hw : f = fld
  · subst hw
    rw [if_pos rfl]
    have q : List.lookup f [(f, v)] = some v := by simp [List.lookup]
    rw [q]
    exact r
  · rw [if_neg hw]
    have qw : (f == fld) = false := by simpa using hw
    have q2 : List.lookup f [(fld, v)] = none := by simp [List.lookup, qw]
    rw [q2]
    trivial
section
variable {X : Cx} {C fI : Addr} {x fld : Str}
/-- x(e), an own error -/
def tMkSup (C : Addr) (fld : Str) (ta : TA) : L2.St → Hp → XK → Prop := fun σ H Q => ta σ H fun vs H1 => ∃ v, vs = [v] ∧ ∀ d, H1 d = none → Q (.ref C) (some d) (upd H1 d (.xd [(fld, v)]))
theorem pmk_sup {a : Expr} {ta : TA} {p pos : Pos} {k : Nat} (T : SupTxt X.prog X.K X.mg x fld C fI) (hr : RoomG k X.A) (ha : PA X [a] ta) (hg : Gl X x) (hdb : (x == ("__debug__" : Str)) = false := by decide)
    (he : starEach (a :: []) X.env = (false, eval a X.env) :: starEach [] X.env := by rfl) (hpl : (backTo pos (starEach [] X.env)).any (·.1) = false := by rfl) :
    PMk X (.Call (.Name x p) [a] [] pos) (tMkSup C fld ta) := by
  intro pins s σ H Q I h
  refine wpAny_Call_Name_kw (ld_glob I hg T.gC ?_ hdb)
  refine PySem.W.callWith_K (h₀ := X.base) I.ok.mod.kin T.kC (thn (ha.run pos pins s σ H _ I h) fun us s1 hh => ?_) he hpl
  obtain ⟨vs, H1, I1, r1, v, ev, q1⟩ := hh
  subst ev
  refine ⟨I1.kIn, ?_⟩
  cases r1 with
  | cons rv rn =>
    rename_i v' us'
    cases rn
    show wpAny _ _ (call (.ref C) [v']) _ _ _
    have hlim := I1.nolimit
    have kb : ∀ b o, X.base.get? b = some o → s1.heap.get? b = some o := fun b o e => (I1.env0.bs b o e).1
    obtain ⟨mb, hmb1, hmb2⟩ := I1.ok.mod.blt
    have hgl : s1.heap.Ns mainGlobals X.mg := I1.ok.mod.glob.keeps kb
    have hbl : s1.heap.Ns builtinsNs mb := hmb1.keeps kb
    have hms : mb "super" = some (.type "super") := (hmb2 _ (by decide +kernel)).trans (by decide +kernel)
    obtain ⟨hp, g, dr, tk, os⟩ := s1
    refine wpAny_call (sup_made T I1.kIn hgl hbl hms hlim (by have := hr.r.dp; omega) fun h' tk' e d M => ?_)
    show MkP X pins σ Q (.ref e) ⟨h', g, dr, tk', os⟩
    obtain ⟨oe, fv, hoe, hc, hd, hdat, h1⟩ := M.obj
    have hns := M.ns
    obtain ⟨G', g1, g2⟩ := restrict h' fun b => decide (b ≠ e)
    have gk : ∀ b, b ≠ e → G'.get? b = h'.get? b := fun b hb => g1 b (decide_eq_true hb)
    have ge : G'.get? e = none := g2 e (by simp)
    have old : ∀ b o, hp.get? b = some o → G'.get? b = some o := fun b o q => (gk b (Nat.ne_of_lt (Nat.lt_of_lt_of_le (Heap.lt_size q) M.new))).trans (M.keep b o q)
    have ob : ObjOk X.prog X.w (upd H1 d (.xd [(fld, v)])) G' d (.xd [(fld, v)]) :=
      ⟨_, hns.at (fun o q => (gk d M.dne).trans q), fun f => relO_fld rv f⟩
    have J : Inv X pins σ (upd H1 d (.xd [(fld, v)])) ⟨G', g, dr, tk', os⟩ := I1.laid (t' := tk') old M.dbig ob
    refine ⟨e, oe, fv, ⟨G', g, dr, tk', os⟩, _, .ref C, some d, rfl, J, fun b o q => ?_, ge, hoe, ⟨hc, hd⟩, hdat, h1, ?_, rfl, I1.bare, raises_own T.exC T.tyC, q1 d (I1.hok.fresh M.dbig)⟩
    · by_cases hb : b = e
      · have q' : G'.get? b = some o := q
        rw [hb, ge] at q'; cases q'
      · exact (gk b hb).symm.trans q
    · rw [upd_ne (Ne.symm M.dne)]
      exact I1.hok.fresh M.new
/-- raise x(e) -/
def tRaiseSup (C : Addr) (fld : Str) (W : WX) (ta : TA) : TS := fun _ σ H => tMkSup C fld ta σ H fun cls d H' => W cls d σ H'
theorem ps_raiseSup {a : Expr} {ta : TA} {W : WX} {p pos pos2 : Pos} {k : Nat} (hc : X.calm = true) (T : SupTxt X.prog X.K X.mg x fld C fI) (hr : RoomG k X.A) (tk : Takes X W) (ha : PA X [a] ta) (hg : Gl X x) (hdb : (x == ("__debug__" : Str)) = false := by decide)
    (he : starEach (a :: []) X.env = (false, eval a X.env) :: starEach [] X.env := by rfl) (hpl : (backTo pos (starEach [] X.env)).any (·.1) = false := by rfl) :
    PS X (.Raise (some (.Call (.Name x p) [a] [] pos)) none pos2) (tRaiseSup C fld W ta) := ps_raise hc tk (pmk_sup T hr ha hg hdb he hpl)
/-- e.f, e the exception that the suite holds (at a; its class cls, its dict d) -/
def tBySup (C : Addr) (fld : Str) (a : Addr) (cls : Value) (d : Option Addr) (te : TE) : TE := fun σ H Q => te σ H fun y H1 => y = .ref a ∧ cls = .ref C ∧ ∃ (dd : Addr) (v : V), d = some dd ∧ H1 dd = some (.xd [(fld, v)]) ∧ Q v H1
theorem pe_bySup {a : Addr} {oe : Obj} {cls : Value} {d : Option Addr} {pn : List (Addr × Obj)} {e : Expr} {te : TE} {pos : Pos} (T : SupTxt X.prog X.K X.mg x fld C fI) (hz : Zc cls d oe) (hf : ∃ vs, oe.data = .fields vs) (he : PE (X.suite a ((a, oe) :: pn)) e te)
    (hb : attributeBase e fld X.env (eval e X.env) = eval e X.env := by rfl) :
    PE (X.suite a ((a, oe) :: pn)) (.Attribute e fld pos) (tBySup C fld a cls d te) := by
  refine ⟨fun pins s σ H Q I h => ?_⟩
  refine attr_of hb (thn (he.run pins s σ H _ I h) fun u s1 hh => ?_)
  obtain ⟨y, H1, I1, rx, ex, ec, dd, v, ed, ea, q⟩ := hh
  subst ex
  obtain rfl : u = Value.ref a := rx
  subst ec
  subst ed
  obtain ⟨ha, _⟩ := I1.pin (a, oe) (List.mem_append_left _ List.mem_cons_self)
  obtain ⟨vs, hd⟩ := hf
  have hx : ObjOk X.prog X.w H1 s1.heap dd (.xd [(fld, v)]) := I1.hok dd _ ea
  obtain ⟨mA, hns, hr⟩ := hx
  obtain ⟨od, ho, hl⟩ := lookIn_ns hns
  have l : List.lookup fld [(fld, v)] = some v := by simp [List.lookup]
  obtain ⟨u, hu, ru⟩ := RelO.some_of (v := v) (o := mA fld) (by rw [← l]; exact hr fld)
  have J : PySem.W.InstAt s1.heap a oe C (some od) := ⟨ha, hz.1, by unfold PySem.W.notCls; rw [hd] <;> rfl, by rw [hz.2]; exact ho⟩
  exact HandSPX.exc_get I1.kIn J T.ga T.gg T.exC (PySem.W.findObj_own T.hdC T.noN rfl (by rw [hl, hu])) (handed_of ru) ⟨v, H1, I1.tok _, ru, q⟩
end
end Fx

set_option Elab.async false
set_option linter.all false
set_option autoImplicit false
set_option maxRecDepth 100000
set_option maxHeartbeats 4000000
namespace Fx
open PySem PySem.Spec PySem.W PySem.Calls PyProof.Rows L2
section
variable {prog : Program} {w : World} {A : Around} {E : Value → Shared → Prop} {s : Shared} {K : Frag} {x D : Addr} {ox : Obj} {od : Option Obj}
end
end Fx

set_option Elab.async false
set_option linter.all false
set_option autoImplicit false
set_option maxRecDepth 100000
set_option maxHeartbeats 2000000
namespace Fx
open PySem L2
/-! ## outcomes, step by step -/
section
variable {δ : Sta} {Ψ : SV → Sta → Prop} {Ξ : Xn → Sta → Prop} {Ψb : Bool → Sta → Prop} {Ψl : List SV → Sta → Prop} {Φ : Post} {a b e : AE} {t u : AT} {r : AA} {p q : AS}
theorem s_c {d : D} (h : Ψ (.im d) δ) : (aC d δ).sat Ψ Ξ := h
theorem s_var {i : Nat} {s : SV} (hs : δ.sl[i]? = some s) (hn : s ≠ .no) (h : Ψ (nrm δ.ce s) δ) : (aVar i δ).sat Ψ Ξ := by
  unfold aVar
  rw [hs]
  cases s with
  | no => exact absurd rfl hn
  | im d => exact h
  | cl c => exact h
theorem s_varI {i : Nat} {d : D} (hs : δ.sl[i]? = some (.im d)) (h : Ψ (.im d) δ) : (aVar i δ).sat Ψ Ξ := s_var hs (fun z => by cases z) h
theorem s_varC {i c : Nat} {s : SV} (hs : δ.sl[i]? = some (.cl c)) (hn : nrm δ.ce (.cl c) = s) (h : Ψ s δ) : (aVar i δ).sat Ψ Ξ := s_var hs (fun z => by cases z) (by rw [hn]; exact h)
theorem sat_of_bind {S α β : Type} {o : Out S α} {f : α → S → Out S β} {Ψ : β → S → Prop} {Ξ : Xn → S → Prop} (h : o.sat (fun a s => (f a s).sat Ψ Ξ) Ξ) : (o.bind f).sat Ψ Ξ := by
  cases o <;> exact h
theorem s_op {o : AOp} (h : (a δ).sat (fun s δ1 => (b δ1).sat (fun t δ2 => (o s t δ2).sat Ψ Ξ) Ξ) Ξ) : (aOp o a b δ).sat Ψ Ξ :=
  sat_of_bind (Out.sat_mono h (fun _ _ h1 => sat_of_bind h1) fun _ _ z => z)
theorem s_dop {f : D → D → Option D} {s t : SV} {x y d : D} (h1 : dv δ.ce s = some x) (h2 : dv δ.ce t = some y) (h3 : f x y = some d) (k : Ψ (.im d) δ) : (dOp f s t δ).sat Ψ Ξ := by
  unfold dOp
  rw [h1, h2]
  dsimp only
  rw [h3]
  exact k
theorem s_nil (h : Ψl [] δ) : (aNil δ).sat Ψl Ξ := h
theorem s_cons (h : (a δ).sat (fun s δ1 => (r δ1).sat (fun ss δ2 => Ψl (s :: ss) δ2) Ξ) Ξ) : (aCons a r δ).sat Ψl Ξ :=
  sat_of_bind (Out.sat_mono h (fun _ _ h1 => sat_of_bind (Out.sat_mono h1 (fun _ _ z => z) fun _ _ z => z)) fun _ _ z => z)
theorem s_test (h : (a δ).sat (fun s δ1 => ∃ b, dv δ1.ce s = some (.bl b) ∧ Ψb b δ1) Ξ) : (aTest a δ).sat Ψb Ξ :=
  sat_of_bind (Out.sat_mono h (fun s δ1 ⟨b, h1, h2⟩ => by rw [h1]; exact h2) fun _ _ z => z)
theorem s_and (h : (t δ).sat (fun b δ1 => (b = true → (u δ1).sat Ψb Ξ) ∧ (b = false → Ψb false δ1)) Ξ) : (aAnd t u δ).sat Ψb Ξ :=
  sat_of_bind (Out.sat_mono h (fun b δ1 h1 => by cases b with
    | false => exact h1.2 rfl
    | true => exact h1.1 rfl) fun _ _ z => z)
theorem s_or (h : (t δ).sat (fun b δ1 => (b = true → Ψb true δ1) ∧ (b = false → (u δ1).sat Ψb Ξ)) Ξ) : (aOr t u δ).sat Ψb Ξ :=
  sat_of_bind (Out.sat_mono h (fun b δ1 h1 => by cases b with
    | false => exact h1.2 rfl
    | true => exact h1.1 rfl) fun _ _ z => z)
theorem s_not (h : (t δ).sat (fun b δ1 => Ψb (!b) δ1) Ξ) : (aNot t δ).sat Ψb Ξ := sat_of_bind h
theorem s_yes (h : Ψb true δ) : (aYes δ).sat Ψb Ξ := h
theorem s_andV (h : (a δ).sat (fun s δ1 => ∃ c, dv δ1.ce s = some (.bl c) ∧ (c = true → (b δ1).sat Ψ Ξ) ∧ (c = false → Ψ (.im (.bl false)) δ1)) Ξ) : (aAndV a b δ).sat Ψ Ξ :=
  sat_of_bind (Out.sat_mono h (fun s δ1 ⟨c, h1, h2, h3⟩ => by rw [h1]; cases c with
    | false => exact h3 rfl
    | true => exact h2 rfl) fun _ _ z => z)
theorem s_orV (h : (a δ).sat (fun s δ1 => ∃ c, dv δ1.ce s = some (.bl c) ∧ (c = true → Ψ (.im (.bl true)) δ1) ∧ (c = false → (b δ1).sat Ψ Ξ)) Ξ) : (aOrV a b δ).sat Ψ Ξ :=
  sat_of_bind (Out.sat_mono h (fun s δ1 ⟨c, h1, h2, h3⟩ => by rw [h1]; cases c with
    | false => exact h3 rfl
    | true => exact h2 rfl) fun _ _ z => z)
theorem s_notV (h : (a δ).sat (fun s δ1 => ∃ c, dv δ1.ce s = some (.bl c) ∧ Ψ (.im (.bl (!c))) δ1) Ξ) : (aNotV a δ).sat Ψ Ξ :=
  sat_of_bind (Out.sat_mono h (fun s δ1 ⟨c, h1, h2⟩ => by rw [h1]; exact h2) fun _ _ z => z)
theorem s_neg (h : (a δ).sat (fun s δ1 => ∃ i, dv δ1.ce s = some (.int i) ∧ Ψ (.im (.int (-i))) δ1) Ξ) : (aNeg a δ).sat Ψ Ξ :=
  sat_of_bind (Out.sat_mono h (fun s δ1 ⟨c, h1, h2⟩ => by rw [h1]; exact h2) fun _ _ z => z)
theorem s_if (h : (t δ).sat (fun c δ1 => (c = true → (a δ1).sat Ψ Ξ) ∧ (c = false → (b δ1).sat Ψ Ξ)) Ξ) : (aIf t a b δ).sat Ψ Ξ :=
  sat_of_bind (Out.sat_mono h (fun c δ1 h1 => by cases c with
    | false => exact h1.2 rfl
    | true => exact h1.1 rfl) fun _ _ z => z)
theorem s_lst (h : (r δ).sat (fun ss δ1 => ss.length ≤ 1000 ∧ ∃ ds, imL δ1.ce ss = some ds ∧ Ψ (.im (.lst ds)) δ1) Ξ) : (aLst r δ).sat Ψ Ξ :=
  sat_of_bind (Out.sat_mono h (fun ss δ1 ⟨h0, ds, h1, h2⟩ => by rw [if_pos h0, h1]; exact h2) fun _ _ z => z)
theorem s_lstC (h : (r δ).sat (fun ss δ1 => ss.length ≤ 1000 ∧ Ψ (.cl δ1.ce.length) ⟨δ1.sl, δ1.ce ++ [.lst ss]⟩) Ξ) : (aLstC r δ).sat Ψ Ξ :=
  sat_of_bind (Out.sat_mono h (fun ss δ1 ⟨h0, h1⟩ => by rw [if_pos h0]; exact h1) fun _ _ z => z)
theorem s_tup (h : (r δ).sat (fun ss δ1 => ss.length ≤ 1000 ∧ ∃ ds, imL δ1.ce ss = some ds ∧ Ψ (.im (.tup ds)) δ1) Ξ) : (aTup r δ).sat Ψ Ξ :=
  sat_of_bind (Out.sat_mono h (fun ss δ1 ⟨h0, ds, h1, h2⟩ => by rw [if_pos h0, h1]; exact h2) fun _ _ z => z)
theorem s_cb {f : ACB} (h : (r δ).sat (fun ss δ1 => (f ss δ1).sat Ψ Ξ) Ξ) : (aCB f r δ).sat Ψ Ξ := sat_of_bind h
theorem s_cb1 {f : D → Option D} {s : SV} {x d : D} (h1 : dv δ.ce s = some x) (h2 : f x = some d) (k : Ψ (.im d) δ) : (dCB1 f [s] δ).sat Ψ Ξ := by
  unfold dCB1
  dsimp only
  rw [h1]
  dsimp only
  rw [h2]
  exact k
theorem s_cb2 {f : D → D → Option D} {s t : SV} (h : (dOp f s t δ).sat Ψ Ξ) : (dCB2 f [s, t] δ).sat Ψ Ξ := h
theorem s_fld {ct : CT} {f : Str} (h : (a δ).sat (fun s δ1 => ∃ C fs d, s = .im (.ins C fs) ∧ fs.lookup f = some d ∧ ct.has C f = true ∧ Ψ (.im d) δ1) Ξ) : (aFld ct a f δ).sat Ψ Ξ :=
  sat_of_bind (Out.sat_mono h (fun s δ1 ⟨C, fs, d, h0, h1, h2, h3⟩ => by subst h0; dsimp only; rw [h1]; dsimp only; rw [if_pos h2]; exact h3) fun _ _ z => z)
theorem s_call {n : Nat} {F : Fn} {dds : List D} (h : (r δ).sat (fun ss δ1 => (ss ++ dds.map SV.im).length = n ∧ (F (ss ++ dds.map SV.im) δ1.ce).sat (fun s ce => Ψ s ⟨δ1.sl, ce⟩) (fun x ce => Ξ x ⟨δ1.sl, ce⟩)) Ξ) : (aCall n F dds r δ).sat Ψ Ξ :=
  sat_of_bind (Out.sat_mono h (fun ss δ1 ⟨h0, h1⟩ => by
    rw [if_pos h0]
    cases q : F (ss ++ dds.map SV.im) δ1.ce <;> rw [q] at h1 <;> exact h1) fun _ _ z => z)
theorem s_meth {tab : MTab} {m : Str} (h : (a δ).sat (fun s δ1 => ∃ C n F, clsS δ1 m s = some C ∧ tab.lookup C = some (n, F) ∧ (r δ1).sat (fun ss δ2 => (s :: ss).length = n ∧ (F (s :: ss) δ2.ce).sat (fun s ce => Ψ s ⟨δ2.sl, ce⟩) (fun x ce => Ξ x ⟨δ2.sl, ce⟩)) Ξ) Ξ) : (aMeth tab m a r δ).sat Ψ Ξ :=
  sat_of_bind (Out.sat_mono h (fun s δ1 ⟨C, n, F, h0, h1, h2⟩ => by
    rw [h0]; dsimp only; rw [h1]; dsimp only
    refine sat_of_bind (Out.sat_mono h2 (fun ss δ2 ⟨h3, h4⟩ => ?_) fun _ _ z => z)
    rw [if_pos h3]
    cases q : F (s :: ss) δ2.ce <;> rw [q] at h4 <;> exact h4) fun _ _ z => z)
theorem s_bm {T : String} {f : ABM} (h : (a δ).sat (fun s δ1 => tyS T δ1 s = true ∧ (r δ1).sat (fun ss δ2 => (f s ss δ2).sat Ψ Ξ) Ξ) Ξ) : (aBM T f a r δ).sat Ψ Ξ :=
  sat_of_bind (Out.sat_mono h (fun s δ1 ⟨h0, h1⟩ => by rw [if_pos h0]; exact sat_of_bind h1) fun _ _ z => z)
theorem s_bm0 {T : String} {f : ABM} (h : (a δ).sat (fun s δ1 => tyS T δ1 s = true ∧ (f s [] δ1).sat Ψ Ξ) Ξ) : (aBM0 T f a δ).sat Ψ Ξ :=
  sat_of_bind (Out.sat_mono h (fun s δ1 ⟨h0, h1⟩ => by rw [if_pos h0]; exact h1) fun _ _ z => z)
theorem s_bm1 {f : D → D → Option D} {s t : SV} (h : (dOp f s t δ).sat Ψ Ξ) : (dBM1 f s [t] δ).sat Ψ Ξ := h
theorem s_bmz {f : D → Option D} {s : SV} {x d : D} (h1 : dv δ.ce s = some x) (h2 : f x = some d) (k : Ψ (.im d) δ) : (dBM0 f s [] δ).sat Ψ Ξ := by
  unfold dBM0
  dsimp only
  rw [h1]
  dsimp only
  rw [h2]
  exact k
theorem s_isi {isi : Isi} {s t : SV} {k c : XC} {d : D} {b : Bool} (h1 : kindS δ s = some k) (h2 : dv δ.ce t = some d) (h3 : clsD d = some c) (h4 : isi.lookup (k, c) = some b) (h : Ψ (.im (.bl b)) δ) : (isiA isi [s, t] δ).sat Ψ Ξ := by
  unfold isiA
  dsimp only
  rw [h1, h2]
  dsimp only
  rw [h3]
  dsimp only
  rw [h4]
  exact h
theorem s_sl {lo hi : AO} (h : (a δ).sat (fun s δ1 => (lo δ1).sat (fun l δ2 => (hi δ2).sat (fun k δ3 => ∃ x d, dv δ3.ce s = some x ∧ slD x l k = some d ∧ (∀ ds, x ≠ .tup ds) ∧ Ψ (.im d) δ3) Ξ) Ξ) Ξ) : (aSl a lo hi δ).sat Ψ Ξ :=
  sat_of_bind (Out.sat_mono h (fun s δ1 h1 => sat_of_bind (Out.sat_mono h1 (fun l δ2 h2 => sat_of_bind (Out.sat_mono h2 (fun k δ3 ⟨x, d, e1, e2, e3, h3⟩ => by
    have key : ∀ {s : SV}, dv δ3.ce s = some x → Out.sat (match dv δ3.ce s with
      | some (.tup _) => (.bad : O SV)
      | some x => (match slD x l k with
        | some d => .ok (.im d) δ3
        | none => .bad)
      | none => .bad) Ψ Ξ := fun {s} e1 => by
      rw [e1]
      cases x with
      | tup ds => exact absurd rfl (e3 ds)
      | _ => dsimp only; rw [e2]; exact h3
    split
    · cases e1; exact absurd rfl (e3 _)
    · exact key e1) fun _ _ z => z)) fun _ _ z => z)) fun _ _ z => z)
theorem s_nopart {Ψo : Option Int → Sta → Prop} (h : Ψo none δ) : (aNoPart δ).sat Ψo Ξ := h
theorem s_part {Ψo : Option Int → Sta → Prop} (h : (a δ).sat (fun s δ1 => ∃ i, dv δ1.ce s = some (.int i) ∧ Ψo (some i) δ1) Ξ) : (aPart a δ).sat Ψo Ξ :=
  sat_of_bind (Out.sat_mono h (fun s δ1 ⟨c, h1, h2⟩ => by rw [h1]; exact h2) fun _ _ z => z)
/-! statements -/
theorem s_next (h : Φ.nx δ) : (aNext δ).sat Φ := h
theorem s_seq (h : (p δ).sat { Φ with nx := fun δ1 => (q δ1).sat Φ }) : (aSeq p q δ).sat Φ := by
  unfold aSeq
  cases hq : p δ <;> rw [hq] at h <;> exact h
theorem s_asg {g : AG} (h : (e δ).sat (fun s δ1 => ∃ δ2, g s δ1 = some δ2 ∧ Φ.nx δ2) Φ.ex) : (aAsg e g δ).sat Φ := by
  unfold aAsg
  cases hq : e δ with
  | ok s δ1 => rw [hq] at h; obtain ⟨δ2, h1, h2⟩ := h; dsimp only; rw [h1]; exact h2
  | ex x δ1 => rw [hq] at h; exact h
  | bad => rw [hq] at h; exact h
theorem s_set {i : Nat} (h : (e δ).sat (fun s δ1 => Φ.nx ⟨δ1.sl.set i s, δ1.ce⟩) Φ.ex) : (aAsg e (gNm i) δ).sat Φ := s_asg (Out.sat_mono h (fun s δ1 h => ⟨_, rfl, h⟩) fun _ _ z => z)
theorem s_ret (h : (e δ).sat Φ.rt Φ.ex) : (aRet e δ).sat Φ := by
  unfold aRet
  cases hq : e δ <;> rw [hq] at h <;> exact h
theorem s_retN (h : Φ.rt (.im .non) δ) : (aRetN δ).sat Φ := h
theorem s_expr (h : (e δ).sat (fun _ δ1 => Φ.nx δ1) Φ.ex) : (aExpr e δ).sat Φ := by
  unfold aExpr
  cases hq : e δ <;> rw [hq] at h <;> exact h
theorem s_ifS (h : (t δ).sat (fun c δ1 => (c = true → (p δ1).sat Φ) ∧ (c = false → (q δ1).sat Φ)) Φ.ex) : (aIfS t p q δ).sat Φ := by
  unfold aIfS
  cases hq : t δ with
  | ok c δ1 => rw [hq] at h; cases c with
    | false => exact h.2 rfl
    | true => exact h.1 rfl
  | ex x δ1 => rw [hq] at h; exact h
  | bad => rw [hq] at h; exact h
theorem s_par {i j : Nat} (h : (r δ).sat (fun ss δ1 => ∃ s t, ss = [s, t] ∧ Φ.nx ⟨(δ1.sl.set i s).set j t, δ1.ce⟩) Φ.ex) : (aPar i j r δ).sat Φ := by
  unfold aPar
  cases hq : r δ with
  | ok ss δ1 => rw [hq] at h; obtain ⟨s, t, rfl, h⟩ := h; exact h
  | ex x δ1 => rw [hq] at h; exact h
  | bad => rw [hq] at h; exact h
theorem s_dput {d k v : AE} (h : (v δ).sat (fun s δ1 => (d δ1).sat (fun z δ2 => ∃ c, z = .cl c ∧ (k δ2).sat (fun y δ3 => ∃ kvs kd kk, δ3.ce[c]? = some (.dic kvs) ∧ dv δ3.ce y = some kd ∧ keyOf kd = some kk ∧ kvs.length < 1000 ∧ Φ.nx ⟨δ3.sl, δ3.ce.set c (.dic (putS kvs kk s))⟩) Φ.ex) Φ.ex) Φ.ex) : (aDput d k v δ).sat Φ := by
  unfold aDput
  cases h1 : v δ with
  | bad => rw [h1] at h; exact h
  | ex x δ1 => rw [h1] at h; exact h
  | ok s δ1 =>
    rw [h1] at h; dsimp only
    have h : (d δ1).sat _ _ := h
    cases h2 : d δ1 with
    | bad => rw [h2] at h; exact h
    | ex x δ1 => rw [h2] at h; exact h
    | ok z δ2 =>
      rw [h2] at h
      obtain ⟨c, rfl, h⟩ := h
      dsimp only
      cases h3 : k δ2 with
      | bad => rw [h3] at h; exact h
      | ex x δ1 => rw [h3] at h; exact h
      | ok y δ3 =>
        rw [h3] at h
        obtain ⟨kvs, kd, kk, e1, e2, e3, e4, h⟩ := h
        dsimp only
        rw [e1, e2]
        dsimp only
        rw [e3]
        dsimp only
        rw [if_pos e4]
        exact h
theorem s_pairs0 {Ψp : List (Key × SV) → Sta → Prop} (h : Ψp [] δ) : (pairsA [] δ).sat Ψp Ξ := h
theorem s_pairs {Ψp : List (Key × SV) → Sta → Prop} {k v : AE} {l : List (AE × AE)} (h : (k δ).sat (fun s δ1 => (v δ1).sat (fun t δ2 => (pairsA l δ2).sat (fun ps δ3 => ∃ kd kk, imS δ3.ce s = some kd ∧ keyOf kd = some kk ∧ Ψp ((kk, t) :: ps) δ3) Ξ) Ξ) Ξ) : (pairsA ((k, v) :: l) δ).sat Ψp Ξ :=
  sat_of_bind (Out.sat_mono h (fun s δ1 h1 => sat_of_bind (Out.sat_mono h1 (fun t δ2 h2 => sat_of_bind (Out.sat_mono h2 (fun ps δ3 ⟨kd, kk, e1, e2, h3⟩ => by rw [e1]; dsimp only; rw [e2]; exact h3) fun _ _ z => z)) fun _ _ z => z)) fun _ _ z => z)
theorem s_disp {l : List (AE × AE)} (h : (pairsA l ⟨δ.sl, δ.ce ++ [.dic []]⟩).sat (fun kvs δ1 => δ1.ce[δ.ce.length]? = some (.dic []) ∧ kvs.length ≤ 15 ∧ Ψ (.cl δ.ce.length) ⟨δ1.sl, δ1.ce.set δ.ce.length (.dic (mergeS [] kvs))⟩) Ξ) : (aDisp l δ).sat Ψ Ξ :=
  sat_of_bind (Out.sat_mono h (fun kvs δ1 ⟨e1, e2, h1⟩ => by rw [e1]; dsimp only; rw [if_pos e2]; exact h1) fun _ _ z => z)
theorem s_rg1 {Ψi : List D → Sta → Prop} (h : (r δ).sat (fun ss δ1 => ∃ s n, ss = [s] ∧ dv δ1.ce s = some (.int n) ∧ (-1000000000 ≤ n ∧ n ≤ 1000000000) ∧ Ψi (rgD 0 n.toNat) δ1) Ξ) : (aRg1 r δ).sat Ψi Ξ :=
  sat_of_bind (Out.sat_mono h (fun ss δ1 ⟨s, n, e0, e1, e2, h1⟩ => by subst e0; dsimp only; rw [e1]; dsimp only; rw [if_pos e2]; exact h1) fun _ _ z => z)
theorem s_rg2 {Ψi : List D → Sta → Prop} (h : (r δ).sat (fun ss δ1 => ∃ s t n m, ss = [s, t] ∧ dv δ1.ce s = some (.int n) ∧ dv δ1.ce t = some (.int m) ∧ ((-1000000000 ≤ n ∧ n ≤ 1000000000) ∧ (-1000000000 ≤ m ∧ m ≤ 1000000000)) ∧ Ψi (rgD n (m - n).toNat) δ1) Ξ) : (aRg2 r δ).sat Ψi Ξ :=
  sat_of_bind (Out.sat_mono h (fun ss δ1 ⟨s, t, n, m, e0, e1, e2, e3, h1⟩ => by subst e0; dsimp only; rw [e1, e2]; dsimp only; rw [if_pos e3]; exact h1) fun _ _ z => z)
theorem s_it {Ψi : List D → Sta → Prop} (h : (a δ).sat (fun s δ1 => ∃ d ds, s = .im d ∧ itD d = some ds ∧ Ψi ds δ1) Ξ) : (aIt a δ).sat Ψi Ξ :=
  sat_of_bind (Out.sat_mono h (fun s δ1 ⟨d, ds, e0, e1, h1⟩ => by subst e0; dsimp only; rw [e1]; exact h1) fun _ _ z => z)
/-! loops -/
theorem s_forL {g : AG} {p : AS} {Φ : Post} (J : Sta → Prop) : ∀ (ds : List D) (δ : Sta), J δ → (∀ d ∈ ds, ∀ δ, J δ → ∃ δ', g (.im d) δ = some δ' ∧ (p δ').sat { Φ with nx := J, ct := J, bk := Φ.nx }) → (∀ δ, J δ → Φ.nx δ) → (forL g p ds δ).sat Φ
  | [], δ, h0, _, h2 => h2 δ h0
  | d :: ds, δ, h0, h1, h2 => by
    obtain ⟨δ', e, h⟩ := h1 d List.mem_cons_self δ h0
    unfold forL
    rw [e]
    dsimp only
    have go : ∀ δ2, J δ2 → (forL g p ds δ2).sat Φ := fun δ2 h => s_forL J ds δ2 h (fun d hd => h1 d (List.mem_cons_of_mem _ hd)) h2
    cases q : p δ' with
    | nx δ2 => rw [q] at h; exact go δ2 h
    | ct δ2 => rw [q] at h; exact go δ2 h
    | bk δ2 => rw [q] at h; exact h
    | rt s δ2 => rw [q] at h; exact h
    | ex x δ2 => rw [q] at h; exact h
    | bad => rw [q] at h; exact h
theorem s_for {it : AI} {g : AG} (J : Sta → Prop) (h : (it δ).sat (fun ds δ1 => J δ1 ∧ ∀ d ∈ ds, ∀ δ, J δ → ∃ δ', g (.im d) δ = some δ' ∧ (p δ').sat { Φ with nx := J, ct := J, bk := Φ.nx }) Φ.ex) (h2 : ∀ δ, J δ → Φ.nx δ) : (aFor it g p δ).sat Φ := by
  unfold aFor
  cases q : it δ with
  | ok ds δ1 => rw [q] at h; exact s_forL J ds δ1 h.1 h.2 h2
  | ex x δ1 => rw [q] at h; exact h
  | bad => rw [q] at h; exact h
theorem s_forLC {g : AG} {p : AS} {Φ : Post} {ce0 : List CO} (J : Sta → Prop) : ∀ (ds : List D) (δ : Sta), J δ → (∀ d ∈ ds, ∀ δ, J δ → ∃ δ', g (.im d) δ = some δ' ∧ (p δ').sat { Φ with nx := fun δ2 => J (cutTurn ce0 δ2), ct := fun δ2 => J (cutTurn ce0 δ2), bk := Φ.nx }) → (∀ δ, J δ → Φ.nx δ) → (forLC ce0 g p ds δ).sat Φ
  | [], δ, h0, _, h2 => h2 δ h0
  | d :: ds, δ, h0, h1, h2 => by
    obtain ⟨δ', e, h⟩ := h1 d List.mem_cons_self δ h0
    unfold forLC
    rw [e]
    dsimp only
    have go : ∀ δ2, J δ2 → (forLC ce0 g p ds δ2).sat Φ := fun δ2 h => s_forLC J ds δ2 h (fun d hd => h1 d (List.mem_cons_of_mem _ hd)) h2
    cases q : p δ' with
    | nx δ2 => rw [q] at h; exact go _ h
    | ct δ2 => rw [q] at h; exact go _ h
    | bk δ2 => rw [q] at h; exact h
    | rt s δ2 => rw [q] at h; exact h
    | ex x δ2 => rw [q] at h; exact h
    | bad => rw [q] at h; exact h
theorem s_forC {it : AI} {g : AG} (J : Sta → Prop) (h : (it δ).sat (fun ds δ1 => J δ1 ∧ ∀ d ∈ ds, ∀ δ, J δ → ∃ δ', g (.im d) δ = some δ' ∧ (p δ').sat { Φ with nx := fun δ2 => J (cutTurn δ1.ce δ2), ct := fun δ2 => J (cutTurn δ1.ce δ2), bk := Φ.nx }) Φ.ex) (h2 : ∀ δ, J δ → Φ.nx δ) : (aForC it g p δ).sat Φ := by
  unfold aForC
  cases q : it δ with
  | ok ds δ1 => rw [q] at h; exact s_forLC J ds δ1 h.1 h.2 h2
  | ex x δ1 => rw [q] at h; exact h
  | bad => rw [q] at h; exact h
theorem s_lcL {g : AG} {t : AT} {e : AE} {sl : List SV} (J : List D → List CO → Prop) : ∀ (ds : List D) (acc : List D) (ce : List CO), J acc ce → (∀ d ∈ ds, ∀ acc ce, J acc ce → ∃ δ1, g (.im d) ⟨sl, ce⟩ = some δ1 ∧ (t δ1).sat (fun b δ2 => (b = true → (e δ2).sat (fun s δ3 => ∃ y ce3, toIm δ3.ce s = some (y, ce3) ∧ J (acc ++ [y]) (cutOr ce ce3)) fun _ _ => False) ∧ (b = false → J acc (cutOr ce δ2.ce))) fun _ _ => False) → ∃ acc' ce', lcL g t e sl ds acc ce = some (acc', ce') ∧ J acc' ce'
  | [], acc, ce, h0, _ => ⟨acc, ce, rfl, h0⟩
  | d :: ds, acc, ce, h0, h1 => by
    obtain ⟨δ1, e1, h⟩ := h1 d List.mem_cons_self acc ce h0
    have go : ∀ acc ce, J acc ce → ∃ acc' ce', lcL g t e sl ds acc ce = some (acc', ce') ∧ J acc' ce' := fun acc ce h => s_lcL J ds acc ce h fun d hd => h1 d (List.mem_cons_of_mem _ hd)
    unfold lcL
    rw [e1]
    dsimp only
    cases q : t δ1 with
    | ok b δ2 =>
      rw [q] at h
      obtain ⟨ht, hf⟩ := h
      cases b with
      | false => exact go _ _ (hf rfl)
      | true =>
        dsimp only
        rw [if_pos rfl]
        have h := ht rfl
        cases q2 : e δ2 with
        | ok s δ3 =>
          rw [q2] at h
          obtain ⟨y, ce3, e3, h⟩ := h
          dsimp only
          rw [e3]
          exact go _ _ h
        | ex x δ3 => rw [q2] at h; exact h.elim
        | bad => rw [q2] at h; exact h.elim
    | ex x δ2 => rw [q] at h; exact h.elim
    | bad => rw [q] at h; exact h.elim
theorem lcL_len {g : AG} {t : AT} {e : AE} {sl : List SV} : ∀ (ds acc : List D) (ce : List CO) (acc' : List D) (ce' : List CO), lcL g t e sl ds acc ce = some (acc', ce') → acc'.length ≤ acc.length + ds.length
  | [], acc, ce, acc', ce', h => by cases h; exact Nat.le_refl _
  | d :: ds, acc, ce, acc', ce', h => by
    unfold lcL at h
    split at h
    · cases h
    · split at h
      · split at h
        · split at h
          · split at h
            · have := lcL_len ds _ _ _ _ h
              simp at this ⊢
              omega
            · cases h
          · cases h
        · have := lcL_len ds _ _ _ _ h
          simp at this ⊢
          omega
      · cases h
theorem s_lc {it : AI} {g : AG} {vs : List Nat} (J : List D → List CO → Prop) (h : (it δ).sat (fun ds δ1 => ds.length ≤ 100000 ∧ J [] δ1.ce ∧ (∀ d ∈ ds, ∀ acc ce, J acc ce → ∃ δ2, g (.im d) ⟨wipeS δ1.sl vs, ce⟩ = some δ2 ∧ (t δ2).sat (fun b δ2 => (b = true → (e δ2).sat (fun s δ3 => ∃ y ce3, toIm δ3.ce s = some (y, ce3) ∧ J (acc ++ [y]) (cutOr ce ce3)) fun _ _ => False) ∧ (b = false → J acc (cutOr ce δ2.ce))) fun _ _ => False) ∧ ∀ acc ce, J acc ce → acc.length ≤ ds.length → Ψ (.im (.lst acc)) ⟨δ1.sl, ce⟩) Ξ) : (aLc it g t e vs δ).sat Ψ Ξ :=
  sat_of_bind (Out.sat_mono h (fun ds δ1 ⟨h0, h1, h2, h3⟩ => by
    rw [if_pos h0]
    obtain ⟨acc, ce, e1, hJ⟩ := s_lcL J ds [] δ1.ce h1 h2
    have hl := lcL_len _ _ _ _ _ e1
    rw [e1]
    exact h3 acc ce hJ (by simpa using hl)) fun _ _ z => z)
/-! defs -/
variable {ss : List SV} {ce : List CO} {Ψf : SV → List CO → Prop} {Ξf : Xn → List CO → Prop} {n : Nat}
@[reducible] def defP (ce : List CO) (Ψf : SV → List CO → Prop) (Ξf : Xn → List CO → Prop) : Post := ⟨fun δ => (retF ce (.im .non) δ.ce).sat Ψf Ξf, fun s δ => (retF ce s δ.ce).sat Ψf Ξf, fun _ => False, fun _ => False, fun x δ => (exF ce x δ.ce).sat Ψf Ξf⟩
@[reducible] def defPC (ce : List CO) (Ψf : SV → List CO → Prop) (Ξf : Xn → List CO → Prop) : Post := ⟨fun δ => (retF ce (.im .non) δ.ce).sat Ψf Ξf, fun s δ => (retC ce s δ.ce).sat Ψf Ξf, fun _ => False, fun _ => False, fun x δ => (exF ce x δ.ce).sat Ψf Ξf⟩
theorem s_def (h : (p ⟨ss ++ List.replicate (n - ss.length) .no, ce⟩).sat (defP ce Ψf Ξf)) : (aDef n p ss ce).sat Ψf Ξf := by
  unfold aDef
  cases q : p ⟨ss ++ List.replicate (n - ss.length) .no, ce⟩ <;> rw [q] at h <;> exact h
theorem s_defC (h : (p ⟨ss ++ List.replicate (n - ss.length) .no, ce⟩).sat (defPC ce Ψf Ξf)) : (aDefC n p ss ce).sat Ψf Ξf := by
  unfold aDefC
  cases q : p ⟨ss ++ List.replicate (n - ss.length) .no, ce⟩ <;> rw [q] at h <;> exact h
theorem s_retF {d : D} {ce' ce2 : List CO} (hc : cutTo ce ce' = some ce2) (h : Ψf (.im d) ce2) : (retF ce (.im d) ce').sat Ψf Ξf := by
  unfold retF
  dsimp only
  rw [hc]
  exact h
theorem cutTo_same {ce ce' : List CO} (h : ce'.length ≤ ce.length) : cutTo ce ce' = some ce' := if_pos h
/-- data: one cell changed, some new ones -/
theorem cutTo_box {b b' : CO} {rest m : List CO} (hb : ∀ k, b'.bnd k = true) : cutTo (b :: rest) (b' :: (rest ++ m)) = some (b' :: rest) := by
  unfold cutTo
  split
  · rename_i h
    have : m = [] := by
      cases m with
      | nil => rfl
      | cons _ _ => simp at h; omega
    subst this
    simp
  · rw [if_pos ?_]
    · simp
    · show okAll _ _ _ = true
      simp only [okAll, hb, Bool.or_true, Bool.true_and]
      exact okAll_app _ _ _ _ (okAll_self _ _)
theorem s_make {x : Str} {F : Fn} {dds : List D} (h : (r δ).sat (fun ss δ1 => (SV.cl δ1.ce.length :: (ss ++ dds.map SV.im)).length = n ∧ ∃ ce, F (.cl δ1.ce.length :: (ss ++ dds.map SV.im)) (δ1.ce ++ [.ins x []]) = .ok (.im .non) ce ∧ ∃ d ce1 ce2, frz ce δ1.ce.length = some (d, ce1) ∧ cutTo δ1.ce ce1 = some ce2 ∧ Ψ (.im d) ⟨δ1.sl, ce2⟩) Ξ) : (aMake x n F dds r δ).sat Ψ Ξ :=
  sat_of_bind (Out.sat_mono h (fun ss δ1 ⟨h0, ce, e1, d, ce1, ce2, e2, e3, h1⟩ => by rw [if_pos h0, e1]; dsimp only; rw [e2]; dsimp only; rw [e3]; exact h1) fun _ _ z => z)
theorem eq_of_sat {S α : Type} {o : Out S α} {v : α} {P : S → Prop} (h : o.sat (fun s c => s = v ∧ P c) fun _ _ => False) : ∃ c, o = .ok v c ∧ P c := by
  cases o with
  | ok s c => obtain ⟨rfl, hp⟩ := h; exact ⟨c, rfl, hp⟩
  | ex x c => exact h.elim
  | bad => exact h.elim
theorem sat_of_eq {S α : Type} {o : Out S α} {v : α} {c : S} {Ψ : α → S → Prop} {Ξ : Xn → S → Prop} (e : o = .ok v c) (h : Ψ v c) : o.sat Ψ Ξ := by rw [e]; exact h
end
end Fx

set_option Elab.async false
set_option linter.all false
set_option autoImplicit false
set_option maxRecDepth 100000
set_option maxHeartbeats 2000000
namespace Fx
open PySem L2
section
variable {δ : Sta} {Ψ : SV → Sta → Prop} {Ξ : Xn → Sta → Prop}
def notFz (ce : List CO) (c : Nat) : Bool := match ce[c]? with
  | some (.fz _) => false
  | _ => true
theorem s_varB {i c : Nat} (hs : δ.sl[i]? = some (.cl c)) (hn : notFz δ.ce c = true) (h : Ψ (.cl c) δ) : (aVar i δ).sat Ψ Ξ := by
  refine s_varC hs ?_ h
  unfold notFz at hn
  unfold nrm
  split at hn
  · cases hn
  · rename_i h2
    dsimp only
    split
    · rename_i d e; exact absurd e (h2 d)
    · rfl
theorem s_varF {i c : Nat} {d : D} (hs : δ.sl[i]? = some (.cl c)) (hn : δ.ce[c]? = some (.fz d)) (h : Ψ (.im d) δ) : (aVar i δ).sat Ψ Ξ := by
  refine s_varC hs ?_ h
  unfold nrm
  dsimp only
  rw [hn]
/-! ints -/
theorem s_addI {i j : Int} (h : Ψ (.im (.int (i + j))) δ) : (addA (.im (.int i)) (.im (.int j)) δ).sat Ψ Ξ := h
theorem s_addS {i j : Str} (hl : i.length + j.length ≤ 1000000) (h : Ψ (.im (.str (i ++ j))) δ) : (addA (.im (.str i)) (.im (.str j)) δ).sat Ψ Ξ := by
  have e : addA (.im (.str i)) (.im (.str j)) δ = dOp addD (.im (.str i)) (.im (.str j)) δ := by unfold addA; simp only [imS]
  rw [e]
  exact s_dop (x := .str i) (y := .str j) rfl rfl (if_pos hl) h
theorem s_addL {i j : List D} (hl : i.length + j.length ≤ 1000000) (h : Ψ (.im (.lst (i ++ j))) δ) : (addA (.im (.lst i)) (.im (.lst j)) δ).sat Ψ Ξ := by
  have e : addA (.im (.lst i)) (.im (.lst j)) δ = dOp addD (.im (.lst i)) (.im (.lst j)) δ := by unfold addA; simp only [imS]
  rw [e]
  exact s_dop (x := .lst i) (y := .lst j) rfl rfl (if_pos hl) h
theorem s_addT {i j : List D} (hl : i.length + j.length ≤ 1000000) (h : Ψ (.im (.tup (i ++ j))) δ) : (addA (.im (.tup i)) (.im (.tup j)) δ).sat Ψ Ξ := by
  unfold addA
  simp only [imS, hl, if_true]
  exact h
theorem s_subI {i j : Int} (h : Ψ (.im (.int (i - j))) δ) : (dOp subD (.im (.int i)) (.im (.int j)) δ).sat Ψ Ξ := h
theorem s_mulI {i j : Int} (hc : (-18446744073709551616 < i ∧ i < 18446744073709551616) ∨ (-18446744073709551616 < j ∧ j < 18446744073709551616)) (h : Ψ (.im (.int (i * j))) δ) : (dOp mulD (.im (.int i)) (.im (.int j)) δ).sat Ψ Ξ :=
  s_dop (x := .int i) (y := .int j) rfl rfl (if_pos hc) h
theorem s_mulS {a : Str} {n : Int} (hc : a.length ≤ 1000 ∧ -1000 ≤ n ∧ n ≤ 1000) (h : Ψ (.im (.str (Txt.mul a n))) δ) : (dOp mulD (.im (.str a)) (.im (.int n)) δ).sat Ψ Ξ :=
  s_dop (x := .str a) (y := .int n) rfl rfl (if_pos hc) h
theorem s_fdivI {i j : Int} (hc : 0 < j ∧ j < 1073741824) (h : Ψ (.im (.int (i / j))) δ) : (dOp fdivD (.im (.int i)) (.im (.int j)) δ).sat Ψ Ξ :=
  s_dop (x := .int i) (y := .int j) rfl rfl (if_pos hc) h
theorem s_modI {i j : Int} (hc : 0 < j) (h : Ψ (.im (.int (i % j))) δ) : (dOp modD (.im (.int i)) (.im (.int j)) δ).sat Ψ Ξ :=
  s_dop (x := .int i) (y := .int j) rfl rfl (if_pos hc) h
theorem s_powI {i j : Int} (hc : 0 ≤ j ∧ j ≤ 1000000 ∧ i.natAbs < 18446744073709551616) (h : Ψ (.im (.int (i ^ j.toNat))) δ) : (dOp powD (.im (.int i)) (.im (.int j)) δ).sat Ψ Ξ :=
  s_dop (x := .int i) (y := .int j) rfl rfl (if_pos hc) h
theorem s_ltI {i j : Int} (h : Ψ (.im (.bl (decide (i < j)))) δ) : (dOp ltD (.im (.int i)) (.im (.int j)) δ).sat Ψ Ξ := h
theorem s_leI {i j : Int} (h : Ψ (.im (.bl (decide (i ≤ j)))) δ) : (dOp leD (.im (.int i)) (.im (.int j)) δ).sat Ψ Ξ := h
theorem s_gtI {i j : Int} (h : Ψ (.im (.bl (decide (j < i)))) δ) : (dOp gtD (.im (.int i)) (.im (.int j)) δ).sat Ψ Ξ := h
theorem s_geI {i j : Int} (h : Ψ (.im (.bl (decide (j ≤ i)))) δ) : (dOp geD (.im (.int i)) (.im (.int j)) δ).sat Ψ Ξ := h
theorem s_ltS {i j : Str} (h : Ψ (.im (.bl (decide (i.cps.toList < j.cps.toList)))) δ) : (dOp ltD (.im (.str i)) (.im (.str j)) δ).sat Ψ Ξ := h
theorem s_eqI {i j : Int} (h : Ψ (.im (.bl (decide (i = j)))) δ) : (dOp eqD (.im (.int i)) (.im (.int j)) δ).sat Ψ Ξ := s_dop (x := .int i) (y := .int j) rfl rfl rfl h
theorem s_eqS {i j : Str} (h : Ψ (.im (.bl (decide (i = j)))) δ) : (dOp eqD (.im (.str i)) (.im (.str j)) δ).sat Ψ Ξ := s_dop (x := .str i) (y := .str j) rfl rfl rfl h
theorem s_neI {i j : Int} (h : Ψ (.im (.bl (!decide (i = j)))) δ) : (dOp neD (.im (.int i)) (.im (.int j)) δ).sat Ψ Ξ := s_dop (x := .int i) (y := .int j) rfl rfl rfl h
theorem s_neS {i j : Str} (h : Ψ (.im (.bl (!decide (i = j)))) δ) : (dOp neD (.im (.str i)) (.im (.str j)) δ).sat Ψ Ξ := s_dop (x := .str i) (y := .str j) rfl rfl rfl h
theorem s_eqB' {i j : Bool} (h : Ψ (.im (.bl (i == j))) δ) : (dOp eqD (.im (.bl i)) (.im (.bl j)) δ).sat Ψ Ξ := s_dop (x := .bl i) (y := .bl j) rfl rfl rfl h
theorem s_neB {i j : Bool} (h : Ψ (.im (.bl (!(i == j)))) δ) : (dOp neD (.im (.bl i)) (.im (.bl j)) δ).sat Ψ Ξ := s_dop (x := .bl i) (y := .bl j) rfl rfl rfl h
theorem s_isN {d : D} (h : Ψ (.im (.bl (isNon d))) δ) : (dOp isD (.im d) (.im .non) δ).sat Ψ Ξ := s_dop (x := d) (y := .non) rfl rfl (by cases d <;> rfl) h
theorem s_isnotN {d : D} (h : Ψ (.im (.bl (!isNon d))) δ) : (dOp isnotD (.im d) (.im .non) δ).sat Ψ Ξ := s_dop (x := d) (y := .non) rfl rfl (by cases d <;> rfl) h
theorem s_isB {a b : Bool} (h : Ψ (.im (.bl (decide (a = b)))) δ) : (dOp isD (.im (.bl a)) (.im (.bl b)) δ).sat Ψ Ξ := s_dop (x := .bl a) (y := .bl b) rfl rfl rfl h
theorem s_isnotB {a b : Bool} (h : Ψ (.im (.bl (!decide (a = b)))) δ) : (dOp isnotD (.im (.bl a)) (.im (.bl b)) δ).sat Ψ Ξ := s_dop (x := .bl a) (y := .bl b) rfl rfl rfl h
theorem s_absI {i : Int} (h : Ψ (.im (.int (if i < 0 then -i else i))) δ) : (dCB1 absD [.im (.int i)] δ).sat Ψ Ξ := h
theorem s_intI {i : Int} (h : Ψ (.im (.int i)) δ) : (dCB1 intD [.im (.int i)] δ).sat Ψ Ξ := h
theorem s_intB {b : Bool} (h : Ψ (.im (.int (if b then 1 else 0))) δ) : (dCB1 intD [.im (.bl b)] δ).sat Ψ Ξ := h
theorem s_lenL {l : List D} (h : Ψ (.im (.int l.length)) δ) : (dCB1 lenD [.im (.lst l)] δ).sat Ψ Ξ := h
theorem s_lenT {l : List D} (h : Ψ (.im (.int l.length)) δ) : (dCB1 lenD [.im (.tup l)] δ).sat Ψ Ξ := h
theorem s_lenR {l : List Int} (h : Ψ (.im (.int l.length)) δ) : (dCB1 lenD [.im (.scr l)] δ).sat Ψ Ξ := h
theorem s_lenS {z : Str} (hz : z.length ≤ 1000000) (h : Ψ (.im (.int z.length)) δ) : (dCB1 lenD [.im (.str z)] δ).sat Ψ Ξ := s_cb1 (x := .str z) rfl (if_pos hz) h
/-! at a place -/
theorem s_ixC {tabs : Tabs} {c : Nat} {us : List SV} {i : Int} {d : D} (hc : δ.ce[c]? = some (.lst us)) (hi : atI us i = some (.im d)) (h : Ψ (.im d) δ) : (ixA tabs (.cl c) (.im (.int i)) δ).sat Ψ Ξ := by
  unfold ixA
  simp only [dv]
  rw [hc]
  dsimp only
  rw [hi]
  exact h
theorem s_ixL {tabs : Tabs} {ds : List D} {i : Int} {d : D} (hi : atI ds i = some d) (h : Ψ (.im d) δ) : (ixA tabs (.im (.lst ds)) (.im (.int i)) δ).sat Ψ Ξ := by
  unfold ixA
  simp only [dv, ixD]
  rw [hi]
  exact h
theorem s_ixT {tabs : Tabs} {ds : List D} {i : Int} {d : D} (hi : atI ds i = some d) (h : Ψ (.im d) δ) : (ixA tabs (.im (.tup ds)) (.im (.int i)) δ).sat Ψ Ξ := by
  unfold ixA
  simp only [dv, ixD]
  rw [hi]
  exact h
theorem s_ixR {tabs : Tabs} {ds : List Int} {i d : Int} (hi : atI ds i = some d) (h : Ψ (.im (.int d)) δ) : (ixA tabs (.im (.scr ds)) (.im (.int i)) δ).sat Ψ Ξ := by
  unfold ixA
  simp only [dv, ixD]
  rw [hi]
  exact h
theorem s_ixS {tabs : Tabs} {z : Str} {i : Int} {c : Nat} (hz : z.length ≤ 1000000) (hi : atI z.cps.toList i = some c) (h : Ψ (.im (.str ⟨#[c]⟩)) δ) : (ixA tabs (.im (.str z)) (.im (.int i)) δ).sat Ψ Ξ := by
  unfold ixA
  simp only [dv, ixD, hz, if_true]
  rw [hi]
  exact h
theorem s_ixD {tabs : Tabs} {kvs : List (Key × D)} {y d : D} {k : Key} (hk : keyOf y = some k) (hi : lookD kvs k = some d) (h : Ψ (.im d) δ) : (ixA tabs (.im (.dic kvs)) (.im y) δ).sat Ψ Ξ := by
  unfold ixA
  simp only [dv, ixD]
  rw [hk]
  dsimp only
  rw [hi]
  exact h
theorem s_ixG {tabs : Tabs} {x z : Str} {d : D} (hi : tabAt tabs x z = some d) (h : Ψ (.im d) δ) : (ixA tabs (.im (.glo x)) (.im (.str z)) δ).sat Ψ Ξ := by
  unfold ixA
  simp only [dv]
  rw [hi]
  exact h
theorem atI_get {α : Type} {l : List α} {i : Int} (h0 : 0 ≤ i) (h1 : i < l.length) : ∃ x, atI l i = some x ∧ x ∈ l := by
  unfold atI ixN
  rw [if_pos h0, if_pos h1]
  have h2 : i.toNat < l.length := by omega
  exact ⟨l[i.toNat], by simp [h2], List.getElem_mem h2⟩
theorem s_asgIx {e : AE} {i : Nat} {k : Int} {Φ : Post} (h : (e δ).sat (fun s δ1 => ∃ c us j, δ1.sl[i]? = some (.cl c) ∧ δ1.ce[c]? = some (.lst us) ∧ ixN us.length k = some j ∧ Φ.nx ⟨δ1.sl, δ1.ce.set c (.lst (us.set j s))⟩) Φ.ex) : (aAsg e (gIx (aVar i) (aC (.int k))) δ).sat Φ :=
  s_asg (Out.sat_mono h (fun s δ1 ⟨c, us, j, e1, e2, e3, h1⟩ => by
    refine ⟨_, ?_, h1⟩
    unfold gIx aVar
    rw [e1]
    dsimp only [aC]
    have e4 : nrm δ1.ce (.cl c) = .cl c := by
      unfold nrm
      dsimp only
      rw [e2]
    rw [e4]
    dsimp only
    rw [e2]
    dsimp only [dv]
    rw [e3]) fun _ _ z => z)
theorem s_intB2 {b : Bool} (h : (b = true → Ψ (.im (.int 1)) δ) ∧ (b = false → Ψ (.im (.int 0)) δ)) : (dCB1 intD [.im (.bl b)] δ).sat Ψ Ξ := by
  cases b with
  | true => exact h.1 rfl
  | false => exact h.2 rfl
theorem s_ixR2 {tabs : Tabs} {ds : List Int} {i : Int} (h0 : 0 ≤ i) (h1 : i < ds.length) (h : ∀ d : Int, Ψ (.im (.int d)) δ) : (ixA tabs (.im (.scr ds)) (.im (.int i)) δ).sat Ψ Ξ := by
  obtain ⟨x, hx, _⟩ := atI_get h0 h1
  exact s_ixR hx (h x)
/-- out of a list by a known place -/
theorem s_ixL2 {tabs : Tabs} {ds : List D} {i : Int} (h0 : 0 ≤ i) (h1 : i < ds.length) (h : ∀ d ∈ ds, Ψ (.im d) δ) : (ixA tabs (.im (.lst ds)) (.im (.int i)) δ).sat Ψ Ξ := by
  obtain ⟨x, hx, hm⟩ := atI_get h0 h1
  exact s_ixL hx (h x hm)
theorem s_retFz {ce ce' ce1 ce2 : List CO} {c : Nat} {d : D} {Ψf : SV → List CO → Prop} {Ξf : Xn → List CO → Prop} (hc : ¬ c < ce.length) (hf : frz ce' c = some (d, ce1)) (h2 : cutTo ce ce1 = some ce2) (h : Ψf (.im d) ce2) : (retF ce (.cl c) ce').sat Ψf Ξf := by
  unfold retF
  dsimp only
  rw [if_neg hc, hf]
  dsimp only
  rw [h2]
  exact h
theorem s_retC {ce ce' : List CO} {c : Nat} {o : CO} {Ψf : SV → List CO → Prop} {Ξf : Xn → List CO → Prop} (hc : ce.length ≤ c) (hf : ce'[c]? = some o) (hb : o.bnd ce.length = true) (hk : okAll ce.length ce ce' = true) (h : Ψf (.cl ce.length) (ce'.take ce.length ++ [o])) : (retC ce (.cl c) ce').sat Ψf Ξf := by
  unfold retC
  dsimp only
  rw [if_pos hc, hf]
  dsimp only
  rw [if_pos ⟨hb, hk⟩]
  exact h
theorem s_make2 {x : Str} {n : Nat} {r : AA} {F : Fn} {dds : List D} (h : (r δ).sat (fun ss δ1 => (SV.cl δ1.ce.length :: (ss ++ dds.map SV.im)).length = n ∧ (F (.cl δ1.ce.length :: (ss ++ dds.map SV.im)) (δ1.ce ++ [.ins x []])).sat (fun s ce => s = .im .non ∧ ∃ d ce1 ce2, frz ce δ1.ce.length = some (d, ce1) ∧ cutTo δ1.ce ce1 = some ce2 ∧ Ψ (.im d) ⟨δ1.sl, ce2⟩) fun _ _ => False) Ξ) : (aMake x n F dds r δ).sat Ψ Ξ :=
  s_make (Out.sat_mono h (fun ss δ1 ⟨h0, h1⟩ => by
    obtain ⟨c, e, d, ce1, ce2, e1, e2, h2⟩ := eq_of_sat h1
    exact ⟨h0, c, e, d, ce1, ce2, e1, e2, h2⟩) fun _ _ z => z)
theorem s_forU {it : AI} {g : AG} {p : AS} {Φ : Post} (h : (it δ).sat (fun ds δ1 => (forL g p ds δ1).sat Φ) Φ.ex) : (aFor it g p δ).sat Φ := by
  unfold aFor
  cases q : it δ <;> rw [q] at h <;> exact h
theorem s_forL1 {g : AG} {p : AS} {Φ : Post} {d : D} {ds : List D} (h : ∃ δ', g (.im d) δ = some δ' ∧ (p δ').sat { Φ with nx := fun δ2 => (forL g p ds δ2).sat Φ, ct := fun δ2 => (forL g p ds δ2).sat Φ, bk := Φ.nx }) : (forL g p (d :: ds) δ).sat Φ := by
  obtain ⟨δ', e, h⟩ := h
  unfold forL
  rw [e]
  dsimp only
  cases q : p δ' <;> rw [q] at h <;> exact h
theorem s_items {a : AE} {Ψi : List D → Sta → Prop} (h : (a δ).sat (fun s δ1 => ∃ c kvs kds, s = .cl c ∧ δ1.ce[c]? = some (.dic kvs) ∧ imK δ1.ce kvs = some kds ∧ Ψi (pairsD kds) ⟨δ1.sl, δ1.ce.set c (.fz (.dic kds))⟩) Ξ) : (aItems a δ).sat Ψi Ξ :=
  sat_of_bind (Out.sat_mono h (fun s δ1 ⟨c, kvs, kds, e0, e1, e2, h1⟩ => by subst e0; dsimp only; rw [e1]; dsimp only; rw [e2]; exact h1) fun _ _ z => z)
theorem s_inT {x : D} {xs : List D} (hf : flatD x = true ∧ xs.all flatD = true) (h : Ψ (.im (.bl (inF x xs))) δ) : (dOp inD (.im x) (.im (.tup xs)) δ).sat Ψ Ξ :=
  s_dop (x := x) (y := .tup xs) rfl rfl (by unfold inD inB; dsimp only; rw [if_pos hf]; rfl) h
theorem s_inL {x : D} {xs : List D} (hf : flatD x = true ∧ xs.all flatD = true) (h : Ψ (.im (.bl (inF x xs))) δ) : (dOp inD (.im x) (.im (.lst xs)) δ).sat Ψ Ξ :=
  s_dop (x := x) (y := .lst xs) rfl rfl (by unfold inD inB; dsimp only; rw [if_pos hf]; rfl) h
theorem s_dispS {d : AE} {l : List (AE × AE)} (h : (d ⟨δ.sl, δ.ce ++ [.dic []]⟩).sat (fun s δ1 => ∃ kds, dv δ1.ce s = some (.dic kds) ∧ δ1.ce[δ.ce.length]? = some (.dic []) ∧ (kds.length ≤ 1000 ∧ notCl s δ.ce.length = true) ∧
    (pairsA l ⟨δ1.sl, δ1.ce.set δ.ce.length (.dic (mergeS [] (kds.map fun p => (p.1, .im p.2)))) ++ [.dic []]⟩).sat (fun kvs δ2 => ∃ kvs3, δ2.ce[δ.ce.length]? = some (.dic kvs3) ∧ δ2.ce[δ1.ce.length]? = some (.dic []) ∧ (kvs.length ≤ 15 ∧ kvs3 = mergeS [] (kds.map fun p => (p.1, .im p.2))) ∧ Ψ (.cl δ.ce.length) ⟨δ2.sl, (δ2.ce.set δ1.ce.length (.dic (mergeS [] kvs))).set δ.ce.length (.dic (mergeS kvs3 (mergeS [] kvs)))⟩) Ξ) Ξ) : (aDispS d l δ).sat Ψ Ξ :=
  sat_of_bind (Out.sat_mono h (fun s δ1 ⟨kds, e1, e2, e3, h1⟩ => by
    rw [e1, e2]
    dsimp only
    rw [if_pos e3]
    refine sat_of_bind (Out.sat_mono h1 (fun kvs δ2 ⟨kvs3, e4, e5, e6, h2⟩ => ?_) fun _ _ z => z)
    rw [e4, e5]
    dsimp only
    rw [if_pos e6]
    exact h2) fun _ _ z => z)
def fldS (ct : CT) (f : Str) (δ : Sta) : SV → Option SV
  | .im (.ins C fs) => (match fs.lookup f with
    | some d => if ct.has C f = true then some (.im d) else none
    | none => (ct.cn.lookup (C, f)).map .im)
  | .im (.slf C fs) => (match fs.lookup f with
    | some d => if ct.has C f = true then some (.im (selfF (.slf C fs) d)) else none
    | none => (ct.cn.lookup (C, f)).map .im)
  | .cl c => (match δ.ce[c]? with
    | some (.ins C fs) => (match fs.lookup f with
      | some t => if ct.has C f = true then some (nrm δ.ce t) else none
      | none => (ct.cn.lookup (C, f)).map .im)
    | _ => none)
  | _ => none
theorem s_fld2 {ct : CT} {a : AE} {f : Str} (h : (a δ).sat (fun s δ1 => ∃ t, fldS ct f δ1 s = some t ∧ Ψ t δ1) Ξ) : (aFld ct a f δ).sat Ψ Ξ :=
  sat_of_bind (Out.sat_mono h (fun s δ1 ⟨t, h1, h2⟩ => by
    unfold fldS at h1
    split at h1
    · split at h1
      · split at h1
        · cases h1; rename_i e1 e2; first | (rw [if_pos e2]; exact h2) | (dsimp only; rw [e1]; dsimp only; rw [if_pos e2]; exact h2)
        · cases h1
      · rename_i e1
        rw [Option.map_eq_some_iff] at h1; obtain ⟨d, e2, rfl⟩ := h1; first | (rw [e2]; exact h2) | (dsimp only; rw [e1]; dsimp only; rw [e2]; exact h2)
    · split at h1
      · split at h1
        · cases h1; rename_i e1 e2; first | (rw [if_pos e2]; exact h2) | (dsimp only; rw [e1]; dsimp only; rw [if_pos e2]; exact h2)
        · cases h1
      · rename_i e1
        rw [Option.map_eq_some_iff] at h1; obtain ⟨d, e2, rfl⟩ := h1; first | (rw [e2]; exact h2) | (dsimp only; rw [e1]; dsimp only; rw [e2]; exact h2)
    · split at h1
      · rename_i e0
        split at h1
        · split at h1
          · cases h1; rename_i e1 e2; first | (rw [if_pos e2]; exact h2) | (dsimp only; rw [e0]; dsimp only; rw [e1]; dsimp only; rw [if_pos e2]; exact h2)
          · cases h1
        · rename_i e1
          rw [Option.map_eq_some_iff] at h1; obtain ⟨d, e2, rfl⟩ := h1; first | (rw [e2]; exact h2) | (dsimp only; rw [e0]; dsimp only; rw [e1]; dsimp only; rw [e2]; exact h2)
      · cases h1
    · cases h1) fun _ _ z => z)
theorem s_nx {p : AS} {δ δ' : Sta} {Φ : Post} (e : p δ = .nx δ') (h : Φ.nx δ') : (p δ).sat Φ := by rw [e]; exact h
theorem okAll_pre {ce ce' : List CO} (h : ce'.take ce.length = ce) : okAll ce.length ce ce' = true := by
  have : ce' = ce ++ ce'.drop ce.length := by conv => lhs; rw [← List.take_append_drop ce.length ce', h]
  rw [this]
  exact okAll_app _ _ _ _ (okAll_self _ _)
theorem cutTo_pre {ce ce' : List CO} (h : ce'.take ce.length = ce) : cutTo ce ce' = some ce := by
  unfold cutTo
  split
  · rename_i hl
    rw [List.take_of_length_le hl] at h
    rw [h]
  · rw [if_pos (okAll_pre h), h]
/-! yes and no -/
theorem tr_and {c : Bool} {A B : Prop} (h : c = true) (a : A) : (c = true → A) ∧ (c = false → B) := ⟨fun _ => a, fun z => by rw [h] at z; cases z⟩
theorem fl_and {c : Bool} {A B : Prop} (h : c = false) (b : B) : (c = true → A) ∧ (c = false → B) := ⟨fun z => (by rw [h] at z; cases z), fun _ => b⟩
theorem ntr_and {c : Bool} {A B : Prop} (h : c = true) (b : B) : ((!c) = true → A) ∧ ((!c) = false → B) := ⟨fun z => (by rw [h] at z; cases z), fun _ => b⟩
theorem nfl_and {c : Bool} {A B : Prop} (h : c = false) (a : A) : ((!c) = true → A) ∧ ((!c) = false → B) := ⟨fun _ => a, fun z => (by rw [h] at z; cases z)⟩
theorem dec_and {p : Prop} [Decidable p] {A B : Prop} (h1 : p → A) (h2 : ¬ p → B) : (decide p = true → A) ∧ (decide p = false → B) := ⟨fun h => h1 (of_decide_eq_true h), fun h => h2 (of_decide_eq_false h)⟩
theorem dec_andN {p : Prop} [Decidable p] {A B : Prop} (h1 : ¬ p → A) (h2 : p → B) : ((!decide p) = true → A) ∧ ((!decide p) = false → B) := ⟨fun h => h1 (by simpa using h), fun h => h2 (by simpa using h)⟩
end
end Fx

set_option Elab.async false
set_option linter.all false
set_option autoImplicit false
set_option maxRecDepth 100000
set_option maxHeartbeats 2000000
namespace Fx
open PySem L2 PyProof.Rows
/-! ## texts -/
def bareL (l : List Nat) : List Nat := (l.reverse.dropWhile (· == 32)).reverse
def bare (s : Str) : Str := ⟨(bareL s.cps.toList).toArray⟩
/-- letters and blanks -/
def Pc (c : Nat) : Prop := c = 32 ∨ (65 ≤ c ∧ c ≤ 90) ∨ (97 ≤ c ∧ c ≤ 122)
instance (c : Nat) : Decidable (Pc c) := by unfold Pc; infer_instance
theorem Pc.lt {c : Nat} (h : Pc c) : c < 128 := by unfold Pc at h; omega
/-- text[-1:] and text[:-1] -/
theorem cut_last (l : List Nat) (c : Nat) : L2.cutS ⟨(l ++ [c]).toArray⟩ (some (-1)) none = ⟨#[c]⟩ ∧ L2.cutS ⟨(l ++ [c]).toArray⟩ none (some (-1)) = ⟨l.toArray⟩ := by
  constructor
  · unfold L2.cutS
    have e1 : HT.sIx (Str.length ⟨(l ++ [c]).toArray⟩) 0 (some (-1)) = l.length := by
      simp [HT.sIx, Str.length]; omega
    rw [e1]
    simp [HT.sIx, Str.length]
  · unfold L2.cutS
    have e1 : HT.sIx (Str.length ⟨(l ++ [c]).toArray⟩) (Str.length ⟨(l ++ [c]).toArray⟩) (some (-1)) = l.length := by
      simp [HT.sIx, Str.length]; omega
    rw [e1]
    simp [HT.sIx, Str.length]
/-- while text[-1:] == " ": text = text[:-1] -/
def bareT : AT := aTest (aOp (dOp eqD) (aSl (aVar 0) (aPart (aNeg (aC (.int 1)))) aNoPart) (aC (.str " ")))
def bareB : AS := aAsg (aSl (aVar 0) aNoPart (aPart (aNeg (aC (.int 1))))) (gNm 0)
theorem slD_str {z : Str} {lo hi : Option Int} (h : z.length ≤ 1000000) : slD (.str z) lo hi = some (.str (L2.cutS z lo hi)) := if_pos h
theorem bareT_eq {z : Str} {ce : List CO} (h : z.length ≤ 1000000) : bareT ⟨[.im (.str z)], ce⟩ = .ok (decide (L2.cutS z (some (-1)) none = " ")) ⟨[.im (.str z)], ce⟩ := by
  obtain ⟨c, e, rfl⟩ := eq_of_sat (o := bareT ⟨[.im (.str z)], ce⟩) (v := decide (L2.cutS z (some (-1)) none = " ")) (P := fun c => c = ⟨[.im (.str z)], ce⟩) (by
    refine s_test (s_op (s_sl (s_varI rfl (s_part (s_neg (s_c ⟨_, rfl, ⟨_, rfl, s_nopart ⟨_, _, rfl, slD_str h, fun _ z => (by cases z), ?_⟩⟩⟩))))))
    exact s_c (s_eqS ⟨_, rfl, rfl, rfl⟩))
  exact e
theorem bareB_eq {z : Str} {ce : List CO} (h : z.length ≤ 1000000) : bareB ⟨[.im (.str z)], ce⟩ = .nx ⟨[.im (.str (L2.cutS z none (some (-1))))], ce⟩ := by
  have h2 : (bareB ⟨[.im (.str z)], ce⟩).sat ⟨fun δ => δ = ⟨[.im (.str (L2.cutS z none (some (-1))))], ce⟩, fun _ _ => False, fun _ => False, fun _ => False, fun _ _ => False⟩ := by
    refine s_set (s_sl (s_varI rfl (s_nopart (s_part (s_neg (s_c ⟨_, rfl, ⟨_, rfl, ⟨_, _, rfl, slD_str h, fun _ z => (by cases z), ?_⟩⟩⟩))))))
    rfl
  cases q : bareB ⟨[.im (.str z)], ce⟩ with
  | nx δ => rw [q] at h2; rw [show δ = _ from h2]
  | rt s δ => rw [q] at h2; exact h2.elim
  | bk δ => rw [q] at h2; exact h2.elim
  | ct δ => rw [q] at h2; exact h2.elim
  | ex x δ => rw [q] at h2; exact h2.elim
  | bad => rw [q] at h2; exact h2.elim
theorem str_one {c d : Nat} : ((⟨#[c]⟩ : Str) = ⟨#[d]⟩) ↔ c = d := by
  constructor
  · intro h; cases h; rfl
  · rintro rfl; rfl
theorem bare_while {ce : List CO} : ∀ (n : Nat) (l : List Nat), l.length < n → l.length ≤ 1000000 → whileN bareT bareB n ⟨[.im (.str ⟨l.toArray⟩)], ce⟩ = .nx ⟨[.im (.str ⟨(bareL l).toArray⟩)], ce⟩
  | 0, l, h, _ => absurd h (Nat.not_lt_zero _)
  | n + 1, l, h, hz => by
    unfold whileN
    rw [bareT_eq (by simpa [Str.length] using hz)]
    dsimp only
    rcases List.eq_nil_or_concat l with rfl | ⟨m, c, rfl⟩
    · rw [if_neg (by decide)]
      rfl
    · simp only [List.concat_eq_append] at h hz ⊢
      obtain ⟨e1, e2⟩ := cut_last m c
      rw [e1]
      by_cases hc : c = 32
      · subst hc
        rw [if_pos (by decide)]
        rw [bareB_eq (by simpa [Str.length] using hz), e2]
        dsimp only
        rw [bare_while n m (by simp at h; omega) (by simp at hz; omega)]
        unfold bareL
        simp
      · rw [if_neg (by
          intro z
          have := of_decide_eq_true z
          exact hc (str_one.mp this))]
        unfold bareL
        simp [hc]
theorem s_bare {s : Str} {ce : List CO} {Φ : Post} (hl : s.length ≤ 100) (h : Φ.nx ⟨[.im (.str (bare s))], ce⟩) : (aWhile 1000 (aTest (aOp (dOp eqD) (aSl (aVar 0) (aPart (aNeg (aC (.int 1)))) aNoPart) (aC (.str " ")))) (aAsg (aSl (aVar 0) aNoPart (aPart (aNeg (aC (.int 1))))) (gNm 0)) ⟨[.im (.str s)], ce⟩).sat Φ := by
  have e := bare_while (ce := ce) 1000 s.cps.toList (by simp only [Str.length] at hl; simp; omega) (by simp only [Str.length] at hl; simp; omega)
  exact s_nx e h
/-- a map by a comprehension -/
theorem lc_map {g : AG} {e : AE} {sl : List SV} {ce : List CO} (f : D → D) : ∀ (ds acc : List D), (∀ d ∈ ds, ∃ δ1, g (.im d) ⟨sl, ce⟩ = some δ1 ∧ (e δ1).sat (fun s δ2 => s = .im (f d) ∧ δ2.ce = ce) fun _ _ => False) → lcL g aYes e sl ds acc ce = some (acc ++ ds.map f, ce)
  | [], acc, _ => by simp [lcL]
  | d :: ds, acc, h => by
    obtain ⟨δ1, e1, h2⟩ := h d List.mem_cons_self
    obtain ⟨δ2, e2, e3⟩ := eq_of_sat h2
    unfold lcL
    rw [e1]
    dsimp only [aYes]
    rw [if_pos rfl, e2]
    dsimp only [toIm]
    rw [e3]
    have hc : cutOr ce ce = ce := by unfold cutOr; rw [cutTo_self]
    rw [hc, lc_map f ds (acc ++ [f d]) fun d hd => h d (List.mem_cons_of_mem _ hd)]
    simp
theorem s_lcM {δ : Sta} {Ψ : SV → Sta → Prop} {Ξ : Xn → Sta → Prop} {e : AE} {it : AI} {g : AG} {vs : List Nat} (f : D → D) (h : (it δ).sat (fun ds δ1 => ds.length ≤ 100000 ∧ (∀ d ∈ ds, ∃ δ2, g (.im d) ⟨wipeS δ1.sl vs, δ1.ce⟩ = some δ2 ∧ (e δ2).sat (fun s δ3 => s = .im (f d) ∧ δ3.ce = δ1.ce) fun _ _ => False) ∧ Ψ (.im (.lst (ds.map f))) δ1) Ξ) : (aLc it g aYes e vs δ).sat Ψ Ξ :=
  sat_of_bind (Out.sat_mono h (fun ds δ1 ⟨h0, h1, h2⟩ => by
    rw [if_pos h0, lc_map f ds [] h1]
    exact h2) fun _ _ z => z)
theorem rgD_mem {lo : Int} {n : Nat} {d : D} (h : d ∈ rgD lo n) : ∃ i : Nat, i < n ∧ d = .int (lo + (i : Nat)) := by
  simp only [rgD, List.mem_map, List.mem_range] at h
  obtain ⟨i, hi, rfl⟩ := h
  exact ⟨i, hi, rfl⟩
end Fx

set_option Elab.async false
set_option linter.all false
set_option autoImplicit false
set_option maxRecDepth 100000
set_option maxHeartbeats 2000000
namespace Fx
open PySem L2 PyProof.Rows
/-! ## rounding, cells seen -/
end Fx

set_option Elab.async false
set_option linter.all false
set_option autoImplicit false
set_option maxRecDepth 100000
set_option maxHeartbeats 2000000
namespace Fx
open PySem L2
/-! ## calls by keywords, as outcomes -/
/-- o.m(k = v, ..), def m(self, **d) -/
def aMethKW (tab : MTab) (m : Str) (ks : List Str) (a : AE) (r : AA) : AE := fun δ => (a δ).bind fun s δ1 => match clsS δ1 m s with
  | some C => (match tab.lookup C with
    | some (n, F) => (r δ1).bind fun ss δ2 => if n = 2 ∧ ss.length = ks.length then (match F [s, .cl δ2.ce.length] (δ2.ce ++ [.dic (mergeS [] (inrs (ks.zip ss)))]) with
      | .ok (.im d) ce => (match cutTo δ2.ce ce with
        | some ce2 => .ok (.im d) ⟨δ2.sl, ce2⟩
        | none => .ok (.im d) ⟨δ2.sl, ce⟩)
      | .ok _ _ => .bad
      | .ex y ce => .ex y ⟨δ2.sl, ce⟩
      | .bad => .bad) else .bad
    | none => .bad)
  | none => .bad
/-- C(**d) -/
def aMakeKW (x : Str) (n : Nat) (F : Fn) (ks : List Str) (d : AE) : AE := fun δ => (d ⟨δ.sl, δ.ce ++ [.dic []]⟩).bind fun s δ1 => match dv δ1.ce s, δ1.ce[δ.ce.length]? with
  | some (.dic kds), some (.dic []) => if kds.length ≤ 1000 ∧ notCl s δ.ce.length = true ∧ kds.map (·.1) = ks.map .inr ∧ kds.length + 1 = n then
      (match F (.cl δ1.ce.length :: (kds.map (·.2)).map SV.im) (δ1.ce.set δ.ce.length (.dic (kds.map fun p => (p.1, .im p.2))) ++ [.ins x []]) with
      | .ok (.im .non) ce => (match frz ce δ1.ce.length with
        | some (d, ce2) => .ok (.im d) ⟨δ1.sl, ce2⟩
        | none => .bad)
      | .ok _ _ => .bad
      | .ex y ce => .ex y ⟨δ1.sl, ce⟩
      | .bad => .bad) else .bad
  | _, _ => .bad
section
variable {K : PySem.W.Frag} {xs : Xs} {W : WX} {ta td : TE} {a d : AE} {tr : TA} {r : AA} {n : Nat} {F : Fn}
theorem clsS_ok {ec : EC} {δ1 : Sta} {σ : L2.St} {I1 : Hp} {as1 : List Addr} {H1 : Hp} {s : SV} {v : V} {m C : Str} (r1 : R K ec δ1 σ I1 as1 H1) (rv : RV K I1 as1 s v) (hc : clsS δ1 m s = some C) : ∃ b dx fs, v = .ref b ∧ H1 b = some (.ins (He.ga K C) dx fs) ∧ fs.lookup m = none := by
  cases s with
  | no => cases hc
  | im d =>
    cases d with
    | ins C' fs =>
      obtain ⟨b, dx, ws, rfl, hb, rb⟩ := (show Rep K I1 (.ins C' fs) v from rv)
      unfold clsS at hc
      dsimp only at hc
      split at hc
      · cases hc
      · rename_i e
        cases hc
        exact ⟨b, dx, ws, rfl, r1.ih _ _ hb, rb.lookN (none_of e)⟩
    | slf C' fs =>
      obtain ⟨b, dx, ws, rfl, hb, rb⟩ := (show Rep K I1 (.slf C' fs) v from rv)
      unfold clsS at hc
      dsimp only at hc
      split at hc
      · cases hc
      · rename_i e
        cases hc
        exact ⟨b, dx, ws, rfl, r1.ih _ _ hb, rb.lookN (none_of e)⟩
    | _ => cases hc
  | cl cc =>
    obtain ⟨b, hb, rfl⟩ := rv
    unfold clsS at hc
    dsimp only at hc
    split at hc
    · rename_i C' fs qc
      obtain ⟨_, dx, ws, hh, rb⟩ := r1.cells cc _ b qc hb
      split at hc
      · cases hc
      · rename_i e
        cases hc
        exact ⟨b, dx, ws, rfl, hh, rb.lookN (none_of e)⟩
    · cases hc
theorem rvk_zip {I : Hp} {as : List Addr} : ∀ {ks : List Str} {ss : List SV} {vs : List V}, RVL K I as ss vs → RVK K I as (inrs (ks.zip ss)) (inrs (ks.zip vs))
  | [], _, _, _ => rfl
  | _ :: _, [], vs, h => by rw [show vs = [] from h]; rfl
  | k :: ks, s :: ss, _, ⟨v, r, h1, h2, h3⟩ => by
    subst h1
    exact ⟨v, _, rfl, h2, rvk_zip h3⟩
theorem se_methKW {tab : MTab} {m : Str} {ks : List Str} (ha : SE K xs W ta a) (hr : SA K xs W tr r) : SE K xs W (tMethKW K tab m ks W ta tr) (aMethKW tab m ks a r) := by
  intro fr δ Ψ Ξ h σ I as H Q rr c
  refine ha fr δ _ _ (Out.sat_bind h) σ I as H _ rr ⟨fun s δ1 v I1 as1 H1 r1 l1 rv k => ?_, c.x⟩
  split at k
  · rename_i C hc
    split at k
    · rename_i n F q
      obtain ⟨b, dx, fs, rfl, hb, hl⟩ := clsS_ok r1 rv hc
      refine ⟨b, C, dx, fs, n, F, rfl, hb, hl, q, ?_⟩
      have c1 := c.later l1
      refine hr fr δ1 _ _ (Out.sat_bind k) σ I1 as1 H1 _ r1 ⟨fun ss δ2 vs I2 as2 H2 r2 l2 rv2 k => ?_, c1.x⟩
      have c2 := c1.later l2
      split at k
      · rename_i hh
        obtain ⟨hn2, hlen⟩ := hh
        refine ⟨by rw [rv2.length]; exact hlen, fun d hd => ?_⟩
        have hnd := none_back r2.ih hd
        obtain ⟨r3, l3⟩ := r2.newC (o := .dK (mergeK [] (inrs (ks.zip vs)))) (co := .dic (mergeS [] (inrs (ks.zip ss)))) hd ⟨hnd, _, upd_same, (rvk_zip rv2).merge (d := []) (w := []) rfl⟩ rfl
        have hda : (as2 ++ [d])[δ2.ce.length]? = some d := by rw [← r2.clen]; simp
        have rv' : RVL K I2 (as2 ++ [d]) [s, .cl δ2.ce.length] [.ref b, .ref d] := ⟨_, _, rfl, (rv.mono l2).mono l3, _, _, rfl, ⟨d, hda, rfl⟩, rfl⟩
        refine ⟨by rw [hn2]; rfl, xs, fr, _, _, _, _, r3.bare, rv', ⟨?_⟩⟩
        show (F [s, .cl δ2.ce.length] (δ2.ce ++ [.dic (mergeS [] (inrs (ks.zip ss)))])).sat _ _
        cases q : F [s, .cl δ2.ce.length] (δ2.ce ++ [.dic (mergeS [] (inrs (ks.zip ss)))]) with
        | bad => rw [q] at k; exact k
        | ok s2 ce =>
          rw [q] at k
          cases s2 with
          | no => exact k.elim
          | cl _ => exact k.elim
          | im d0 =>
            dsimp only at k
            intro v I' as' H' r' l' rvv
            have l14 := l3.trans l'
            split at k
            · rename_i ce2 qc
              obtain ⟨r5, l5, _, _, hle⟩ := R.cutTo r2 (R.reslot r' r2 l14) l14 qc
              have r6 : R K ⟨xs, fr⟩ ⟨δ2.sl, ce2⟩ σ I' (as'.take ce2.length) H' := by rw [slBnd r2 hle] at r5; exact r5
              exact c2.v (.im d0) _ _ I' _ H' r6 l5 rvv k
            · exact c2.v (.im d0) _ _ I' as' H' (R.reslot r' r2 l14) l14 rvv k
        | ex y ce =>
          rw [q] at k
          intro d I' as' H' r' l' xr
          have l14 := l3.trans l'
          exact c2.x y _ d I' as' H' (R.reslot r' r2 l14) l14 xr k
      · exact k.elim
    · exact k.elim
  · exact k.elim
theorem repk_keys {I : Hp} : ∀ {ds : List (Key × D)} {vs : List (Key × V)}, RepK K I ds vs → vs.map (·.1) = ds.map (·.1)
  | [], vs, h => by rw [show vs = [] from h]; rfl
  | (k, d) :: ds, _, ⟨v, r, h1, h2, h3⟩ => by subst h1; simp only [List.map_cons, repk_keys h3]
theorem repk_vals {I : Hp} : ∀ {ds : List (Key × D)} {vs : List (Key × V)}, RepK K I ds vs → RepL K I (ds.map (·.2)) (vs.map (·.2))
  | [], vs, h => by rw [show vs = [] from h]; rfl
  | (k, d) :: ds, _, ⟨v, r, h1, h2, h3⟩ => by subst h1; exact ⟨v, _, rfl, h2, repk_vals h3⟩
theorem se_makeKW {x : Str} {ks : List Str} (hd : SE K xs W td d) : SE K xs W (tMakeKW K x n F ks W td) (aMakeKW x n F ks d) := by
  intro fr δ Ψ Ξ h σ I as H Q r c p hp
  have hn := none_back r.ih hp
  obtain ⟨r1, l1⟩ := r.newC (o := .dK []) (co := .dic []) hp ⟨hn, [], upd_same, rfl⟩ rfl
  have c1 := c.later l1
  unfold aMakeKW at h
  have h := Out.sat_bind h
  refine hd fr ⟨δ.sl, δ.ce ++ [.dic []]⟩ _ _ h σ I (as ++ [p]) _ _ r1 ⟨fun s δ1 v I1 as1 H1 r2 l2 rv k => ?_, c1.x⟩
  split at k
  · rename_i kds ed e0
    split at k
    · rename_i hh
      obtain ⟨hk, hncl, hkeys, hlen⟩ := hh
      have hne := notCl_ne hncl
      obtain ⟨a, kvs, rfl, ha, ra⟩ := r2.dvK ed rv
      have hap : as1[δ.ce.length]? = some p := l2.a _ _ (by rw [← r.clen]; simp)
      obtain ⟨hn0, ws, hh, rr⟩ := r2.cells _ _ p e0 hap
      have : ws = [] := rr
      subst this
      have nap : a ≠ p := by
        rintro rfl
        cases s with
        | no => cases ed
        | im d =>
          cases ed
          obtain ⟨b, kv', eb, hb, _⟩ := (show Rep K I1 (.dic kds) (.ref a) from rv)
          cases eb
          rcases hb with hb | ⟨o, hb⟩ <;> (rw [hn0] at hb; cases hb)
        | cl cc =>
          obtain ⟨b, hb, eb⟩ := rv
          cases eb
          cases q : δ1.ce[cc]? with
          | none => simp only [Fx.dv] at ed; rw [q] at ed; cases ed
          | some o =>
            cases o with
            | dic kv' => exact hne cc rfl (r2.inj cc δ.ce.length _ _ a q e0 rfl rfl hb hap)
            | fz d =>
              have z := r2.cells cc _ a q hb
              simp only [Fx.dv] at ed
              rw [q] at ed
              cases ed
              obtain ⟨b', kv', eb, hb', _⟩ := (show Rep K I1 (.dic kds) (.ref a) from z)
              cases eb
              rcases hb' with hb' | ⟨o, hb'⟩ <;> (rw [hn0] at hb'; cases hb')
            | dead => simp only [Fx.dv] at ed; rw [q] at ed; cases ed
            | tbl _ => simp only [Fx.dv] at ed; rw [q] at ed; cases ed
            | exc _ _ => simp only [Fx.dv] at ed; rw [q] at ed; cases ed
            | tup xs => simp only [Fx.dv] at ed; rw [q] at ed; simp only [Option.map_eq_some_iff] at ed; obtain ⟨_, _, ed⟩ := ed; cases ed
            | lst xs => simp only [Fx.dv] at ed; rw [q] at ed; simp only [Option.map_eq_some_iff] at ed; obtain ⟨_, _, ed⟩ := ed; cases ed
            | ins C xs => simp only [Fx.dv] at ed; rw [q] at ed; simp only [Option.map_eq_some_iff] at ed; obtain ⟨_, _, ed⟩ := ed; cases ed
      refine ⟨a, kvs, rfl, nap, hh, ha, by rw [ra.length]; exact hk, (repk_keys ra).trans hkeys, fun o dx ho hdx ne => ?_⟩
      have r3 := r2.setC (co := .dic (kds.map fun p => (p.1, SV.im p.2))) (u := .dK kvs) e0 rfl hap ⟨hn0, _, upd_same, rvk_im ra⟩ rfl
      obtain ⟨r4, l4⟩ := r3.newF (o := .own o) hdx
      have ho2 : upd (upd H1 p (.dK kvs)) dx (.own o) o = none := by rw [upd_ne (Ne.symm ne)]; exact ho
      have hn4 := none_back r4.ih ho2
      obtain ⟨r5, l5⟩ := r4.newC (o := .ins (He.ga K x) dx []) (co := .ins x []) ho2 ⟨hn4, dx, [], upd_same, rfl⟩ rfl
      have l45 := l4.trans l5
      have hxa : (as1 ++ [o])[δ1.ce.length]? = some o := by rw [← r2.clen]; simp
      have rv' : RVL K (upd I1 dx (.own o)) (as1 ++ [o]) (.cl δ1.ce.length :: (kds.map (·.2)).map SV.im) (.ref o :: kvs.map (·.2)) :=
        ⟨_, _, rfl, ⟨o, hxa, rfl⟩, (rvl_im (repk_vals ra)).mono l45⟩
      have c2 := c1.later l2
      refine ⟨by rw [rv'.length]; simpa using hlen, xs, fr, _, _, _, _, r5.bare, rv', ⟨?_⟩⟩
      show (F (.cl δ1.ce.length :: (kds.map (·.2)).map SV.im) (δ1.ce.set δ.ce.length (.dic (kds.map fun p => (p.1, .im p.2))) ++ [.ins x []])).sat _ _
      cases q : F (.cl δ1.ce.length :: (kds.map (·.2)).map SV.im) (δ1.ce.set δ.ce.length (.dic (kds.map fun p => (p.1, .im p.2))) ++ [.ins x []]) with
      | bad => rw [q] at k; exact k
      | ok s2 ce =>
        rw [q] at k
        cases s2 with
        | no => exact k.elim
        | cl _ => exact k.elim
        | im d0 =>
          cases d0 with
          | non =>
            dsimp only at k
            intro v I' as' H' r' l' rvv
            refine ⟨rvv, ?_⟩
            have hxa' := l'.a _ _ hxa
            split at k
            · rename_i d ce1 qf
              obtain ⟨I4, r6, l6, rep⟩ := R.frz r' qf
              have rep := rep o hxa'
              have l14 := (l45.trans l').trans l6
              exact c2.v (.im d) _ _ I4 as' H' (R.reslot r6 r3 l14) l14 rep k
            · exact k.elim
          | _ => exact k.elim
      | ex y ce =>
        rw [q] at k
        intro d I' as' H' r' l' xr
        have l14 := l45.trans l'
        exact c2.x y _ d I' as' H' (R.reslot r' r3 l14) l14 xr k
    · exact k.elim
  · exact k.elim
end
section
variable {P : Program} {w : World} {K : PySem.W.Frag} {mg : Str → Option Value} {base : Heap} {x qual : Str} {params : Arguments} {body : List Stmt} {scope : Scope} {kws : List (Str × V)} {f : Addr} {fd : FuncData}
theorem fn_okKW {N ps ks : List Str} {pd : Str} {k : Nat} {a : AS} (F : FunD K x qual params body scope [] kws f fd) (S : FnScope N (ps ++ [pd]) scope) (hps : (ps ++ [pd]).length ≤ N.length) (hks : ks.length ≤ 1000)
    (hb : ∀ (kV doc pm : Value) (an : Option Addr) (cdv ct : Value) (us ws : List Value), us.length = ps.length → ws.length = ks.length → bindArgs (PySem.W.fnOf x qual params body scope .none kV doc pm an cdv ct) ⟨us, ks.zip ws⟩ =
      ((alloc ({ cls := .type "dict", data := .dict #[] } : Obj) : Sem Addr) >>= fun d => putFor d (ks.zip ws) >>= fun _ => pure (ps.zip us ++ [(pd, Value.ref d)])))
    (hbd : ∀ (cdv : Value) (Ar : Around) (outer : List Env) (s : Shared) (H : Hp) (E : XK) (xs : Xs), RoomG k (Ar.deeper (PyProof.Rows.envOfC qual scope s.heap.objs.size f cdv)) →
      ∃ t, PSs (cxOf (CX P w) P w K mg base N qual scope f cdv Ar outer s H E) body t ∧ SS K xs (fun cls d _ H => E cls d H) t a) :
    FnKW P w K mg base (CX P w) (k + 1) f ks (fun vs zs H Q E => vs.length = ps.length ∧ zs.length = ks.length ∧ ∀ d, H d = none → spFn K (ps ++ [pd]).length (aDef N.length a) (vs ++ [V.ref d]) (upd H d (.dK (mergeK [] (inrs (ks.zip zs))))) Q E) := by
  refine fn_kw (sp := spFn K (ps ++ [pd]).length (aDef N.length a)) F S StX.cxUp hks hb fun cdv Ar outer s H vs Q E hr h => ?_
  obtain ⟨hl, xs, fr, ss, ce, as, I, r, rv, e⟩ := h
  obtain ⟨t, h1, h2⟩ := hbd cdv Ar outer s H E xs hr
  exact ⟨t, h1, body_ok h2 (by rw [← rv.length, hl]; exact hps) r rv retF (fun e r' l rv => retF_ok (δ := ⟨[], ce⟩) r e r' l rv) e⟩
end
section
variable {δ : Sta} {Ψ : SV → Sta → Prop} {Ξ : Xn → Sta → Prop} {a e : AE} {r : AA}
theorem s_methKW {tab : MTab} {m : Str} {ks : List Str} (h : (a δ).sat (fun s δ1 => ∃ C F, clsS δ1 m s = some C ∧ tab.lookup C = some (2, F) ∧ (r δ1).sat (fun ss δ2 => ss.length = ks.length ∧
    (F [s, .cl δ2.ce.length] (δ2.ce ++ [.dic (mergeS [] (inrs (ks.zip ss)))])).sat (fun s2 ce => ∃ d ce2, s2 = .im d ∧ cutTo δ2.ce ce = some ce2 ∧ Ψ (.im d) ⟨δ2.sl, ce2⟩) (fun x ce => Ξ x ⟨δ2.sl, ce⟩)) Ξ) Ξ) : (aMethKW tab m ks a r δ).sat Ψ Ξ :=
  sat_of_bind (Out.sat_mono h (fun s δ1 ⟨C, F, h0, h1, h2⟩ => by
    rw [h0]; dsimp only; rw [h1]; dsimp only
    refine sat_of_bind (Out.sat_mono h2 (fun ss δ2 ⟨h3, h4⟩ => ?_) fun _ _ z => z)
    rw [if_pos ⟨rfl, h3⟩]
    cases q : F [s, .cl δ2.ce.length] (δ2.ce ++ [.dic (mergeS [] (inrs (ks.zip ss)))]) with
    | ok s2 ce =>
      rw [q] at h4
      obtain ⟨d, ce2, rfl, e1, e2⟩ := h4
      dsimp only
      rw [e1]
      exact e2
    | ex x ce => rw [q] at h4; exact h4
    | bad => rw [q] at h4; exact h4) fun _ _ z => z)
theorem s_makeKW {x : Str} {n : Nat} {F : Fn} {ks : List Str} (h : (e ⟨δ.sl, δ.ce ++ [.dic []]⟩).sat (fun s δ1 => ∃ kds, dv δ1.ce s = some (.dic kds) ∧ δ1.ce[δ.ce.length]? = some (.dic []) ∧ (kds.length ≤ 1000 ∧ notCl s δ.ce.length = true ∧ kds.map (·.1) = ks.map .inr ∧ kds.length + 1 = n) ∧
    (F (.cl δ1.ce.length :: (kds.map (·.2)).map SV.im) (δ1.ce.set δ.ce.length (.dic (kds.map fun p => (p.1, .im p.2))) ++ [.ins x []])).sat (fun s2 ce => s2 = .im .non ∧ ∃ d ce2, frz ce δ1.ce.length = some (d, ce2) ∧ Ψ (.im d) ⟨δ1.sl, ce2⟩) (fun y ce => Ξ y ⟨δ1.sl, ce⟩)) Ξ) : (aMakeKW x n F ks e δ).sat Ψ Ξ :=
  sat_of_bind (Out.sat_mono h (fun s δ1 ⟨kds, h0, h1, h2, h3⟩ => by
    rw [h0, h1]; dsimp only; rw [if_pos h2]
    cases q : F (.cl δ1.ce.length :: (kds.map (·.2)).map SV.im) (δ1.ce.set δ.ce.length (.dic (kds.map fun p => (p.1, .im p.2))) ++ [.ins x []]) with
    | ok s2 ce =>
      rw [q] at h3
      obtain ⟨rfl, d, ce2, e1, e2⟩ := h3
      dsimp only
      rw [e1]
      exact e2
    | ex x ce => rw [q] at h3; exact h3
    | bad => rw [q] at h3; exact h3) fun _ _ z => z)
theorem s_bmd {f : ABM} (h : (a δ).sat (fun s δ1 => tyC δ1 s = true ∧ (r δ1).sat (fun ss δ2 => (f s ss δ2).sat Ψ Ξ) Ξ) Ξ) : (aBMd f a r δ).sat Ψ Ξ :=
  sat_of_bind (Out.sat_mono h (fun s δ1 ⟨h0, h1⟩ => by rw [if_pos h0]; exact sat_of_bind h1) fun _ _ z => z)
theorem s_update {c : Nat} {t : SV} {kvs : List (Key × SV)} {kds : List (Key × D)} (h1 : δ.ce[c]? = some (.dic kvs)) (h2 : dv δ.ce t = some (.dic kds)) (h3 : kvs.length + kds.length ≤ 1000 ∧ notCl t c = true)
    (h : Ψ (.im .non) ⟨δ.sl, δ.ce.set c (.dic (mergeS kvs (kds.map fun p => (p.1, .im p.2))))⟩) : (updateA (.cl c) [t] δ).sat Ψ Ξ := by
  unfold updateA
  dsimp only
  rw [h1, h2]
  dsimp only
  rw [if_pos h3]
  exact h
theorem cutTo_last {pre : List CO} {x x' : CO} {m : List CO} (hb : ∀ k, x'.bnd k = true) : cutTo (pre ++ [x]) (pre ++ x' :: m) = some (pre ++ [x']) := by
  unfold cutTo
  split
  · rename_i hl
    cases m with
    | nil => rfl
    | cons _ _ => simp at hl
  · have key : ∀ (k : Nat) (p : List CO), okAll k (p ++ [x]) (p ++ x' :: m) = true := fun k p => by
      induction p with
      | nil => simp [okAll, hb]
      | cons y ys ih => simp only [List.cons_append, okAll, ih, decide_true, Bool.true_or, Bool.and_self]
    rw [if_pos (key _ _)]
    congr 1
    simp [List.take_append, List.take_of_length_le]
end
end Fx

set_option Elab.async false
set_option linter.all false
set_option autoImplicit false
set_option maxRecDepth 100000
set_option maxHeartbeats 2000000
namespace Fx
open PySem L2
/-! ## errors raised and caught -/
def CO.isX : CO → Bool
  | .exc _ _ => true
  | _ => false
def noX (ce : List CO) : Bool := ce.all fun o => !o.isX
/-- raise x(e) -/
def aRaise (x fld : Str) (e : AE) : AS := fun δ => match e δ with
  | .ok s δ1 => .ex ⟨.own x, [(fld, s)]⟩ δ1
  | .ex y δ1 => .ex y δ1
  | .bad => .bad
/-- what stands behind a body that is tried -/
def tryX (tab : List (XC × Bool)) (i : Nat) (suite : AS) (x : Xn) (δ1 : Sta) : OutS := match tab.lookup x.cls with
  | some true => if noX δ1.ce = true then (match suite ⟨δ1.sl.set i (.cl δ1.ce.length), δ1.ce ++ [.exc x.cls x.fs]⟩ with
    | .nx δ2 => if noX (δ2.ce.set δ1.ce.length .dead) = true then .nx ⟨δ2.sl.set i .no, δ2.ce.set δ1.ce.length .dead⟩ else .bad
    | .rt s δ2 => if noX (δ2.ce.set δ1.ce.length .dead) = true then .rt s ⟨δ2.sl.set i .no, δ2.ce.set δ1.ce.length .dead⟩ else .bad
    | _ => .bad) else .bad
  | some false => .ex x δ1
  | none => .bad
/-- try: body except C as n: suite -/
def aTry (tab : List (XC × Bool)) (i : Nat) (body suite : AS) : AS := fun δ => match body δ with
  | .ex x δ1 => tryX tab i suite x δ1
  | o => o
section
variable {K : PySem.W.Frag} {xs : Xs} {W : WX}
theorem ss_raise {x fld : Str} {te : TE} {e : AE} (he : SE K xs W te e) : SS K xs W (tRaiseSup (He.ga K x) fld W (tCons te tNil)) (aRaise x fld e) := by
  intro fr δ Φ h σ I as H D r c
  refine he fr δ (fun s δ1 => Φ.ex ⟨.own x, [(fld, s)]⟩ δ1) Φ.ex ?_ σ I as H _ r ⟨fun s δ1 v I1 as1 H1 r1 l1 rv k => ?_, fun y δ1 d I1 as1 H1 r1 l1 xr k => c.x y δ1 σ d I1 as1 H1 r1 l1 xr k⟩
  · unfold aRaise at h
    cases q : e δ <;> rw [q] at h <;> exact h
  · refine ⟨v, rfl, fun d hd => ?_⟩
    obtain ⟨r2, l2⟩ := r1.newF (o := .xd [(fld, v)]) hd
    exact c.x ⟨.own x, [(fld, s)]⟩ δ1 σ (some d) _ as1 _ r2 (l1.trans l2) ⟨[(fld, v)], upd_same, v, [], rfl, rv.mono l2, rfl⟩ k
/-- e.f of a caught error -/
def aXF (x fld : Str) (a : AE) : AE := fun δ => (a δ).bind fun s δ1 => match s with
  | .cl c => (match δ1.ce[c]? with
    | some (.exc (.own y) [(f, t)]) => if y = x ∧ f = fld then .ok t δ1 else .bad
    | _ => .bad)
  | _ => .bad
/-- isinstance(e, c) of a caught error -/
def isxA (tab : Isi) : ACB := fun ss δ => match ss with
  | [.cl c, t] => (match δ.ce[c]?, dv δ.ce t with
    | some (.exc k (_ :: _)), some d => (match clsD d with
      | some cc => (match tab.lookup (k, cc) with
        | some b => .ok (.im (.bl b)) δ
        | none => .bad)
      | none => .bad)
    | _, _ => .bad)
  | _ => .bad
structure IsxOk (K : PySem.W.Frag) (tab : Isi) : Prop where
  go : ∀ k c b, tab.lookup (k, c) = some b → ∃ x, k = .own x ∧ ExcC K (He.ga K x) ∧ PySem.W.kitOne K (.ref (He.ga K x)) (c.v K) = some b
end
end Fx

set_option Elab.async false
set_option linter.all false
set_option autoImplicit false
set_option maxRecDepth 100000
set_option maxHeartbeats 4000000
namespace Fx
open PySem PySem.W PySem.HandSPX L2
/-! ## what is written of own errors, found by looking -/
def isIA (f : Str) : Arguments → Bool
  | ⟨[], [⟨a, none, _⟩, ⟨b, none, _⟩], none, [], [], none, []⟩ => a == ("self" : Str) && b == f
  | _ => false
theorem isIA_ok {f : Str} {x : Arguments} (h : isIA f x = true) : ∃ p1 p2, x = iA f p1 p2 := by
  unfold isIA at h
  split at h
  · simp only [Bool.and_eq_true, beq_iff_eq] at h
    obtain ⟨rfl, rfl⟩ := h
    exact ⟨_, _, rfl⟩
  · cases h
def isIB (f : Str) : FuncBody → Bool
  | .stmts [.Expr (.Call (.Attribute (.Call (.Name s _) [] [] _) i a3) [.Name f1 _] [] a5) _, .Assign [.Attribute (.Name sf _) f2 _] (.Name f3 _) _] => s == ("super" : Str) && (i == ("__init__" : Str) && (f1 == f && (sf == ("self" : Str) && (f2 == f && (f3 == f && a3.endLine == a5.line)))))
  | _ => false
theorem isIB_ok {f : Str} {x : FuncBody} (h : isIB f x = true) : ∃ a1 a2 a3 a4 a5 a6 q1 q2 q3 q4, (a3.endLine == a5.line) = true ∧ x = .stmts (iB f a1 a2 a3 a4 a5 a6 q1 q2 q3 q4) := by
  unfold isIB at h
  split at h
  · simp only [Bool.and_eq_true, beq_iff_eq] at h
    obtain ⟨rfl, rfl, rfl, rfl, rfl, rfl, hl⟩ := h
    exact ⟨_, _, _, _, _, _, _, _, _, _, beq_iff_eq.mpr hl, rfl⟩
  · cases h
def isIS (f : Str) : Scope → Bool
  | ⟨.function, [(n1, .local), (n2, .local), (n3, .free), (n4, .globalImplicit)], false, false, []⟩ => n1 == ("self" : Str) && (n2 == f && (n3 == ("__class__" : Str) && n4 == ("super" : Str)))
  | _ => false
theorem isIS_ok {f : Str} {x : Scope} (h : isIS f x = true) : x = iS f := by
  unfold isIS at h
  split at h
  · simp only [Bool.and_eq_true, beq_iff_eq] at h
    obtain ⟨rfl, rfl, rfl, rfl⟩ := h
    rfl
  · cases h
def xclsB (K : Frag) (C : Addr) : Bool := match K.lookup C with
  | some ⟨.type "type", _, .cls cd, sl⟩ => (match cd.mro, sl.toList with
    | .ref C' :: bm, [_, _, _, _, some (.builtin n), _] => C' == C && n == "ValueError.__new__" && !cd.hasDel && refsVE bm && cd.hasDict
    | _, _ => false)
  | _ => false
theorem xclsB_ok {K : Frag} {C : Addr} (q : xclsB K C = true) : ∃ nm qn N bs bm sn sub ab col dd k0 k1 k2 k3 k5, K.lookup C = some (excClassObj nm qn C N bs bm true sn sub ab col dd k0 k1 k2 k3 k5 "ValueError.__new__") ∧ refsVE bm = true := by
  unfold xclsB at q
  split at q
  · rename_i dd cd sl ho
    split at q
    · rename_i C' bm k0 k1 k2 k3 n k5 hm hs
      simp only [Bool.and_eq_true, beq_iff_eq, Bool.not_eq_true'] at q
      obtain ⟨⟨⟨⟨rfl, rfl⟩, hdel⟩, ht⟩, hd⟩ := q
      obtain ⟨nm, bs, mro, ns, qn, hdc, sn, sub, ab, col, del⟩ := cd
      dsimp only at hm hdel hd
      subst hm hdel hd
      have hsl : sl = #[k0, k1, k2, k3, some (.builtin "ValueError.__new__"), k5] := by
        obtain ⟨l⟩ := sl
        simp only at hs
        rw [hs]
      subst hsl
      exact ⟨nm, qn, ns, bs, bm, sn, sub, ab, col, dd, k0, k1, k2, k3, k5, ho, ht⟩
    · cases q
  · cases q
def codeB (file : Str) (K : Frag) (cda : Addr) : Bool := match K.lookup cda with
  | some ⟨_, _, .fields vs, _⟩ => (match (vs[2]? : Option Value) with
    | some (.str f _) => file == f
    | _ => false)
  | _ => false
theorem codeB_ok {file : Str} {K : Frag} {cda : Addr} (h : codeB file K cda = true) : ∃ ccl cdd vs ccs f tf, K.lookup cda = some ⟨ccl, cdd, .fields vs, ccs⟩ ∧ vs[2]? = some (.str f tf) ∧ (file == f) = true := by
  unfold codeB at h
  split at h
  · rename_i a b vs c e
    split at h
    · rename_i f tf e2
      exact ⟨a, b, vs, c, f, tf, e, e2, h⟩
    · cases h
  · cases h
def cellB (K : Frag) (cc C : Addr) : Bool := match K.lookup cc with
  | some ⟨_, _, .cell (some (.ref D)), _⟩ => D == C
  | _ => false
theorem cellB_ok {K : Frag} {cc C : Addr} (h : cellB K cc C = true) : ∃ cl cld csl, K.lookup cc = some ⟨cl, cld, .cell (some (.ref C)), csl⟩ := by
  unfold cellB at h
  split at h
  · rename_i a b D c e
    cases beq_iff_eq.mp h
    exact ⟨a, b, c, e⟩
  · cases h
def initB (file : Str) (K : Frag) (C fI : Addr) (f : Str) : Bool := match K.lookup fI with
  | some ⟨_, _, .func fd, _⟩ => isIA f fd.params && (isIB f fd.body && (isIS f fd.scope && (fd.name == ("__init__" : Str) && (fd.globals == mainGlobals && (fd.builtins == builtinsNs && (match fd.closure, fd.defaults, fd.kwdefaults, fd.code with
    | [(n, cc)], .none, .none, .ref cda => n == ("__class__" : Str) && (codeIn K (.ref cda) fd.qualname && (codeB file K cda && cellB K cc C))
    | _, _, _, _ => false))))))
  | _ => false
theorem initB_ok {file : Str} {K : Frag} {C fI : Addr} {f : Str} (h : initB file K C fI f = true) : ∃ (qual : Str) (oc : Value) (od : Option Addr) (doc pm : Value) (an : Option Addr) (cda : Addr) (ct : Value) (osl : Array (Option Value)) (cc : Addr) (p1 p2 a1 a2 a3 a4 a5 a6 q1 q2 q3 q4 : Pos) (ccl : Value) (cdd : Option Addr) (vs : Array Value) (ccs : Array (Option Value)) (fl : Str) (tf : Tok) (cl : Value) (cld : Option Addr) (csl : Array (Option Value)),
    (a3.endLine == a5.line) = true ∧ K.lookup fI = some ⟨oc, od, .func (ksFn "__init__" qual (iA f p1 p2) (iB f a1 a2 a3 a4 a5 a6 q1 q2 q3 q4) (iS f) .none .none doc pm an (.ref cda) ct cc), osl⟩ ∧ codeIn K (.ref cda) qual = true ∧
    K.lookup cda = some ⟨ccl, cdd, .fields vs, ccs⟩ ∧ vs[2]? = some (.str fl tf) ∧ (file == fl) = true ∧ K.lookup cc = some ⟨cl, cld, .cell (some (.ref C)), csl⟩ := by
  unfold initB at h
  split at h
  · rename_i oc od fd osl e
    obtain ⟨nm, qn, ps, bd, sc, gl, clo, dV, kV, doc, pm, an, code, ct, bl⟩ := fd
    simp only [Bool.and_eq_true, beq_iff_eq] at h
    obtain ⟨h1, h2, h3, rfl, rfl, rfl, h⟩ := h
    obtain ⟨p1, p2, rfl⟩ := isIA_ok h1
    obtain ⟨a1, a2, a3, a4, a5, a6, q1, q2, q3, q4, hln, rfl⟩ := isIB_ok h2
    cases isIS_ok h3
    split at h
    · simp only [Bool.and_eq_true, beq_iff_eq] at h
      obtain ⟨rfl, h4, h5, h6⟩ := h
      obtain ⟨ccl, cdd, vs, ccs, fl, tf, g1, g2, g3⟩ := codeB_ok h5
      obtain ⟨cl, cld, csl, g4⟩ := cellB_ok h6
      exact ⟨qn, oc, od, doc, pm, an, _, ct, osl, _, p1, p2, a1, a2, a3, a4, a5, a6, q1, q2, q3, q4, ccl, cdd, vs, ccs, fl, tf, cl, cld, csl, hln, e, h4, g1, g2, g3, g4⟩
    · cases h
  · cases h
def fIof (K : Frag) (C : Addr) : Addr := match findIn K (.ref C) "__init__" with
  | some (some (.ref a)) => a
  | _ => 0
def supB (file : Str) (K : Frag) (x f : Str) : Bool :=
  let C := He.ga K x
  let fI := fIof K C
  xclsB K C && (He.eqO (findIn K (.ref C) "__setattr__") (some (some (.builtin "object.__setattr__"))) && (He.eqO (findIn K (.ref C) "__getattribute__") (some (some (.builtin "BaseException.__getattribute__"))) && (He.eqO (findIn K (.ref C) "__getattr__") (some none) &&
  (He.eqO (findIn K (.ref C) f) (some none) && (He.eqO (findIn K (.ref C) "__init__") (some (some (.ref fI))) && (decide (typeIn K (.ref fI) = some (.type "function")) && (keepIn K (.ref C) && (decide (subIn K (.ref C) (.type "BaseException") = some true) && (decide (typeIn K (.ref C) = some (.type "type")) &&
  (hasDictIn K C && (decide (exmOne K (.ref C) (.ref C) = some true) && (He.eqO (ks_superIn K C C "__init__") (some (some (.builtin "ValueError.__init__"))) && (decide (subIn K (.ref C) (.type "ValueError") = some true) && (decide (mroIn K C (.ref C) = some true) && (He.eqO (nsIn K cStatics "thirdparty.any") (some none) && initB file K C fI f)))))))))))))))
theorem supB_ok {P : Program} {K : Frag} {mg : Str → Option Value} {x f : Str} (hf : FldOk f) (gC : mg x = some (.ref (He.ga K x))) (ns : mg "super" = none) (top : (P.main.scope.names.lookup ("super" : Str)).isSome = false) (c : supB P.main.file K x f = true) : SupTxt P K mg x f (He.ga K x) (fIof K (He.ga K x)) := by
  unfold supB at c
  simp only [Bool.and_eq_true, decide_eq_true_eq] at c
  obtain ⟨c1, c2, c3, c4, c5, c6, c7, c8, c9, c10, c11, c12, c13, c14, c15, c16, c17⟩ := c
  exact ⟨hf, gC, xclsB_ok c1, He.eqO_ok c2, He.eqO_ok c3, He.eqO_ok c4, He.eqO_ok c5, He.eqO_ok c6, c7, c8, c9, c10, c11, c12, He.eqO_ok c13, c14, c15, He.eqO_ok c16, ns, top, initB_ok c17⟩
def exmB (K : Frag) (h : Str) (tab : List (XC × Bool)) : Bool := tab.all fun p => decide (exmOne K (p.1.v K) (.ref (He.ga K h)) = some p.2)
theorem exmB_ok {K : Frag} {h : Str} {tab : List (XC × Bool)} (c : exmB K h tab = true) : ∀ k b, tab.lookup k = some b → exmOne K (k.v K) (.ref (He.ga K h)) = some b := fun k b e =>
  of_decide_eq_true (List.all_eq_true.mp c (k, b) (look_mem e))
/-! ## a head's facts, looked up with the table of the interpreter's statics at hand -/
section
open He
def asY (g : Addr → Option Obj) (n : Nat) : List Addr := He.asD g n ++ [cStatics]
def obsY (n : Nat) (fa : List He.Fa) (fn : List DefD) (ts : List He.Tab) (tf : List He.Defn) (ex : Frag → Bool) (g : Addr → Option Obj) : He.AlX := (He.obsT fa fn ts (He.frT g (asY g n)), ex (He.frT g (asY g n)) && He.tabsB g tf (He.frT g (asY g n)))
theorem says_fr {as : List Addr} {fa : List He.Fa} {fn : List DefD} {ts : List He.Tab} {tf : List He.Defn} {ex : Frag → Bool} {w : World} {h : Heap} {K : Frag} (hK : He.frT h.get? as = K) (e1 : He.obsT fa fn ts K = He.valT fn ts w) (e2 : (ex K && He.tabsB h.get? tf K) = true) : He.SaysX fa fn ts tf ex w h K := by
  rw [Bool.and_eq_true] at e2
  have key : ∀ p ∈ tf, codeHdIn K (He.cT K p).1 (He.cT K p).2 = true ∧ ∃ o, h.get? (He.cT K p).2 = some o ∧ He.emptyTab o = true := fun p hp => by
    have z := List.all_eq_true.mp e2.2 p hp
    rw [Bool.and_eq_true] at z
    refine ⟨z.1, ?_⟩
    have y := z.2
    split at y
    · exact ⟨_, by assumption, y⟩
    · cases y
  refine ⟨e1, e2.1, fun p hp => (key p hp).1, fun p hp => ?_, fun p hp => ?_⟩
  · obtain ⟨_, o, q, z⟩ := key p hp
    rw [← hK] at q ⊢
    exact He.frT_none q z
  · obtain ⟨_, o, q, z⟩ := key p hp
    rw [q, He.emptyTab_eq z]
def hookY (n : Nat) (fa : List He.Fa) (fn : List DefD) (ts : List He.Tab) (tf : List He.Defn) (ex : Frag → Bool) : Hook where
  α := He.AlX
  obs := fun s => obsY n fa fn ts tf ex s.heap.get?
  val := fun w => He.valX fn ts w
  says := fun w h => ∃ K : Frag, K.In h ∧ He.SaysX fa fn ts tf ex w h K
  of := fun _ _ e => ⟨_, He.frT_in, says_fr rfl (congrArg (fun z : He.AlX => z.1) e) (congrArg (fun z : He.AlX => z.2) e)⟩
  keeps := fun _ _ _ ⟨K, hK, c⟩ k => ⟨K, Frag.In.keeps hK k, ⟨c.t, c.more, c.hd, c.out, fun p hp => k _ _ (c.empty p hp)⟩⟩
theorem obsY_eq {n : Nat} {fa : List He.Fa} {fn : List DefD} {ts : List He.Tab} {tf : List He.Defn} {ex : Frag → Bool} {g : Addr → Option Obj} {s : Shared} (h : ∀ a, g a = s.heap.get? a) : obsY n fa fn ts tf ex g = (hookY n fa fn ts tf ex).obs s := by
  cases (funext h : g = s.heap.get?)
  rfl
end
end Fx

set_option Elab.async false
set_option linter.all false
set_option autoImplicit false
set_option maxRecDepth 100000
set_option maxHeartbeats 2000000
namespace Fx
open PySem PySem.Spec PyProof.Rows L2
/-! ## repr of nested lists and tuples -/
section
variable {K : PySem.W.Frag} {xs : Xs} {W : WX}
/-! ## zip of two lists -/
def zipD : List D → List D → List D
  | d :: ds, e :: es => .tup [d, e] :: zipD ds es
  | _, _ => []
/-- for .. in zip(x, y), two lists -/
def aZip (r : AA) : AI := fun δ => (r δ).bind fun ss δ1 => match ss with
  | [s, t] => (match toIm δ1.ce s with
    | some (.lst ds, ce1) => (match toIm ce1 t with
      | some (.lst es, ce2) => .ok (zipD ds es) ⟨δ1.sl, ce2⟩
      | _ => .bad)
    | _ => .bad)
  | _ => .bad
end
section
variable {δ : Sta} {Ψ : SV → Sta → Prop} {Ξ : Xn → Sta → Prop} {r : AA}
theorem s_zip {Ψi : List D → Sta → Prop} (h : (r δ).sat (fun ss δ1 => ∃ s t ds ce1 es ce2, ss = [s, t] ∧ toIm δ1.ce s = some (.lst ds, ce1) ∧ toIm ce1 t = some (.lst es, ce2) ∧ Ψi (zipD ds es) ⟨δ1.sl, ce2⟩) Ξ) : (aZip r δ).sat Ψi Ξ :=
  sat_of_bind (Out.sat_mono h (fun ss δ1 ⟨s, t, ds, ce1, es, ce2, h0, h1, h2, h3⟩ => by subst h0; dsimp only; rw [h1]; dsimp only; rw [h2]; exact h3) fun _ _ z => z)
end
/-! ## d[k] = v as one of some targets -/
section
variable {K : PySem.W.Frag} {xs : Xs} {ta tb : TE} {a b : AE}
end
/-! ## plain steps for errors -/
section
variable {δ : Sta} {Ψ : SV → Sta → Prop} {Ξ : Xn → Sta → Prop} {Φ : Post} {a e : AE} {p q : AS}
theorem s_raise {x fld : Str} (h : (e δ).sat (fun s δ1 => Φ.ex ⟨.own x, [(fld, s)]⟩ δ1) Φ.ex) : (aRaise x fld e δ).sat Φ := by
  unfold aRaise
  cases hq : e δ <;> rw [hq] at h <;> exact h
theorem s_try {tab : List (XC × Bool)} {i : Nat} (h : (p δ).sat { Φ with ex := fun x δ1 => (tryX tab i q x δ1).sat Φ }) : (aTry tab i p q δ).sat Φ := by
  unfold aTry
  cases hq : p δ <;> rw [hq] at h <;> exact h
theorem s_xf {x fld : Str} (h : (a δ).sat (fun s δ1 => ∃ c t, s = .cl c ∧ δ1.ce[c]? = some (.exc (.own x) [(fld, t)]) ∧ Ψ t δ1) Ξ) : (aXF x fld a δ).sat Ψ Ξ :=
  sat_of_bind (Out.sat_mono h (fun s δ1 ⟨c, t, h0, h1, h2⟩ => by subst h0; dsimp only; rw [h1]; dsimp only; rw [if_pos ⟨rfl, rfl⟩]; exact h2) fun _ _ z => z)
theorem s_isx {tab : Isi} {c : Nat} {t : SV} {k cc : XC} {p : Str × SV} {fs : List (Str × SV)} {d : D} {b : Bool} (h1 : δ.ce[c]? = some (.exc k (p :: fs))) (h2 : dv δ.ce t = some d) (h3 : clsD d = some cc) (h4 : tab.lookup (k, cc) = some b) (h : Ψ (.im (.bl b)) δ) : (isxA tab [.cl c, t] δ).sat Ψ Ξ := by
  unfold isxA
  dsimp only
  rw [h1, h2]
  dsimp only
  rw [h3]
  dsimp only
  rw [h4]
  exact h
end
end Fx

set_option Elab.async false
set_option linter.all false
set_option autoImplicit false
set_option maxRecDepth 100000
set_option maxHeartbeats 2000000
namespace Fx
open PySem L2
/-! ## a list by a comprehension, to be changed -/
def aLcC (it : AI) (g : AG) (t : AT) (e : AE) (vs : List Nat) : AE := fun δ => (it δ).bind fun ds δ1 => if ds.length ≤ 100000 then (match lcL g t e (wipeS δ1.sl vs) ds [] δ1.ce with
  | some (acc, ce) => .ok (.cl ce.length) ⟨δ1.sl, ce ++ [.lst (acc.map SV.im)]⟩
  | none => .bad) else .bad
section
variable {K : PySem.W.Frag} {xs : Xs} {W : WX}
end
section
variable {δ : Sta} {Ψ : SV → Sta → Prop} {Ξ : Xn → Sta → Prop} {e : AE} {t : AT}
theorem s_lcC {it : AI} {g : AG} {vs : List Nat} (J : List D → List CO → Prop) (h : (it δ).sat (fun ds δ1 => ds.length ≤ 100000 ∧ J [] δ1.ce ∧ (∀ d ∈ ds, ∀ acc ce, J acc ce → ∃ δ2, g (.im d) ⟨wipeS δ1.sl vs, ce⟩ = some δ2 ∧ (t δ2).sat (fun b δ2 => (b = true → (e δ2).sat (fun s δ3 => ∃ y ce3, toIm δ3.ce s = some (y, ce3) ∧ J (acc ++ [y]) (cutOr ce ce3)) fun _ _ => False) ∧ (b = false → J acc (cutOr ce δ2.ce))) fun _ _ => False) ∧ ∀ acc ce, J acc ce → acc.length ≤ ds.length → Ψ (.cl ce.length) ⟨δ1.sl, ce ++ [.lst (acc.map SV.im)]⟩) Ξ) : (aLcC it g t e vs δ).sat Ψ Ξ :=
  sat_of_bind (Out.sat_mono h (fun ds δ1 ⟨h0, h1, h2, h3⟩ => by
    rw [if_pos h0]
    obtain ⟨acc, ce, e1, hJ⟩ := s_lcL J ds [] δ1.ce h1 h2
    have hl := lcL_len _ _ _ _ _ e1
    rw [e1]
    exact h3 acc ce hJ (by simpa using hl)) fun _ _ z => z)
end
section
variable {δ : Sta} {Ψ : SV → Sta → Prop} {Ξ : Xn → Sta → Prop} {Φ : Post} {a b e : AE} {r : AA} {ce : List CO} {Ψf : SV → List CO → Prop} {Ξf : Xn → List CO → Prop} {n : Nat}
theorem s_asgIxG (h : (e δ).sat (fun s δ1 => (a δ1).sat (fun z δ2 => (b δ2).sat (fun t δ3 => ∃ c us k j, z = .cl c ∧ δ3.ce[c]? = some (.lst us) ∧ dv δ3.ce t = some (.int k) ∧ ixN us.length k = some j ∧ Φ.nx ⟨δ3.sl, δ3.ce.set c (.lst (us.set j s))⟩) fun _ _ => False) fun _ _ => False) Φ.ex) : (aAsg e (gIx a b) δ).sat Φ :=
  s_asg (Out.sat_mono h (fun s δ1 h1 => by
    cases qa : a δ1 with
    | ok z δ2 =>
      rw [qa] at h1
      have h1 : (b δ2).sat (fun t δ3 => ∃ c us k j, z = .cl c ∧ δ3.ce[c]? = some (.lst us) ∧ dv δ3.ce t = some (.int k) ∧ ixN us.length k = some j ∧ Φ.nx ⟨δ3.sl, δ3.ce.set c (.lst (us.set j s))⟩) (fun _ _ => False) := h1
      cases qb : b δ2 with
      | ok t δ3 =>
        rw [qb] at h1
        obtain ⟨c, us, k, j, rfl, e2, e3, e4, h2⟩ := h1
        refine ⟨_, ?_, h2⟩
        unfold gIx
        rw [qa]; dsimp only; rw [qb]; dsimp only; rw [e2, e3]; dsimp only; rw [e4]
      | ex y δ3 => rw [qb] at h1; exact h1.elim
      | bad => rw [qb] at h1; exact h1.elim
    | ex y δ3 => rw [qa] at h1; exact h1.elim
    | bad => rw [qa] at h1; exact h1.elim) fun _ _ z => z)
theorem s_makeX {x : Str} {F : Fn} {dds : List D} (h : (r δ).sat (fun ss δ1 => (SV.cl δ1.ce.length :: (ss ++ dds.map SV.im)).length = n ∧ (F (.cl δ1.ce.length :: (ss ++ dds.map SV.im)) (δ1.ce ++ [.ins x []])).sat (fun s ce => s = .im .non ∧ ∃ d ce1 ce2, frz ce δ1.ce.length = some (d, ce1) ∧ cutTo δ1.ce ce1 = some ce2 ∧ Ψ (.im d) ⟨δ1.sl, ce2⟩) fun y ce => ∃ ce2, cutTo δ1.ce ce = some ce2 ∧ (y.fs.all fun p => p.2.bnd ce2.length) = true ∧ Ξ y ⟨δ1.sl, ce2⟩) Ξ) : (aMake x n F dds r δ).sat Ψ Ξ :=
  sat_of_bind (Out.sat_mono h (fun ss δ1 ⟨h0, h1⟩ => by
    rw [if_pos h0]
    cases q : F (.cl δ1.ce.length :: (ss ++ dds.map SV.im)) (δ1.ce ++ [.ins x []]) with
    | ok s ce =>
      rw [q] at h1
      obtain ⟨rfl, d, ce1, ce2, e1, e2, h2⟩ := h1
      dsimp only; rw [e1]; dsimp only; rw [e2]; exact h2
    | ex y ce =>
      rw [q] at h1
      obtain ⟨ce2, e1, e2, h2⟩ := h1
      dsimp only; rw [e1]; dsimp only; rw [if_pos e2]; exact h2
    | bad => rw [q] at h1; exact h1.elim) fun _ _ z => z)
theorem s_ixK {tabs : Tabs} {c : Nat} {z : Str} {kvs : List (Key × SV)} {d : D} (hc : δ.ce[c]? = some (.dic kvs)) (hi : lookC kvs (.inr z) = some (.im d)) (h : Ψ (.im d) δ) : (ixA tabs (.cl c) (.im (.str z)) δ).sat Ψ Ξ := by
  unfold ixA
  simp only [dv]
  rw [hc]
  dsimp only [keyOf]
  rw [hi]
  exact h
theorem lc_filt {g : AG} {t : AT} {e : AE} {sl : List SV} {ce : List CO} (p : D → Bool) (f : D → D) : ∀ (ds acc : List D), (∀ d ∈ ds, ∃ δ1, g (.im d) ⟨sl, ce⟩ = some δ1 ∧ (t δ1).sat (fun b δ2 => b = p d ∧ δ2.ce = ce ∧ (b = true → (e δ2).sat (fun s δ3 => s = .im (f d) ∧ δ3.ce = ce) fun _ _ => False)) fun _ _ => False) → lcL g t e sl ds acc ce = some (acc ++ (ds.filter p).map f, ce)
  | [], acc, _ => by simp [lcL]
  | d :: ds, acc, h => by
    obtain ⟨δ1, e1, h1⟩ := h d List.mem_cons_self
    have hc : cutOr ce ce = ce := by unfold cutOr; rw [cutTo_self]
    have ih := fun acc => lc_filt p f ds acc fun d hd => h d (List.mem_cons_of_mem _ hd)
    unfold lcL
    rw [e1]
    dsimp only
    cases q : t δ1 with
    | ok b δ2 =>
      rw [q] at h1
      obtain ⟨hb, h2, h3⟩ := h1
      dsimp only
      cases b with
      | true =>
        obtain ⟨δ3, e3, e4⟩ := eq_of_sat (h3 rfl)
        rw [if_pos rfl, e3]
        dsimp only [toIm]
        rw [e4, hc, ih (acc ++ [f d]), List.filter_cons_of_pos hb.symm]
        simp
      | false =>
        rw [if_neg (by decide), h2, hc, ih acc, List.filter_cons_of_neg (by rw [← hb]; decide)]
    | ex x δ2 => rw [q] at h1; exact h1.elim
    | bad => rw [q] at h1; exact h1.elim
theorem s_lcF {it : AI} {g : AG} {t : AT} {vs : List Nat} (p : D → Bool) (f : D → D) (h : (it δ).sat (fun ds δ1 => ds.length ≤ 100000 ∧ (∀ d ∈ ds, ∃ δ2, g (.im d) ⟨wipeS δ1.sl vs, δ1.ce⟩ = some δ2 ∧ (t δ2).sat (fun b δ3 => b = p d ∧ δ3.ce = δ1.ce ∧ (b = true → (e δ3).sat (fun s δ4 => s = .im (f d) ∧ δ4.ce = δ1.ce) fun _ _ => False)) fun _ _ => False) ∧ Ψ (.im (.lst ((ds.filter p).map f))) δ1) Ξ) : (aLc it g t e vs δ).sat Ψ Ξ :=
  sat_of_bind (Out.sat_mono h (fun ds δ1 ⟨h0, h1, h2⟩ => by
    rw [if_pos h0, lc_filt p f ds [] h1]
    exact h2) fun _ _ z => z)
theorem s_lcCM {it : AI} {g : AG} {vs : List Nat} (f : D → D) (h : (it δ).sat (fun ds δ1 => ds.length ≤ 100000 ∧ (∀ d ∈ ds, ∃ δ2, g (.im d) ⟨wipeS δ1.sl vs, δ1.ce⟩ = some δ2 ∧ (e δ2).sat (fun s δ3 => s = .im (f d) ∧ δ3.ce = δ1.ce) fun _ _ => False) ∧ Ψ (.cl δ1.ce.length) ⟨δ1.sl, δ1.ce ++ [.lst ((ds.map f).map SV.im)]⟩) Ξ) : (aLcC it g aYes e vs δ).sat Ψ Ξ :=
  sat_of_bind (Out.sat_mono h (fun ds δ1 ⟨h0, h1, h2⟩ => by
    rw [if_pos h0, lc_map f ds [] h1]
    exact h2) fun _ _ z => z)
theorem exF_sat {x : Xn} {ce' ce2 : List CO} (hc : cutTo ce ce' = some ce2) (hb : (x.fs.all fun p => p.2.bnd ce2.length) = true) (h : Ξf x ce2) : (exF ce x ce').sat Ψf Ξf := by
  unfold exF
  rw [hc]
  dsimp only
  rw [if_pos hb]
  exact h
end
end Fx

set_option Elab.async false
set_option linter.all false
set_option autoImplicit false
set_option maxRecDepth 100000
set_option maxHeartbeats 4000000
namespace Fx
open PySem PySem.Spec PyProof.Rows L2
/-! ## == and != by an own __eq__, str by an own __str__ -/
theorem RoomG.in1 {k : Nat} {A : Around} (r : RoomG (k + 1) A) : RoomG k A.in1 := ⟨r.r.in1, fun z => r.gd (Nat.le_succ_of_le z)⟩
section
variable {prog : Program} {w : World} {A : Around} {E : Value → Shared → Prop} {s : Shared} {K : PySem.W.Frag} {x C f : Addr} {ox : Obj} {od : Option Obj} {b tb : Value}
open PySem.W Builtin in
theorem ifBoundB {M : Model} {name : Str} {id : String} {args : List Value} {Q : Option Value → Shared → Prop} (X : K.In s.heap) (I : InstAt s.heap x ox C od) (hs : findIn K (.ref C) name = some (some (.builtin id)))
    (hb : ∀ self, bindSpecial (.builtin id) self = pure (.builtin id, [self])) (h : wpAny M A (call (.builtin id) (.ref x :: args)) (fun v => Q (some v)) E s) : wpAny M A (callSpecialIfBound? (.ref x) name args) Q E s := by
  simp only [callSpecialIfBound?, bindSpecialIfBound?]
  refine wpAny_holding (wpAny_bind (wpAny_bind (wpAny_bind (I.type.here ((looks_findIn X hs).here ?_)))))
  refine wpAny_bind (wpAny_askSetting (wpAny_ite ?_))
  have fin : wpAny M A (call (.builtin id) ([.ref x] ++ args) >>= fun v => pure (some v)) Q E s := wpAny_bind (wpAny_mono h (fun v s' h' => wpAny_pure h') fun _ _ h' => h')
  split
  · exact wpAny_bind ((Looks.of_pure (hb _)).here (wpAny_pure (by exact fin)))
  · exact wpAny_tryCatch (wpAny_bind ((Looks.of_pure (hb _)).here (wpAny_pure (by exact fin))))
open PySem.W Builtin in
theorem one_ne {Q : Value → Shared → Prop} (hu : A.in1.units < cLine) (X : K.In s.heap) (I : InstAt s.heap x ox C od) (hm : mroIn K C (.type "object") = some true) (he : findIn K (.ref C) "__eq__" = some (some (.ref f))) (hf : isFn K (.ref f) = true)
    (h : wpAny (model prog w) A.in1 (call (.ref f) [.ref x, b]) (fun v s' => ∃ c, v = .bool c ∧ Q (.bool (!c)) s') E s) : wpAny (model prog w) A (call (.builtin "object.__ne__") [.ref x, b]) Q E s := by
  refine wpAny_call (codeAny_call_builtin (by decide +kernel) PySem.F.cmpEntry_ne (check_slot (i := "object.__ne__") (owner := "object") (n := "__ne__") PySem.F.cmpKind_ne PySem.F.cmpSplit_ne (I.type.andThen (looks_mroIn X hm)) (PySem.F.cmpArgs_ne _ _) ?_))
  unfold Builtin.«object.__ne__»
  refine wpAny_bind (m := slotArgs "__ne__" 1 _) (wpAny_pure ?_)
  refine wpAny_bind (m := cRoomFor _ _) (wpAny_cRoomFor hu ?_)
  refine wpAny_bind (m := callSpecialIfBound? (.ref x) (Str.ofString "__eq__") [b]) (ifBound_K X I he hf (wpAny_mono h (fun r s' hr => ?_) fun _ _ y => y))
  obtain ⟨c, rfl, hq⟩ := hr
  exact wpAny_bind (m := truthy (.bool c)) (wpAny_truthy_bool (wpAny_pure hq))
open PySem.W in
theorem ne_K {Q : Value → Shared → Prop} (hu : A.in1.units < cLine) (X : K.In s.heap) (I : InstAt s.heap x ox C od) (hb : Looks (model prog w) s.heap (typeOf b) tb) (hn : notFirst K C tb = true)
    (hs : findIn K (.ref C) "__ne__" = some (some (.builtin "object.__ne__"))) (hm : mroIn K C (.type "object") = some true) (he : findIn K (.ref C) "__eq__" = some (some (.ref f))) (hf : isFn K (.ref f) = true)
    (h : wpAny (model prog w) A.in1 (call (.ref f) [.ref x, b]) (fun v s' => ∃ c, v = .bool c ∧ Q (.bool (!c)) s') E s) : wpAny (model prog w) A (richCompare .NotEq (.ref x) b) Q E s := by
  have one : wpAny (model prog w) A (tryCompare (.ref x) (cmpInfo .NotEq).2.1 b) (fun r s' => ∃ v, r = some v ∧ Q v s') E s := by
    unfold tryCompare
    refine wpAny_bind (ifBoundB X I hs (by intro self; kernel_rfl) (one_ne hu X I hm he hf (wpAny_mono h (fun v s' hv => ?_) fun _ _ e => e)))
    obtain ⟨c, rfl, hq⟩ := hv
    exact ⟨c, rfl, wpAny_pure ⟨_, rfl, hq⟩⟩
  unfold richCompare
  simp only [oneThing_ref]
  refine wpAny_holding (wpAny_bind (wpAny_cRoomFor (Nat.lt_of_succ_lt hu) ?_))
  refine wpAny_bind (I.type.here (wpAny_bind (hb.here ?_)))
  split
  · rename_i q
    have e : subIn K tb (.ref C) = some false := by
      rcases Bool.or_eq_true_iff.mp hn with e | e
      · rw [beq_iff_eq.mp e] at q; simp at q
      · exact beq_iff_eq.mp e
    refine wpAny_bind ((looks_subIn X e).here ?_)
    simp only [Bool.false_eq_true, if_false]
    refine wpAny_bind (wpAny_mono one (fun r s' z => ?_) fun _ _ e => e)
    obtain ⟨v, rfl, hq⟩ := z
    exact wpAny_pure hq
  · refine wpAny_bind (wpAny_pure ?_)
    simp only [Bool.false_eq_true, if_false]
    refine wpAny_bind (wpAny_mono one (fun r s' z => ?_) fun _ _ e => e)
    obtain ⟨v, rfl, hq⟩ := z
    exact wpAny_pure hq
end
/-- a def run somewhere below the running body -/
theorem run_sub {X : Cx} {CX : CXT} {k : Nat} {f : Addr} {fd : FuncData} {ps : List Str} {sp : Sp} {E : XK} {A : Around} {pins : List (Addr × Obj)} {σ : L2.St} {H : Hp} {s : Shared} {Q : VK} {us : List Value} {vs : List V} (F : FnG X.prog X.w X.K X.mg X.base CX k f fd ps sp) (hr : RoomG k A) (hfr : A.frames = X.A.frames) (hb : Binds X.K fd ps []) (hx : Passes CX X E)
    (I : Inv X pins σ H s) (r : Vals vs us) (h : sp vs H Q E) : wpAny (model X.prog X.w) A (call (.ref f) us) (EP X pins σ Q) X.xe s := by
  have hl : us.length = ps.length := by rw [← r.length]; exact F.len _ _ _ _ h
  have e0 : Env0 X.prog X.w X.K X.mg X.base A X.stack s H := by
    have e := I.env0
    exact ⟨by rw [hfr]; exact e.frames, e.mod, e.bs, e.bsz, e.funs, e.frf, e.hok, e.bare⟩
  refine wpAny_call (codeAny_mono (F.run A X.stack s H ⟨us, []⟩ us vs Q E hr e0 (by
    have z := hb s us I.kIn (by simpa using hl)
    simpa using z) r h) fun r s' hq => ?_)
  cases r with
  | error e => exact hx pins σ H s e s' I hq
  | ok fl =>
    cases fl with
    | ret u => exact I.after hq
    | next => exact False.elim hq
    | brk => exact False.elim hq
    | cont => exact False.elim hq
theorem passes_no {X : Cx} {P : Program} {w : World} : Passes (CX P w) X fun _ _ _ => False := fun _ _ _ _ _ _ _ c => by
  obtain ⟨_, _, _, _, _, _, _, _, _, _, _, _, z⟩ := c
  exact z.elim
theorem ty_look {X : Cx} {pins : List (Addr × Obj)} {σ : L2.St} {H : Hp} {s : Shared} {x : V} {u t : Value} (I : Inv X pins σ H s) (rx : RelV x u) (ty : TyX X.K H x t) : PySem.W.Looks (model X.prog X.w) s.heap (typeOf u) t := by
  obtain ⟨P, k, hp, _⟩ := kit_of I rx ty
  exact k.ty _ _ I.kIn hp
/-- classes with an own __eq__ -/
structure GE (P : Program) (w : World) (K : PySem.W.Frag) (mg : Str → Option Value) (base : Heap) (k : Nat) (tab : MTab) : Prop where
  ex : ∀ C n F, tab.lookup C = some (n, F) → ∃ (f : Addr) (fd : FuncData) (ps : List Str), Meth K (He.ga K C) "__eq__" f ∧ PySem.W.findIn K (.ref (He.ga K C)) "__ne__" = some (some (.builtin "object.__ne__")) ∧ PySem.W.mroIn K (He.ga K C) (.type "object") = some true ∧ FnG P w K mg base (CX P w) k f fd ps (spFn K n F) ∧ Binds K fd ps []
def rOwnEq (K : PySem.W.Frag) (tab : MTab) (neg : Bool) : R2 := fun x y H Q => ∃ a C dx fs n F t, x = .ref a ∧ H a = some (.ins (He.ga K C) dx fs) ∧ tab.lookup C = some (n, F) ∧ TyX K H y t ∧ PySem.W.notFirst K (He.ga K C) t = true ∧
  spFn K n F [x, y] H (fun v H' => ∃ b, v = .bl b ∧ Q (.bl (b != neg)) H') fun _ _ _ => False
section
variable {X : Cx} {P : Program} {w : World} {K : PySem.W.Frag} {mg : Str → Option Value} {base : Heap} {k : Nat} {tab : MTab}
theorem op_ownEq (G : GE P w K mg base k tab) (hr : RoomG k X.A) (hX : Same5 X P w K mg base := by exact ⟨rfl, rfl, rfl, rfl, rfl⟩) : OpR X (compareOp .Eq) (rOwnEq K tab false) := by
  obtain ⟨rfl, rfl, rfl, rfl, rfl⟩ := hX
  intro pins s σ H x y v u Q I rx ry hq
  obtain ⟨a, C, dx, fs, n, F, t, rfl, ha, hl, ty, hn, sp⟩ := hq
  obtain ⟨f, fd, ps, M, ne, mo, Fo, hb⟩ := G.ex C n F hl
  cases rx
  obtain ⟨mA, J, _⟩ := ins_get I.hok ha
  obtain ⟨od, J, _⟩ := J.look
  obtain ⟨m, hF⟩ := I.fr
  show wpAny (model X.prog X.w) X.A (richCompare .Eq (.ref a) u) (EP X pins σ Q) X.xe s
  refine PySem.W.cmp_K (op := .Eq) (tb := t) hr.r.units0 hF I.ok.mod.kin J (ty_look I ry ty) hn M.at_ M.fn ?_
  refine wpAny_mono (run_sub Fo hr rfl hb passes_no I (vs := [.ref a, y]) (.cons (show L2.RelV (.ref a) (.ref a) from rfl) (.cons ry .nil)) sp) (fun r s' z => ?_) fun _ _ x => x
  obtain ⟨v, H', I', rv, b, rfl, q⟩ := z
  cases (show r = Value.bool b from rv)
  exact ⟨.bl b, H', I', rfl, by simpa using q⟩
theorem op_ownNe (G : GE P w K mg base k tab) (hr : RoomG (k + 1) X.A) (hX : Same5 X P w K mg base := by exact ⟨rfl, rfl, rfl, rfl, rfl⟩) : OpR X (compareOp .NotEq) (rOwnEq K tab true) := by
  obtain ⟨rfl, rfl, rfl, rfl, rfl⟩ := hX
  intro pins s σ H x y v u Q I rx ry hq
  obtain ⟨a, C, dx, fs, n, F, t, rfl, ha, hl, ty, hn, sp⟩ := hq
  obtain ⟨f, fd, ps, M, ne, mo, Fo, hb⟩ := G.ex C n F hl
  cases rx
  obtain ⟨mA, J, _⟩ := ins_get I.hok ha
  obtain ⟨od, J, _⟩ := J.look
  show wpAny (model X.prog X.w) X.A (richCompare .NotEq (.ref a) u) (EP X pins σ Q) X.xe s
  refine ne_K (tb := t) hr.in1.r.units0 I.kIn J (ty_look I ry ty) hn ne mo M.at_ M.fn ?_
  refine wpAny_mono (run_sub Fo hr.in1 rfl hb passes_no I (vs := [.ref a, y]) (.cons (show L2.RelV (.ref a) (.ref a) from rfl) (.cons ry .nil)) sp) (fun r s' z => ?_) fun _ _ x => x
  obtain ⟨v, H', I', rv, b, rfl, q⟩ := z
  cases (show r = Value.bool b from rv)
  exact ⟨b, rfl, .bl (!b), H', I', rfl, by simpa using q⟩
/-- classes with an own __str__ -/
structure GS (P : Program) (w : World) (K : PySem.W.Frag) (mg : Str → Option Value) (base : Heap) (k : Nat) (tab : MTab) : Prop where
  ex : ∀ C n F, tab.lookup C = some (n, F) → ∃ (f : Addr) (fd : FuncData) (ps : List Str), Meth K (He.ga K C) "__str__" f ∧ FnG P w K mg base (CX P w) k f fd ps (spFn K n F) ∧ Binds K fd ps []
def rOwnStr (K : PySem.W.Frag) (tab : MTab) : List V → Hp → VK → Prop := fun xs H Q => ∃ a C dx fs n F, xs = [.ref a] ∧ H a = some (.ins (He.ga K C) dx fs) ∧ tab.lookup C = some (n, F) ∧ spFn K n F xs H (fun v H' => ∃ z, v = .str z ∧ Q (.str z) H') fun _ _ _ => False
theorem cl_ownStr (G : GS P w K mg base k tab) (hr : RoomG (k + 2) X.A) (hX : Same5 X P w K mg base := by exact ⟨rfl, rfl, rfl, rfl, rfl⟩) : CallR X (.type "str") (rOwnStr K tab) := by
  obtain ⟨rfl, rfl, rfl, rfl, rfl⟩ := hX
  intro pins s σ H xs us Q I r h
  obtain ⟨a, C, dx, fs, n, F, rfl, ha, hl, sp⟩ := h
  obtain ⟨f, fd, ps, M, Fo, hb⟩ := G.ex C n F hl
  obtain ⟨u, rfl, e⟩ := vals1 r
  cases (show u = Value.ref a from e)
  obtain ⟨mA, J, _⟩ := ins_get I.hok ha
  obtain ⟨od, J, _⟩ := J.look
  refine PySem.W.kso_call hr.in1.in1.r.units0 I.kIn J M.at_ M.fn ?_
  refine wpAny_mono (run_sub Fo hr.in1.in1 rfl hb passes_no I (vs := [.ref a]) (.cons (show L2.RelV (.ref a) (.ref a) from rfl) .nil) sp) (fun r s' z => ?_) fun _ _ x => x
  obtain ⟨v, H', I', rv, z, rfl, q⟩ := z
  obtain ⟨t, rfl⟩ := (show ∃ t, r = Value.str z t from rv)
  exact ⟨.str z, H', I', ⟨_, rfl⟩, q⟩
end
end Fx

set_option Elab.async false
set_option linter.all false
set_option autoImplicit false
set_option maxRecDepth 100000
set_option maxHeartbeats 4000000
namespace Fx
open PySem PySem.Spec PyProof.Rows L2
/-! ## classmethods; cls(..) -/
structure GC (P : Program) (w : World) (K : PySem.W.Frag) (mg : Str → Option Value) (base : Heap) (C m : Str) (n k : Nat) (F : Fn) : Prop where
  ex : ∃ (p f : Addr) (fd : FuncData) (ps : List Str), ClX.CRead K (He.ga K C) (.type "type") ∧ ClX.CMet K (He.ga K C) (.type "type") m p f ∧ FnG P w K mg base (CX P w) k f fd ps (spFn K n F) ∧ Binds K fd ps []
section
variable {X : Cx} {P : Program} {w : World} {K : PySem.W.Frag} {mg : Str → Option Value} {base : Heap} {k n i : Nat} {F : Fn} {dds : List D} {x m y : Str} {C : Str} {p pos apos : Pos} {e o : Expr} {es : List Expr} {t : TA} {ta : TE} {W : WX}
end
end Fx

set_option Elab.async false
set_option linter.all false
set_option autoImplicit false
set_option maxRecDepth 100000
set_option maxHeartbeats 4000000
namespace Fx
open PySem PySem.Spec PyProof.Rows L2
/-! ## errors whose context is None; raise .. from None in a suite -/
section
variable {X : Cx} {C fI : Addr} {x fld : Str}
end
/-- a class whose __init__ raises with no context -/
structure GKN (P : Program) (w : World) (K : PySem.W.Frag) (mg : Str → Option Value) (base : Heap) (x : Str) (n : Nat) (dds : List D) (k : Nat) (F : Fn) : Prop where
  ex : ∃ (f : Addr) (fd : FuncData) (ps : List Str) (ds : List Value) (dvs : List V), FnG P w K mg base (L2N.CX P w) k f fd ps (spFn K n F) ∧ Mk K (He.ga K x) f ∧ mg x = some (.ref (He.ga K x)) ∧ Binds K fd ps ds ∧ Vals dvs ds ∧ ∀ I, RepL K I dds dvs
theorem CXN.cx {P : Program} {w : World} {outer : List Env} {H : Hp} {s : Shared} {E : XK} {u : Value} {s' : Shared} (c : L2N.CX P w outer H s E u s') : L2.CX P w outer H s E u s' := by
  obtain ⟨a, B, H', cls, d, e, fl, r⟩ := c
  exact ⟨a, B, H', cls, d, e, L2H.flyingZ_imp (fun o z => z.zc) fl, r⟩
theorem FnG.ofN {P : Program} {w : World} {K : PySem.W.Frag} {mg : Str → Option Value} {base : Heap} {k : Nat} {f : Addr} {fd : FuncData} {ps : List Str} {sp : Sp} (F : FnG P w K mg base (L2N.CX P w) k f fd ps sp) : FnG P w K mg base (L2.CX P w) k f fd ps sp :=
  ⟨F.len, fun A outer s H args us vs Q E hr e0 hb r h => codeAny_mono (F.run A outer s H args us vs Q E hr e0 hb r h) fun r s' hq => by
    cases r with
    | error e => exact CXN.cx hq
    | ok fl => cases fl <;> exact hq⟩
theorem GKN.gk {P : Program} {w : World} {K : PySem.W.Frag} {mg : Str → Option Value} {base : Heap} {x : Str} {n : Nat} {dds : List D} {k : Nat} {F : Fn} (G : GKN P w K mg base x n dds k F) : GK P w K mg base x n dds k F := by
  obtain ⟨f, fd, ps, ds, dvs, Fo, r⟩ := G.ex
  exact ⟨f, fd, ps, ds, dvs, Fo.ofN, r⟩
section
variable {X : Cx} {P : Program} {w : World} {K : PySem.W.Frag} {mg : Str → Option Value} {base : Heap} {k n i : Nat} {F : Fn} {dds : List D} {x y : Str} {p pos : Pos} {e : Expr} {es : List Expr} {t : TA} {W : WX}
end
section
variable {P : Program} {w : World} {K : PySem.W.Frag} {mg : Str → Option Value} {base : Heap} {x qual : Str} {params : Arguments} {body : List Stmt} {scope : Scope} {dvs : List V} {kws : List (Str × V)} {f : Addr} {fd : FuncData}
end
end Fx

set_option Elab.async false
set_option linter.all false
set_option autoImplicit false
set_option maxRecDepth 100000
set_option maxHeartbeats 2000000
namespace Fx
open PySem PySem.Spec PyProof.Rows L2
/-! ## own ==, own str, classmethods, cls(..), calls that do not raise, a suite that raises, as outcomes -/
def ok0 (sl : List SV) : Out (List CO) SV → O SV
  | .ok s ce => .ok s ⟨sl, ce⟩
  | _ => .bad
def aCall0 (n : Nat) (F : Fn) (dds : List D) (r : AA) : AE := fun δ => (r δ).bind fun ss δ1 => if (ss ++ dds.map SV.im).length = n then ok0 δ1.sl (F (ss ++ dds.map SV.im) δ1.ce) else .bad
def aMeth0 (tab : MTab) (m : Str) (a : AE) (r : AA) : AE := fun δ => (a δ).bind fun s δ1 => match clsS δ1 m s with
  | some C => (match tab.lookup C with
    | some (n, F) => (r δ1).bind fun ss δ2 => if (s :: ss).length = n then ok0 δ2.sl (F (s :: ss) δ2.ce) else .bad
    | none => .bad)
  | none => .bad
def eqX (tab : MTab) (isi : Isi) (nf : List XC) (neg : Bool) (f : D → D → Option D) : AOp := fun s t δ => match clsS δ "__eq__" s with
  | some C => (match tab.lookup C, kindS δ t with
    | some (n, F), some k => if n = 2 ∧ nf.contains k = true ∧ (isi.lookup (k, .blt "int")).isSome = true then (match F [s, t] δ.ce with
      | .ok (.im (.bl b)) ce => .ok (.im (.bl (b != neg))) ⟨δ.sl, ce⟩
      | _ => .bad) else .bad
    | _, _ => .bad)
  | none => dOp f s t δ
def strX (tab : MTab) : ACB := fun ss δ => match ss with
  | [s] => (match clsS δ "__str__" s with
    | some C => (match tab.lookup C with
      | some (n, F) => if n = 1 then (match F [s] δ.ce with
        | .ok (.im (.str z)) ce => .ok (.im (.str z)) ⟨δ.sl, ce⟩
        | _ => .bad) else .bad
      | none => .bad)
    | none => dCB1 strD [s] δ)
  | _ => .bad
def aCM (C : Str) (n : Nat) (F : Fn) (r : AA) : AE := fun δ => (r δ).bind fun ss δ1 => if (SV.im (.glo C) :: ss).length = n then out1 δ1.sl (F (.im (.glo C) :: ss) δ1.ce) else .bad
def aMakeL (i : Nat) (x : Str) (n : Nat) (F : Fn) (dds : List D) (r : AA) : AE := fun δ => match δ.sl[i]? with
  | some (.im (.glo y)) => if y = x then aMake x n F dds r δ else .bad
  | _ => .bad
def aTryF (tab : List (XC × Bool)) (Y fld : Str) (dc : D) (body : AS) : AS := fun δ => match body δ with
  | .ex x δ1 => (match tab.lookup x.cls with
    | some true => .ex ⟨.own Y, [(fld, .im dc)]⟩ δ1
    | some false => .ex x δ1
    | none => .bad)
  | o => o
section
variable {K : PySem.W.Frag} {xs : Xs} {W : WX} {ta : TE} {a : AE} {tr : TA} {r : AA} {n : Nat} {F : Fn} {dds : List D}
structure NfOk (K : PySem.W.Frag) (tab : MTab) (nf : List XC) : Prop where
  go : ∀ C nF k, tab.lookup C = some nF → nf.contains k = true → PySem.W.notFirst K (He.ga K C) (k.v K) = true
theorem ok_eqX {tab : MTab} {isi : Isi} {nf : List XC} {neg : Bool} {f : D → D → Option D} {rr : R2} (hI : IsiOk K isi) (hN : NfOk K tab nf) (h0 : OpOk K xs rr (dOp f)) : OpOk K xs (fun x y H Q => rr x y H Q ∨ rOwnEq K tab neg x y H Q) (eqX tab isi nf neg f) := by
  intro fr s t δ Ψ Ξ h σ I as H Q v w r rv rw cc
  unfold eqX at h
  split at h
  · rename_i C hc
    split at h
    · rename_i n F k hl hk
      split at h
      · rename_i hh
        obtain ⟨hn, hnf, hi⟩ := hh
        obtain ⟨b, q⟩ := Option.isSome_iff_exists.mp hi
        obtain ⟨ad, dx, fs, ev, hb, _⟩ := clsS_ok r rv hc
        subst ev
        refine .inr ⟨ad, C, dx, fs, n, F, k.v K, rfl, hb, hl, tyX_S hI r hk q rw, hN.go C _ k hl hnf, ?_⟩
        refine ⟨by rw [hn]; rfl, xs, fr, [s, t], δ.ce, as, I, r.bare, ⟨_, _, rfl, rv, _, _, rfl, rw, rfl⟩, ⟨?_⟩⟩
        cases qf : F [s, t] δ.ce with
        | bad => rw [qf] at h; exact h
        | ex x ce => rw [qf] at h; exact h.elim
        | ok z ce =>
          rw [qf] at h
          split at h
          · rename_i b' ce' e
            cases e
            intro v' I' as' H' r' l' rv'
            exact ⟨b', rv', cc (.im (.bl (b' != neg))) ⟨δ.sl, _⟩ _ I' as' H' (R.reslot r' r l') l' rfl h⟩
          · exact h.elim
      · exact h.elim
    · exact h.elim
  · exact .inl (h0 fr s t δ Ψ Ξ h σ I as H Q v w r rv rw cc)
theorem ok_strX {tab : MTab} : CbOk K xs (fun ys H Q => rStrA ys H Q ∨ rOwnStr K tab ys H Q) (strX tab) := by
  intro fr ss δ Ψ Ξ h σ I as H Q vs r h1 cc
  unfold strX at h
  split at h
  · rename_i s
    split at h
    · rename_i C hc
      split at h
      · rename_i n F hl
        split at h
        · rename_i hn
          have h1' := h1
          obtain ⟨w, _, rfl, rv, rfl⟩ := h1
          obtain ⟨ad, dx, fs, ev, hb, _⟩ := clsS_ok r rv hc
          subst ev
          refine .inr ⟨ad, C, dx, fs, n, F, rfl, hb, hl, ?_⟩
          refine ⟨by rw [hn]; rfl, xs, fr, [s], δ.ce, as, I, r.bare, h1', ⟨?_⟩⟩
          cases qf : F [s] δ.ce with
          | bad => rw [qf] at h; exact h
          | ex x ce => rw [qf] at h; exact h.elim
          | ok z ce =>
            rw [qf] at h
            split at h
            · rename_i z' ce' e
              cases e
              intro v' I' as' H' r' l' rv'
              exact ⟨z', rv', cc (.im (.str z')) ⟨δ.sl, _⟩ _ I' as' H' (R.reslot r' r l') l' rfl h⟩
            · exact h.elim
        · exact h.elim
      · exact h.elim
    · exact .inl (ok_str fr [s] δ Ψ Ξ h σ I as H Q vs r h1 cc)
  · exact h.elim
end
end Fx

set_option Elab.async false
set_option linter.all false
set_option autoImplicit false
set_option maxRecDepth 100000
set_option maxHeartbeats 2000000
namespace Fx
open PySem PySem.Spec PyProof.Rows L2
/-! ## lists changed by pop and insert, a split that is changed, [*x, ..], in of a table of the top -/
def popA : ABM := fun s ss δ => match s, ss with
  | .cl c, [t] => (match δ.ce[c]?, dv δ.ce t with
    | some (.lst us), some (.int i) => if 0 ≤ i ∧ i < us.length ∧ us.length < 1000000 then (match us[i.toNat]? with
      | some u => .ok (nrm δ.ce u) ⟨δ.sl, δ.ce.set c (.lst (us.eraseIdx i.toNat))⟩
      | none => .bad) else .bad
    | _, _ => .bad)
  | _, _ => .bad
def insertA : ABM := fun s ss δ => match s, ss with
  | .cl c, [t, u] => (match δ.ce[c]?, dv δ.ce t with
    | some (.lst us), some (.int i) => if 0 ≤ i ∧ i < 1000000 ∧ us.length < 100000 then .ok (.im .non) ⟨δ.sl, δ.ce.set c (.lst (us.take i.toNat ++ [u] ++ us.drop i.toNat))⟩ else .bad
    | _, _ => .bad)
  | _, _ => .bad
def splitC : ABM := fun s ss δ => match ss with
  | [t] => (match dv δ.ce s, dv δ.ce t with
    | some (.str a), some (.str b) => if a.length ≤ 1000000 ∧ (b.length == 0) = false then .ok (.cl δ.ce.length) ⟨δ.sl, δ.ce ++ [.lst ((Txt.split a b).map fun z => .im (.str z))]⟩ else .bad
    | _, _ => .bad)
  | _ => .bad
def aStar (a : AE) (r : AA) : AA := fun δ => (a δ).bind fun s δ1 => match s with
  | .im (.lst ds) => (r δ1).bind fun ss δ2 => .ok (ds.map SV.im ++ ss) δ2
  | .im (.tup ds) => (r δ1).bind fun ss δ2 => .ok (ds.map SV.im ++ ss) δ2
  | _ => .bad
def inG (tabs : Tabs) (neg : Bool) (f : D → D → Option D) : AOp := fun s t δ => match t with
  | .im (.glo x) => (match tabs.lookup x, dv δ.ce s with
    | some kvs, some (.str z) => .ok (.im (.bl ((kvs.lookup z).isSome != neg))) δ
    | _, _ => .bad)
  | _ => dOp f s t δ
section
variable {K : PySem.W.Frag} {xs : Xs} {W : WX} {I : Hp} {as : List Addr}
theorem sa_star {te : TE} {a : AE} {tr : TA} {r : AA} (ha : SE K xs W te a) (hr : SA K xs W tr r) : SA K xs W (StX.tStar K te tr) (aStar a r) := by
  intro fr δ Ψ Ξ h σ I as H Q rr c
  refine ha fr δ _ _ (Out.sat_bind h) σ I as H _ rr ⟨fun s δ1 v I1 as1 H1 r1 l1 rv k => ?_, c.x⟩
  split at k
  · rename_i ds
    obtain ⟨p, vs, rfl, hp, rp⟩ := (show Rep K I1 (.lst ds) v from rv)
    refine ⟨p, vs, rfl, .inr (SqL.of (r1.ih _ _ hp)), ?_⟩
    refine hr fr δ1 _ _ (Out.sat_bind k) σ I1 as1 H1 _ r1 ⟨fun ss δ2 ws I2 as2 H2 r2 l2 rv2 k2 => ?_, (c.later l1).x⟩
    exact c.v _ _ _ I2 as2 H2 r2 (l1.trans l2) (rvl_app (rvl_im (RepL.mono l2.i _ _ rp)) rv2) k2
  · rename_i ds
    obtain ⟨p, vs, rfl, hp, rp⟩ := (show Rep K I1 (.tup ds) v from rv)
    refine ⟨p, vs, rfl, .inl (same_t r1.ih hp), ?_⟩
    refine hr fr δ1 _ _ (Out.sat_bind k) σ I1 as1 H1 _ r1 ⟨fun ss δ2 ws I2 as2 H2 r2 l2 rv2 k2 => ?_, (c.later l1).x⟩
    exact c.v _ _ _ I2 as2 H2 r2 (l1.trans l2) (rvl_app (rvl_im (RepL.mono l2.i _ _ rp)) rv2) k2
  · exact k.elim
/-- tables that hold no other keys -/
structure TabAll (K : PySem.W.Frag) (w : World) (tabs : Tabs) : Prop where
  go : ∀ x kvs, tabs.lookup x = some kvs → ∃ es n, KDict K w (He.ga K x) es n ∧ ∀ z, ∃ r, PySem.W.nsIn K (He.ga K x) z = some r ∧ r.isSome = (kvs.lookup z).isSome
end
end Fx

set_option Elab.async false
set_option linter.all false
set_option autoImplicit false
set_option maxRecDepth 100000
set_option maxHeartbeats 2000000
namespace Fx
open PySem PySem.W PySem.HandSPX L2
/-! ## a head's facts with classmethods' defs -/
structure SaysZ (fa : List He.Fa) (fn : List He.DefD) (ts : List He.Tab) (tf : List He.Defn) (ex : Frag → Bool) (fz : List He5.DefA) (w : World) (h : Heap) (K : Frag) : Prop where
  x : He.SaysX fa fn ts tf ex w h K
  z : ∀ d ∈ fz, ∃ fd, L2.FunD K d.name d.qual d.params d.body d.scope (d.dvs K) (d.kws K) (d.at_ K) fd
/-! ## .. of own ==, classmethods, whole tables -/
def nfB (K : Frag) (Cs : List Str) (nf : List XC) : Bool := Cs.all fun C => nf.all fun k => notFirst K (He.ga K C) (k.v K)
theorem nfB_ok {K : Frag} {Cs : List Str} {tab : MTab} {nf : List XC} (hC : ∀ C nF, tab.lookup C = some nF → C ∈ Cs) (h : nfB K Cs nf = true) : NfOk K tab nf := ⟨fun C nF k hl hk =>
  List.all_eq_true.mp (List.all_eq_true.mp h C (hC C nF hl)) k (by simpa using hk)⟩
def neB (K : Frag) (C : Str) : Bool := He.eqO (findIn K (.ref (He.ga K C)) "__ne__") (some (some (.builtin "object.__ne__"))) && decide (mroIn K (He.ga K C) (.type "object") = some true)
theorem neB_ok {K : Frag} {C : Str} (h : neB K C = true) : findIn K (.ref (He.ga K C)) "__ne__" = some (some (.builtin "object.__ne__")) ∧ mroIn K (He.ga K C) (.type "object") = some true := by
  unfold neB at h
  simp only [Bool.and_eq_true, decide_eq_true_eq] at h
  exact ⟨He.eqO_ok h.1, h.2⟩
end Fx

set_option Elab.async false
set_option linter.all false
set_option autoImplicit false
set_option maxRecDepth 100000
set_option maxHeartbeats 2000000
namespace Fx
open PySem PySem.Spec PyProof.Rows L2
/-! ## dicts compared -/
def allV (ls ks : List (Key × V)) : Bool := ks.all fun p => match valV ls p.1 with
  | some v => eqV p.2 v
  | none => false
def rEqDG (neg : Bool) : R2 := fun x y H Q => ∃ a b ks ls, x = .ref a ∧ y = .ref b ∧ Rd H a (.dK ks) ∧ Rd H b (.dK ls) ∧ ks.length = ls.length ∧ (∀ p ∈ ks, ∃ v, valV ls p.1 = some v ∧ flatV v = true ∧ flatV p.2 = true) ∧ Q (.bl (allV ls ks != neg)) H
theorem hits_gen {A : Around} {s : Shared} {kvs : List (Key × V)} {vb : List (Key × Value)} (rb : KV kvs vb) {ks : List (Key × V)} {va : List (Key × Value)} (ra : KV ks va) :
    (∀ p ∈ ks, ∃ v, valV kvs p.1 = some v ∧ flatV v = true ∧ flatV p.2 = true) → PySem.W.KeqHits A s vb va (allV kvs ks) := by
  unfold KV at ra
  induction ra with
  | nil => intro _; exact .nil
  | @cons p q ps qs h t ih =>
    intro hp
    obtain ⟨h1, h2⟩ := h
    obtain ⟨v, e, f1, f2⟩ := hp p List.mem_cons_self
    have rr : RelO (some v) (valueAt vb p.1) := by rw [← e]; exact rb.val p.1
    obtain ⟨y, hy, ry⟩ := rr.some_of
    obtain ⟨k, w⟩ := q
    have h1' : p.1 = k := h1
    rw [h1'] at hy
    have e2 : allV kvs (p :: ps) = (eqV p.2 v && allV kvs ps) := by
      show ((match valV kvs p.1 with | some v => eqV p.2 v | none => false) && allV kvs ps) = _
      rw [e]
    rw [e2]
    exact .hit hy (eqAt_V h2 ry f2 f1) (ih fun p hp' => hp p (List.mem_cons_of_mem _ hp'))
theorem rd_dict {X : Cx} {pins : List (Addr × Obj)} {σ : L2.St} {H : Hp} {s : Shared} (I : Inv X pins σ H s) {a : Addr} {ks : List (Key × V)} (h : Rd H a (.dK ks)) : (a == sysModules) = false ∧ ∃ vs, KV ks vs ∧ s.heap.DictOf (mixKind X.prog X.w) a vs := by
  rcases h with h | ⟨o, h⟩
  · obtain ⟨_, y, vs, r, d⟩ := (show ObjOk X.prog X.w H s.heap a (.dK ks) from I.hok a _ h)
    exact ⟨y, vs, r, d⟩
  · obtain ⟨_, _, y, vs, r, d⟩ := (show ObjOk X.prog X.w H s.heap a (.frz o (.dK ks)) from I.hok a _ h)
    exact ⟨y, vs, r, d⟩
theorem op_eqDG {X : Cx} {k : Nat} (hr : RoomG k X.A) : OpR X (compareOp .Eq) (rEqDG false) := by
  intro pins s σ H x y v u Q I rx ry h
  obtain ⟨a, b, ks, ls, rfl, rfl, ea, eb, hlen, hp, q⟩ := h
  obtain rfl : v = Value.ref a := rx
  obtain rfl : u = Value.ref b := ry
  obtain ⟨ya, va, ra, da⟩ := rd_dict I ea
  obtain ⟨yb, vb, rb, db⟩ := rd_dict I eb
  have hl : va.length = vb.length := by rw [← ra.length, ← rb.length]; exact hlen
  exact PySem.W.keq_eq (knd := mixKind X.prog X.w) (r := allV ls ks) ya yb da db hr.r.units0 (fun _ => hits_gen rb ra hp) (fin_bl I q (by simp [hl]))
def allD' (ls ks : List (Key × D)) : Bool := ks.all fun p => match lookD ls p.1 with
  | some v => eqF p.2 v
  | none => false
def flatK (ls ks : List (Key × D)) : Bool := ks.all fun p => flatD p.2 && (match lookD ls p.1 with
  | some v => flatD v
  | none => false)
def eqK (neg : Bool) (f : D → D → Option D) : AOp := fun s t δ => match dv δ.ce s, dv δ.ce t with
  | some (.dic ks), some (.dic ls) => if ks.length = ls.length ∧ flatK ls ks = true then .ok (.im (.bl (allD' ls ks != neg))) δ else .bad
  | _, _ => dOp f s t δ
section
variable {K : PySem.W.Frag} {xs : Xs}
theorem flat_V {H : Hp} {d : D} {v : V} (f : flatD d = true) (h : Rep K H d v) : flatV v = true := by
  cases d with
  | non => cases (show v = _ from h); rfl
  | bl b => cases (show v = _ from h); rfl
  | int b => cases (show v = _ from h); rfl
  | str b => cases (show v = _ from h); rfl
  | _ => cases f
theorem allK {I : Hp} {ls : List (Key × D)} {lv : List (Key × V)} (rl : RepK K I ls lv) : ∀ {ks : List (Key × D)} {kv : List (Key × V)}, RepK K I ks kv → flatK ls ks = true → (∀ p ∈ kv, ∃ v, valV lv p.1 = some v ∧ flatV v = true ∧ flatV p.2 = true) ∧ allV lv kv = allD' ls ks
  | [], kv, h, _ => by cases (show kv = [] from h); exact ⟨fun _ z => by (cases z), rfl⟩
  | (k, d) :: ks, _, ⟨v, r, e, h1, h2⟩, f => by
    subst e
    have f' : (flatD d && (match lookD ls k with | some v => flatD v | none => false)) = true ∧ flatK ls ks = true := by
      have z : ((flatD d && (match lookD ls k with | some v => flatD v | none => false)) && flatK ls ks) = true := f
      simpa [Bool.and_eq_true] using z
    obtain ⟨g1, g2⟩ := allK rl h2 f'.2
    obtain ⟨f1, f2⟩ := and2 f'.1
    cases q : lookD ls k with
    | none => rw [q] at f2; cases f2
    | some d2 =>
      rw [q] at f2
      obtain ⟨w, hw, rw'⟩ := rl.val q
      refine ⟨fun p hp => ?_, ?_⟩
      · rcases List.mem_cons.mp hp with rfl | hp
        · exact ⟨w, hw, flat_V f2 rw', flat_V f1 h1⟩
        · exact g1 p hp
      · show ((match valV lv k with | some u => eqV v u | none => false) && allV lv r) = ((match lookD ls k with | some u => eqF d u | none => false) && allD' ls ks)
        rw [hw, q, g2]
        dsimp only
        rw [eqF_of f1 f2 h1 rw']
theorem ok_eqK {neg : Bool} {f : D → D → Option D} {rr : R2} (h0 : OpOk K xs rr (dOp f)) : OpOk K xs (fun x y H Q => rr x y H Q ∨ rEqDG neg x y H Q) (eqK neg f) := by
  intro fr s t δ Ψ Ξ h σ I as H Q v w r rv rw cc
  unfold eqK at h
  split at h
  · rename_i ks ls e1 e2
    split at h
    · rename_i hh
      obtain ⟨a, kv, rfl, ha, ra⟩ := r.dvK e1 rv
      obtain ⟨b, lv, rfl, hb, rb⟩ := r.dvK e2 rw
      obtain ⟨g1, g2⟩ := allK rb ra hh.2
      refine .inr ⟨a, b, kv, lv, rfl, rfl, ha, hb, by rw [ra.length, rb.length]; exact hh.1, g1, ?_⟩
      rw [g2]
      exact cc (.im (.bl _)) δ _ I as H r (Le.refl I as) rfl h
    · exact h.elim
  · exact .inl (h0 fr s t δ Ψ Ξ h σ I as H Q v w r rv rw cc)
end
end Fx

set_option Elab.async false
set_option linter.all false
set_option autoImplicit false
set_option maxRecDepth 100000
set_option maxHeartbeats 2000000
namespace Fx
open PySem PySem.Spec PyProof.Rows L2
/-! ## words and blanks -/
end Fx

set_option Elab.async false
set_option linter.all false
set_option autoImplicit false
set_option maxRecDepth 100000
set_option maxHeartbeats 2000000
namespace Fx
open PySem PySem.Spec PyProof.Rows L2
/-! ## plain steps -/
section
variable {δ : Sta} {Ψ : SV → Sta → Prop} {Ξ : Xn → Sta → Prop} {Ψl : List SV → Sta → Prop} {Φ : Post} {a b e : AE} {r : AA} {p : AS} {n : Nat}
theorem ok0_sat {sl : List SV} {o : Out (List CO) SV} (h : o.sat (fun s ce => Ψ s ⟨sl, ce⟩) fun _ _ => False) : (ok0 sl o).sat Ψ Ξ := by
  cases o with
  | ok s ce => exact h
  | ex x ce => exact h.elim
  | bad => exact h.elim
theorem s_call0 {F : Fn} {dds : List D} (h : (r δ).sat (fun ss δ1 => (ss ++ dds.map SV.im).length = n ∧ (F (ss ++ dds.map SV.im) δ1.ce).sat (fun s ce => Ψ s ⟨δ1.sl, ce⟩) (fun _ _ => False)) Ξ) : (aCall0 n F dds r δ).sat Ψ Ξ :=
  sat_of_bind (Out.sat_mono h (fun ss δ1 ⟨h0, h1⟩ => by rw [if_pos h0]; exact ok0_sat h1) fun _ _ z => z)
theorem s_meth0 {tab : MTab} {m : Str} (h : (a δ).sat (fun s δ1 => ∃ C n F, clsS δ1 m s = some C ∧ tab.lookup C = some (n, F) ∧ (r δ1).sat (fun ss δ2 => (s :: ss).length = n ∧ (F (s :: ss) δ2.ce).sat (fun s ce => Ψ s ⟨δ2.sl, ce⟩) (fun _ _ => False)) Ξ) Ξ) : (aMeth0 tab m a r δ).sat Ψ Ξ :=
  sat_of_bind (Out.sat_mono h (fun s δ1 ⟨C, n, F, h1, h2, h3⟩ => by
    rw [h1]; dsimp only; rw [h2]; dsimp only
    exact sat_of_bind (Out.sat_mono h3 (fun ss δ2 ⟨h4, h5⟩ => by rw [if_pos h4]; exact ok0_sat h5) fun _ _ z => z)) fun _ _ z => z)
theorem s_cm {C : Str} {F : Fn} (h : (r δ).sat (fun ss δ1 => (SV.im (.glo C) :: ss).length = n ∧ (F (.im (.glo C) :: ss) δ1.ce).sat (fun s ce => Ψ s ⟨δ1.sl, ce⟩) (fun x ce => Ξ x ⟨δ1.sl, ce⟩)) Ξ) : (aCM C n F r δ).sat Ψ Ξ :=
  sat_of_bind (Out.sat_mono h (fun ss δ1 ⟨h0, h1⟩ => by
    rw [if_pos h0]
    cases q : F (.im (.glo C) :: ss) δ1.ce <;> rw [q] at h1 <;> exact h1) fun _ _ z => z)
theorem s_makeL {i : Nat} {x : Str} {F : Fn} {dds : List D} (hi : δ.sl[i]? = some (.im (.glo x))) (h : (aMake x n F dds r δ).sat Ψ Ξ) : (aMakeL i x n F dds r δ).sat Ψ Ξ := by
  unfold aMakeL
  rw [hi]
  dsimp only
  rw [if_pos rfl]
  exact h
theorem s_tryF {tab : List (XC × Bool)} {Y fld : Str} {dc : D} (h : (p δ).sat { Φ with ex := fun x δ1 => (tab.lookup x.cls = some true ∧ Φ.ex ⟨.own Y, [(fld, .im dc)]⟩ δ1) ∨ (tab.lookup x.cls = some false ∧ Φ.ex x δ1) }) : (aTryF tab Y fld dc p δ).sat Φ := by
  unfold aTryF
  cases hq : p δ with
  | ex x δ1 =>
    rw [hq] at h
    have h : (tab.lookup x.cls = some true ∧ Φ.ex ⟨.own Y, [(fld, .im dc)]⟩ δ1) ∨ (tab.lookup x.cls = some false ∧ Φ.ex x δ1) := h
    dsimp only
    rcases h with ⟨e, h⟩ | ⟨e, h⟩ <;> rw [e] <;> exact h
  | _ => rw [hq] at h; exact h
theorem s_eqXo {tab : MTab} {isi : Isi} {nf : List XC} {neg : Bool} {f : D → D → Option D} {s t : SV} {C : Str} {F : Fn} {k : XC} (h1 : clsS δ "__eq__" s = some C) (h2 : tab.lookup C = some (2, F)) (h3 : kindS δ t = some k) (h4 : nf.contains k = true) (h5 : (isi.lookup (k, .blt "int")).isSome = true)
    (h : (F [s, t] δ.ce).sat (fun z ce => ∃ c, z = .im (.bl c) ∧ Ψ (.im (.bl (c != neg))) ⟨δ.sl, ce⟩) fun _ _ => False) : (eqX tab isi nf neg f s t δ).sat Ψ Ξ := by
  unfold eqX
  rw [h1]; dsimp only; rw [h2, h3]; dsimp only; rw [if_pos ⟨rfl, h4, h5⟩]
  cases q : F [s, t] δ.ce with
  | ok z ce => rw [q] at h; obtain ⟨c, rfl, h⟩ := h; exact h
  | ex x ce => rw [q] at h; exact h.elim
  | bad => rw [q] at h; exact h.elim
theorem s_eqXd {tab : MTab} {isi : Isi} {nf : List XC} {neg : Bool} {f : D → D → Option D} {s t : SV} (h1 : clsS δ "__eq__" s = none) (h : (dOp f s t δ).sat Ψ Ξ) : (eqX tab isi nf neg f s t δ).sat Ψ Ξ := by
  unfold eqX
  rw [h1]
  exact h
theorem s_strXo {tab : MTab} {s : SV} {C : Str} {F : Fn} (h1 : clsS δ "__str__" s = some C) (h2 : tab.lookup C = some (1, F)) (h : (F [s] δ.ce).sat (fun z ce => ∃ c, z = .im (.str c) ∧ Ψ (.im (.str c)) ⟨δ.sl, ce⟩) fun _ _ => False) : (strX tab [s] δ).sat Ψ Ξ := by
  unfold strX
  dsimp only
  rw [h1]; dsimp only; rw [h2]; dsimp only; rw [if_pos rfl]
  cases q : F [s] δ.ce with
  | ok z ce => rw [q] at h; obtain ⟨c, rfl, h⟩ := h; exact h
  | ex x ce => rw [q] at h; exact h.elim
  | bad => rw [q] at h; exact h.elim
theorem s_star (h : (a δ).sat (fun s δ1 => ∃ ds, (s = .im (.lst ds) ∨ s = .im (.tup ds)) ∧ (r δ1).sat (fun ss δ2 => Ψl (ds.map SV.im ++ ss) δ2) Ξ) Ξ) : (aStar a r δ).sat Ψl Ξ :=
  sat_of_bind (Out.sat_mono h (fun s δ1 ⟨ds, h0, h1⟩ => by
    rcases h0 with rfl | rfl <;> exact sat_of_bind h1) fun _ _ z => z)
theorem s_inG {tabs : Tabs} {neg : Bool} {f : D → D → Option D} {x z : Str} {kvs : List (Str × D)} (h1 : tabs.lookup x = some kvs) (h : Ψ (.im (.bl ((kvs.lookup z).isSome != neg))) δ) : (inG tabs neg f (.im (.str z)) (.im (.glo x)) δ).sat Ψ Ξ := by
  unfold inG
  dsimp only [dv]
  rw [h1]
  exact h
theorem s_pop {c : Nat} {us : List SV} {i : Int} {u : SV} (hc : δ.ce[c]? = some (.lst us)) (hi : 0 ≤ i ∧ i < us.length ∧ us.length < 1000000) (hu : us[i.toNat]? = some u) (h : Ψ (nrm δ.ce u) ⟨δ.sl, δ.ce.set c (.lst (us.eraseIdx i.toNat))⟩) : (popA (.cl c) [.im (.int i)] δ).sat Ψ Ξ := by
  unfold popA
  dsimp only [dv]
  rw [hc]
  dsimp only
  rw [if_pos hi, hu]
  exact h
theorem s_insert {c : Nat} {us : List SV} {i : Int} {u : SV} (hc : δ.ce[c]? = some (.lst us)) (hi : 0 ≤ i ∧ i < 1000000 ∧ us.length < 100000) (h : Ψ (.im .non) ⟨δ.sl, δ.ce.set c (.lst (us.take i.toNat ++ [u] ++ us.drop i.toNat))⟩) : (insertA (.cl c) [.im (.int i), u] δ).sat Ψ Ξ := by
  unfold insertA
  dsimp only [dv]
  rw [hc]
  dsimp only
  rw [if_pos hi]
  exact h
theorem s_splitC {x y : Str} (hx : x.length ≤ 1000000) (hy : (y.length == 0) = false) (h : Ψ (.cl δ.ce.length) ⟨δ.sl, δ.ce ++ [.lst ((Txt.split x y).map fun z => .im (.str z))]⟩) : (splitC (.im (.str x)) [.im (.str y)] δ).sat Ψ Ξ := by
  unfold splitC
  dsimp only [dv]
  rw [if_pos ⟨hx, hy⟩]
  exact h
theorem s_eqK {neg : Bool} {f : D → D → Option D} {s t : SV} {ks ls : List (Key × D)} (h1 : dv δ.ce s = some (.dic ks)) (h2 : dv δ.ce t = some (.dic ls)) (h3 : ks.length = ls.length ∧ flatK ls ks = true) (h : Ψ (.im (.bl (allD' ls ks != neg))) δ) : (eqK neg f s t δ).sat Ψ Ξ := by
  unfold eqK
  rw [h1, h2]
  dsimp only
  rw [if_pos h3]
  exact h
end
end Fx

set_option Elab.async false
set_option linter.all false
set_option autoImplicit false
set_option maxRecDepth 100000
set_option maxHeartbeats 2000000
namespace Fx
open PySem L2
/-! ## a def sees the cells that it is handed, and no others -/
def cellsS (ce : List CO) : SV → List Nat
  | .cl c => match ce[c]? with
    | some (.fz _) => []
    | _ => [c]
  | _ => []
def cellsL (ce : List CO) : List SV → List Nat
  | [] => []
  | s :: r => cellsS ce s ++ cellsL ce r
def cellsO (ce : List CO) : CO → List Nat
  | .lst xs => cellsL ce xs
  | .tup xs => cellsL ce xs
  | .dic kvs => cellsL ce (kvs.map (·.2))
  | .ins _ fs => cellsL ce (fs.map (·.2))
  | .exc _ fs => cellsL ce (fs.map (·.2))
  | _ => []
def addNew (ix : List Nat) : List Nat → List Nat
  | [] => ix
  | c :: r => addNew (if ix.contains c then ix else ix ++ [c]) r
def cellsI (ce : List CO) : List Nat → List Nat
  | [] => []
  | c :: r => (match ce[c]? with
    | some o => cellsO ce o
    | none => []) ++ cellsI ce r
def reach (ce : List CO) : Nat → List Nat → List Nat
  | 0, ix => ix
  | n + 1, ix => if (addNew ix (cellsI ce ix)).length = ix.length then ix else reach ce n (addNew ix (cellsI ce ix))
def posOf : List Nat → Nat → Option Nat
  | [], _ => none
  | d :: r, c => if d = c then some 0 else (posOf r c).map (· + 1)
def inS (ce : List CO) (ix : List Nat) : SV → Option SV
  | .no => none
  | .im d => some (.im d)
  | .cl c => match ce[c]? with
    | some (.fz d) => some (.im d)
    | _ => (posOf ix c).map .cl
def inL (ce : List CO) (ix : List Nat) : List SV → Option (List SV)
  | [] => some []
  | s :: r => match inS ce ix s, inL ce ix r with
    | some s', some r' => some (s' :: r')
    | _, _ => none
def inK {α : Type} (ce : List CO) (ix : List Nat) : List (α × SV) → Option (List (α × SV))
  | [] => some []
  | (k, s) :: r => match inS ce ix s, inK ce ix r with
    | some s', some r' => some ((k, s') :: r')
    | _, _ => none
def inO (ce : List CO) (ix : List Nat) : CO → Option CO
  | .lst xs => (inL ce ix xs).map .lst
  | .tup xs => (inL ce ix xs).map .tup
  | .dic kvs => (inK ce ix kvs).map .dic
  | .ins C fs => (inK ce ix fs).map (.ins C)
  | .exc C fs => (inK ce ix fs).map (.exc C)
  | .fz d => some (.fz d)
  | .dead => some .dead
  | .tbl q => some (.tbl q)
def inC (ce : List CO) (ix : List Nat) : List Nat → Option (List CO)
  | [] => some []
  | c :: r => match ce[c]? with
    | some o => (match inO ce ix o, inC ce ix r with
      | some o', some r' => some (o' :: r')
      | _, _ => none)
    | none => none
def bkI (ix : List Nat) (n i : Nat) : Nat := match ix[i]? with
  | some c => c
  | none => n + (i - ix.length)
def outS (ix : List Nat) (n : Nat) : SV → SV
  | .cl i => .cl (bkI ix n i)
  | s => s
def outK {α : Type} (ix : List Nat) (n : Nat) (l : List (α × SV)) : List (α × SV) := l.map fun p => (p.1, outS ix n p.2)
def outO (ix : List Nat) (n : Nat) : CO → CO
  | .lst xs => .lst (xs.map (outS ix n))
  | .tup xs => .tup (xs.map (outS ix n))
  | .dic kvs => .dic (outK ix n kvs)
  | .ins C fs => .ins C (outK ix n fs)
  | .exc C fs => .exc C (outK ix n fs)
  | .fz d => .fz d
  | .dead => .dead
  | .tbl q => .tbl q
def setAll (ix0 : List Nat) (n : Nat) : List CO → List Nat → List CO → List CO
  | ce, c :: r, o :: os => setAll ix0 n (ce.set c (outO ix0 n o)) r os
  | ce, [], o :: os => ce ++ (o :: os).map (outO ix0 n)
  | ce, _, [] => ce
def wrB (ix : List Nat) (ce ce' : List CO) : List CO := setAll ix ce.length ce ix ce'
def reachA (ss : List SV) (ce : List CO) : List Nat := reach ce ce.length (addNew [] (cellsL ce ss))
def outF (ix : List Nat) (ce : List CO) : Out (List CO) SV → Out (List CO) SV
  | .ok s ce' => .ok (outS ix ce.length s) (wrB ix ce ce')
  | .ex x ce' => .ex ⟨x.cls, outK ix ce.length x.fs⟩ (wrB ix ce ce')
  | .bad => .bad
def loc (F : Fn) : Fn := fun ss ce => match inL ce (reachA ss ce) ss, inC ce (reachA ss ce) (reachA ss ce) with
  | some ss0, some ce0 => outF (reachA ss ce) ce (F ss0 ce0)
  | _, _ => .bad
/-! plain facts -/
theorem addNew_nodup : ∀ (l ix : List Nat), ix.Nodup → (addNew ix l).Nodup
  | [], ix, h => h
  | c :: r, ix, h => by
    unfold addNew
    refine addNew_nodup r _ ?_
    split
    · exact h
    · rename_i hc
      refine List.nodup_append.mpr ⟨h, by simp, fun a ha b hb => ?_⟩
      rw [List.mem_singleton.mp hb]
      exact fun z => hc (by rw [← z]; simpa using ha)
theorem reach_nodup (ce : List CO) : ∀ (n : Nat) (ix : List Nat), ix.Nodup → (reach ce n ix).Nodup
  | 0, _, h => h
  | n + 1, ix, h => by
    unfold reach
    split
    · exact h
    · exact reach_nodup ce n _ (addNew_nodup _ _ h)
theorem reachA_nodup (ss : List SV) (ce : List CO) : (reachA ss ce).Nodup := reach_nodup _ _ _ (addNew_nodup _ _ List.nodup_nil)
theorem posOf_get : ∀ {ix : List Nat} {c i : Nat}, posOf ix c = some i → ix[i]? = some c
  | [], _, _, h => by cases h
  | d :: r, c, i, h => by
    unfold posOf at h
    split at h
    · rename_i e; cases h; subst e; rfl
    · cases q : posOf r c with
      | none => rw [q] at h; cases h
      | some j =>
        rw [q] at h
        obtain rfl : j + 1 = i := Option.some.inj h
        exact posOf_get (ix := r) q
theorem nodup_ix : ∀ {l : List Nat}, l.Nodup → ∀ {i j c : Nat}, l[i]? = some c → l[j]? = some c → i = j
  | [], _, i, j, c, h, _ => by simp at h
  | x :: r, hn, 0, 0, c, _, _ => rfl
  | x :: r, hn, 0, j + 1, c, h, k => by
    simp at h k
    exact absurd (List.mem_of_getElem? k) (by rw [← h]; exact (List.nodup_cons.mp hn).1)
  | x :: r, hn, i + 1, 0, c, h, k => by
    simp at h k
    exact absurd (List.mem_of_getElem? h) (by rw [← k]; exact (List.nodup_cons.mp hn).1)
  | x :: r, hn, i + 1, j + 1, c, h, k => by
    rw [nodup_ix (List.nodup_cons.mp hn).2 (i := i) (j := j) (c := c) (by simpa using h) (by simpa using k)]
theorem setAll_get (ix0 : List Nat) (n : Nat) : ∀ (ix : List Nat) (ce ce' : List CO) (c : Nat) (o : CO), (setAll ix0 n ce ix ce')[c]? = some o → ix.length ≤ ce'.length → (∀ d ∈ ix, d < ce.length) → ix.Nodup →
    (c ∉ ix ∧ ce[c]? = some o) ∨ (∃ i o', ce'[i]? = some o' ∧ o = outO ix0 n o' ∧ ((ix[i]? = some c) ∨ (ix.length ≤ i ∧ c = ce.length + (i - ix.length))))
  | c0 :: r, ce, o0 :: os, c, o, h, hl, hb, hn => by
    unfold setAll at h
    have hn' := List.nodup_cons.mp hn
    rcases setAll_get ix0 n r _ os c o h (by simpa using hl) (fun d hd => by rw [List.length_set]; exact hb d (List.mem_cons_of_mem _ hd)) hn'.2 with ⟨h1, h2⟩ | ⟨i, o', h1, h2, h3⟩
    · by_cases hc : c0 = c
      · subst hc
        rw [List.getElem?_set_self (hb c0 List.mem_cons_self)] at h2
        exact .inr ⟨0, o0, rfl, (Option.some.inj h2).symm, .inl rfl⟩
      · rw [List.getElem?_set_ne hc] at h2
        exact .inl ⟨fun z => by rcases List.mem_cons.mp z with z | z; exact hc z.symm; exact h1 z, h2⟩
    · refine .inr ⟨i + 1, o', by simpa using h1, h2, ?_⟩
      rcases h3 with h3 | ⟨h3, h4⟩
      · exact .inl (by simpa using h3)
      · refine .inr ⟨by simpa using h3, ?_⟩
        rw [List.length_set] at h4
        rw [h4]; simp
  | [], ce, o0 :: os, c, o, h, hl, hb, hn => by
    unfold setAll at h
    rcases Nat.lt_or_ge c ce.length with hc | hc
    · rw [List.getElem?_append_left hc] at h
      exact .inl ⟨by simp, h⟩
    · rw [List.getElem?_append_right hc, List.getElem?_map] at h
      cases q : (o0 :: os)[c - ce.length]? with
      | none => rw [q] at h; cases h
      | some o' =>
        rw [q] at h
        exact .inr ⟨c - ce.length, o', q, (Option.some.inj h).symm, .inr ⟨by simp, by simp; omega⟩⟩
  | [], ce, [], c, o, h, hl, hb, hn => by unfold setAll at h; exact .inl ⟨by simp, h⟩
  | c0 :: r, ce, [], c, o, h, hl, hb, hn => by simp at hl
theorem setAll_len (ix0 : List Nat) (n : Nat) : ∀ (ix : List Nat) (ce ce' : List CO), ix.length ≤ ce'.length → (setAll ix0 n ce ix ce').length = ce.length + (ce'.length - ix.length)
  | c0 :: r, ce, o0 :: os, hl => by
    unfold setAll
    rw [setAll_len ix0 n r _ os (by simpa using hl), List.length_set]
    simp
  | [], ce, o0 :: os, hl => by unfold setAll; simp
  | [], ce, [], hl => by unfold setAll; simp
  | c0 :: r, ce, [], hl => by simp at hl
theorem inC_get {ce : List CO} {ix : List Nat} : ∀ {jx : List Nat} {ce0 : List CO}, inC ce ix jx = some ce0 → jx.length = ce0.length ∧ ∀ (i : Nat) (o0 : CO), ce0[i]? = some o0 → ∃ c o, jx[i]? = some c ∧ ce[c]? = some o ∧ inO ce ix o = some o0
  | [], ce0, h => by cases h; exact ⟨rfl, fun i o0 h => by simp at h⟩
  | c :: r, ce0, h => by
    unfold inC at h
    split at h
    · rename_i o q
      split at h
      · rename_i o' r' q1 q2
        cases h
        obtain ⟨h1, h2⟩ := inC_get q2
        refine ⟨by simp [h1], fun i o0 hi => ?_⟩
        cases i with
        | zero => simp at hi; subst hi; exact ⟨c, o, rfl, q, q1⟩
        | succ i =>
          obtain ⟨c', o'', g1, g2, g3⟩ := h2 i o0 (by simpa using hi)
          exact ⟨c', o'', by simpa using g1, g2, g3⟩
      · cases h
    · cases h
theorem inO_live {ce : List CO} {ix : List Nat} {o o0 : CO} (h : inO ce ix o = some o0) : o0.live = o.live := by
  cases o <;> simp only [inO, Option.map_eq_some_iff] at h <;> first | (obtain ⟨_, _, rfl⟩ := h; rfl) | (cases h; rfl)
theorem outO_live {ix : List Nat} {n : Nat} (o : CO) : (outO ix n o).live = o.live := by cases o <;> rfl
section
variable {K : PySem.W.Frag} {xs : Xs} {fr : Fr} {ce : List CO} {I : Hp} {as : List Addr} {H : Hp}
theorem RV.inn {ix : List Nat} {as0 : List Addr} (r : R K ⟨xs, fr⟩ ⟨[], ce⟩ [] I as H) (ha : ∀ i c : Nat, ix[i]? = some c → as0[i]? = as[c]?) {s s0 : SV} {v : V} (h : inS ce ix s = some s0) (rv : RV K I as s v) : RV K I as0 s0 v := by
  cases s with
  | no => cases h
  | im d => cases h; exact rv
  | cl c =>
    obtain ⟨a, h1, rfl⟩ := rv
    unfold inS at h
    dsimp only at h
    split at h
    · rename_i d q
      cases h
      exact r.cells c _ a q h1
    · cases q : posOf ix c with
      | none => rw [q] at h; cases h
      | some i =>
        rw [q] at h
        cases h
        exact ⟨a, by rw [ha i c (posOf_get q)]; exact h1, rfl⟩
theorem RVL.inn {ix : List Nat} {as0 : List Addr} (r : R K ⟨xs, fr⟩ ⟨[], ce⟩ [] I as H) (ha : ∀ i c : Nat, ix[i]? = some c → as0[i]? = as[c]?) : ∀ {s s0 : List SV} {v : List V}, inL ce ix s = some s0 → RVL K I as s v → RVL K I as0 s0 v
  | [], s0, v, h, rv => by cases h; exact rv
  | s :: ss, s0, v, h, ⟨x, y, h1, h2, h3⟩ => by
    unfold inL at h
    split at h
    · rename_i s' r' q1 q2
      cases h
      exact ⟨x, y, h1, h2.inn r ha q1, RVL.inn r ha q2 h3⟩
    · cases h
theorem RVK.inn {ix : List Nat} {as0 : List Addr} (r : R K ⟨xs, fr⟩ ⟨[], ce⟩ [] I as H) (ha : ∀ i c : Nat, ix[i]? = some c → as0[i]? = as[c]?) : ∀ {s s0 : List (Key × SV)} {v : List (Key × V)}, inK ce ix s = some s0 → RVK K I as s v → RVK K I as0 s0 v
  | [], s0, v, h, rv => by cases h; exact rv
  | (k, s) :: ss, s0, v, h, ⟨x, y, h1, h2, h3⟩ => by
    unfold inK at h
    split at h
    · rename_i s' r' q1 q2
      cases h
      exact ⟨x, y, h1, h2.inn r ha q1, RVK.inn r ha q2 h3⟩
    · cases h
theorem RVF.inn {ix : List Nat} {as0 : List Addr} (r : R K ⟨xs, fr⟩ ⟨[], ce⟩ [] I as H) (ha : ∀ i c : Nat, ix[i]? = some c → as0[i]? = as[c]?) : ∀ {s s0 : List (Str × SV)} {v : List (Str × V)}, inK ce ix s = some s0 → RVF K I as s v → RVF K I as0 s0 v
  | [], s0, v, h, rv => by cases h; exact rv
  | (k, s) :: ss, s0, v, h, ⟨x, y, h1, h2, h3⟩ => by
    unfold inK at h
    split at h
    · rename_i s' r' q1 q2
      cases h
      exact ⟨x, y, h1, h2.inn r ha q1, RVF.inn r ha q2 h3⟩
    · cases h
theorem CellOk.inn {ix : List Nat} {as0 : List Addr} {fr' : Fr} (r : R K ⟨xs, fr⟩ ⟨[], ce⟩ [] I as H) (ha : ∀ i c : Nat, ix[i]? = some c → as0[i]? = as[c]?) {a : Addr} {o o0 : CO} (h : inO ce ix o = some o0) (c : CellOk K ⟨xs, fr⟩ I as H a o) : CellOk K ⟨xs, fr'⟩ I as0 H a o0 := by
  cases o with
  | lst l =>
    obtain ⟨l', q, rfl⟩ := Option.map_eq_some_iff.mp h
    obtain ⟨c1, vs, c2, c3⟩ := c
    exact ⟨c1, vs, c2, c3.inn r ha q⟩
  | tup l =>
    obtain ⟨l', q, rfl⟩ := Option.map_eq_some_iff.mp h
    obtain ⟨c1, vs, c2, c3⟩ := c
    exact ⟨c1, vs, c2, c3.inn r ha q⟩
  | dic l =>
    obtain ⟨l', q, rfl⟩ := Option.map_eq_some_iff.mp h
    obtain ⟨c1, vs, c2, c3⟩ := c
    exact ⟨c1, vs, c2, c3.inn r ha q⟩
  | ins C l =>
    obtain ⟨l', q, rfl⟩ := Option.map_eq_some_iff.mp h
    obtain ⟨c1, dx, vs, c2, c3⟩ := c
    exact ⟨c1, dx, vs, c2, c3.inn r ha q⟩
  | exc C l =>
    obtain ⟨l', q, rfl⟩ := Option.map_eq_some_iff.mp h
    obtain ⟨d, c1, c2⟩ := c
    refine ⟨d, c1, ?_⟩
    cases d with
    | none =>
      have : l = [] := c2
      subst this
      cases q
      rfl
    | some d =>
      obtain ⟨vs, c3, c4⟩ := c2
      exact ⟨vs, c3, c4.inn r ha q⟩
  | fz d => cases h; exact c
  | dead => cases h; trivial
  | tbl q => cases h; exact c
theorem RV.out {ix : List Nat} {n : Nat} {as' as2 : List Addr} (ha : ∀ (i : Nat) (x : Addr), as'[i]? = some x → as2[bkI ix n i]? = some x) {s : SV} {v : V} (rv : RV K I as' s v) : RV K I as2 (outS ix n s) v := by
  cases s with
  | no => exact rv
  | im d => exact rv
  | cl c =>
    obtain ⟨a, h1, rfl⟩ := rv
    exact ⟨a, ha c a h1, rfl⟩
theorem RVL.out {ix : List Nat} {n : Nat} {as' as2 : List Addr} (ha : ∀ (i : Nat) (x : Addr), as'[i]? = some x → as2[bkI ix n i]? = some x) : ∀ {s : List SV} {v : List V}, RVL K I as' s v → RVL K I as2 (s.map (outS ix n)) v
  | [], _, rv => rv
  | s :: ss, _, ⟨x, y, h1, h2, h3⟩ => ⟨x, y, h1, h2.out ha, RVL.out ha h3⟩
theorem RVK.out {ix : List Nat} {n : Nat} {as' as2 : List Addr} (ha : ∀ (i : Nat) (x : Addr), as'[i]? = some x → as2[bkI ix n i]? = some x) : ∀ {s : List (Key × SV)} {v : List (Key × V)}, RVK K I as' s v → RVK K I as2 (outK ix n s) v
  | [], _, rv => rv
  | (_, s) :: ss, _, ⟨x, y, h1, h2, h3⟩ => ⟨x, y, h1, h2.out ha, RVK.out ha h3⟩
theorem RVF.out {ix : List Nat} {n : Nat} {as' as2 : List Addr} (ha : ∀ (i : Nat) (x : Addr), as'[i]? = some x → as2[bkI ix n i]? = some x) : ∀ {s : List (Str × SV)} {v : List (Str × V)}, RVF K I as' s v → RVF K I as2 (outK ix n s) v
  | [], _, rv => rv
  | (_, s) :: ss, _, ⟨x, y, h1, h2, h3⟩ => ⟨x, y, h1, h2.out ha, RVF.out ha h3⟩
theorem XRel.out {ix : List Nat} {n : Nat} {as' as2 : List Addr} (ha : ∀ (i : Nat) (x : Addr), as'[i]? = some x → as2[bkI ix n i]? = some x) {fs : List (Str × SV)} : ∀ {d : Option Addr}, XRel K I as' fs d → XRel K I as2 (outK ix n fs) d
  | none, h => by rw [show fs = [] from h]; rfl
  | some _, ⟨vs, h1, h2⟩ => ⟨vs, h1, h2.out ha⟩
theorem CellOk.out {ix : List Nat} {n : Nat} {as' as2 : List Addr} {fr' : Fr} (ha : ∀ (i : Nat) (x : Addr), as'[i]? = some x → as2[bkI ix n i]? = some x) {a : Addr} {o : CO} (c : CellOk K ⟨xs, fr'⟩ I as' H a o) : CellOk K ⟨xs, fr⟩ I as2 H a (outO ix n o) := by
  cases o with
  | lst l => obtain ⟨c1, vs, c2, c3⟩ := c; exact ⟨c1, vs, c2, c3.out ha⟩
  | tup l => obtain ⟨c1, vs, c2, c3⟩ := c; exact ⟨c1, vs, c2, c3.out ha⟩
  | dic l => obtain ⟨c1, vs, c2, c3⟩ := c; exact ⟨c1, vs, c2, c3.out ha⟩
  | ins C l => obtain ⟨c1, dx, vs, c2, c3⟩ := c; exact ⟨c1, dx, vs, c2, c3.out ha⟩
  | exc C l => obtain ⟨d, c1, c2⟩ := c; exact ⟨d, c1, c2.out ha⟩
  | fz d => exact c
  | dead => trivial
  | tbl q => exact c
open Classical in
noncomputable def hidF (ce : List CO) (as : List Addr) (H : Hp) (a : Addr) : Option FO := if h : ∃ (q : Str) (c : Nat), ce[c]? = some (CO.tbl q) ∧ as[c]? = some a then some (.tb h.choose) else (H a).map .ho
open Classical in
theorem spFn_loc {n : Nat} {F : Fn} {vs : List V} {Q : VK} {E : XK} (h : spFn K n (loc F) vs H Q E) : spFn K n F vs H Q E := by
  obtain ⟨hl, xs, fr, ss, ce, as, I, r, rv, e⟩ := h
  refine ⟨hl, ?_⟩
  unfold loc at e
  generalize hix : reachA ss ce = ix at e
  have nd : ix.Nodup := by rw [← hix]; exact reachA_nodup _ _
  cases q1 : inL ce ix ss with
  | none => rw [q1] at e; exact e.go.elim
  | some ss0 =>
    cases q2 : inC ce ix ix with
    | none => rw [q1, q2] at e; exact e.go.elim
    | some ce0 =>
      rw [q1, q2] at e
      dsimp only at e
      obtain ⟨cl, cg⟩ := inC_get q2
      have al : as.length = ce.length := r.clen
      have ib : ∀ d ∈ ix, d < ce.length := fun d hd => by
        obtain ⟨i, hi⟩ := List.getElem?_of_mem hd
        obtain ⟨o0, ho⟩ := get_of_lt (l := ce0) (c := i) (by rw [← cl]; exact lt_of_get hi)
        obtain ⟨c, o, g1, g2, _⟩ := cg i o0 ho
        rw [hi] at g1; cases g1
        exact lt_of_get g2
      let as0 : List Addr := ix.map fun c => (as[c]?).getD 0
      have ha0 : ∀ i c : Nat, ix[i]? = some c → as0[i]? = as[c]? := fun i c hi => by
        obtain ⟨a, ha⟩ := get_of_lt (l := as) (c := c) (by rw [al]; exact ib c (List.mem_of_getElem? hi))
        show (ix.map fun c => (as[c]?).getD 0)[i]? = _
        rw [List.getElem?_map, hi, ha]
        simp [ha]
      let P : Addr → Prop := fun a => ∃ (c : Nat) (o : CO), ce[c]? = some o ∧ as[c]? = some a ∧ o.live = true ∧ c ∉ ix
      let fr' : Fr := fun a => if P a then hidF ce as H a else fr a
      have frP : ∀ a, P a → fr' a = hidF ce as H a := fun a ha => if_pos ha
      have frT : ∀ (a : Addr) (c : Nat) (q : Str), ce[c]? = some (.tbl q) → as[c]? = some a → hidF ce as H a = some (.tb q) := fun a c q g1 g2 => by
        have h : ∃ (q : Str) (c : Nat), ce[c]? = some (CO.tbl q) ∧ as[c]? = some a := ⟨q, c, g1, g2⟩
        unfold hidF
        rw [dif_pos h]
        obtain ⟨c', k1, k2⟩ := h.choose_spec
        have e := r.inj c c' _ _ a g1 k1 rfl rfl g2 k2
        subst e
        rw [show ce[c]? = _ from g1] at k1
        cases k1
        rfl
      have frO : ∀ (a : Addr) (u : HO), (¬ ∃ (q : Str) (c : Nat), ce[c]? = some (CO.tbl q) ∧ as[c]? = some a) → H a = some u → hidF ce as H a = some (.ho u) := fun a u h hu => by
        unfold hidF
        rw [dif_neg h, hu]; rfl
      have frH : ∀ a, P a → ∃ w, fr' a = some w ∧ FrH I H a w := fun a ha => by
        rw [frP a ha]
        obtain ⟨c, o, g1, g2, g3, g4⟩ := ha
        by_cases h : ∃ (q : Str) (c : Nat), ce[c]? = some (CO.tbl q) ∧ as[c]? = some a
        · obtain ⟨q, c', k1, k2⟩ := h
          obtain ⟨_, _, ps, z1, z2⟩ := r.cells c' _ a k1 k2
          exact ⟨_, frT a c' q k1 k2, ps, z1, z2⟩
        · obtain ⟨_, u, hu⟩ := CellOk.free g3 (r.cells c o a g1 g2)
          exact ⟨_, frO a u h hu, hu, CellOk.notC g3 (r.cells c o a g1 g2) hu, CellOk.notT g3 (fun q e => h ⟨q, c, by rw [g1, e], g2⟩) (r.cells c o a g1 g2) hu⟩
      have frN : ∀ a, ¬ P a → fr' a = fr a := fun a ha => if_neg ha
      have frK : ∀ a u, fr a = some u → ¬ P a := fun a u hu ⟨c, o, g1, g2, g3, g4⟩ => by
        have := r.cf c o a g1 g2 g3
        rw [show fr a = none from this] at hu; cases hu
      have notP : ∀ (i c : Nat) (o : CO) (a : Addr), ix[i]? = some c → ce[c]? = some o → as[c]? = some a → o.live = true → ¬ P a := fun i c o a hi hc hac hlv ⟨c', o', g1, g2, g3, g4⟩ => by
        have := r.inj c c' o o' a hc g1 hlv g3 hac g2
        subst this
        exact g4 (List.mem_of_getElem? hi)
      have r0 : R K ⟨xs, fr'⟩ ⟨[], ce0⟩ [] I as0 H := by
        refine ⟨fun a u hu => ?_, fun i o0 a hi hai hlv => ?_, fun a u hu => ?_, r.ih, rfl, fun i s h => by simp at h, ?_, fun i o0 a hi hai => ?_, fun i i' o0 o0' a hi hi' l1 l2 h1 h2 => ?_, r.it⟩
        · by_cases hp : P a
          · obtain ⟨w, z1, z2⟩ := frH a hp
            rw [show (EC.mk xs fr').fr a = _ from z1] at hu
            cases hu
            exact z2
          · exact r.fh a u ((frN a hp).symm.trans hu)
        · obtain ⟨c, o, g1, g2, g3⟩ := cg i o0 hi
          rw [inO_live g3] at hlv
          rw [ha0 i c g1] at hai
          show fr' a = none
          rw [frN a (notP i c o a g1 g2 hai hlv)]
          exact r.cf c o a g2 hai hlv
        · by_cases hp : P a
          · obtain ⟨c, o, g1, g2, g3, g4⟩ := hp
            exact (CellOk.free g3 (r.cells c o a g1 g2)).1
          · exact r.fi a u ((frN a hp).symm.trans hu)
        · show (ix.map _).length = ce0.length
          rw [List.length_map, cl]
        · obtain ⟨c, o, g1, g2, g3⟩ := cg i o0 hi
          rw [ha0 i c g1] at hai
          exact CellOk.inn r ha0 g3 (r.cells c o a g2 hai)
        · obtain ⟨c, o, g1, g2, g3⟩ := cg i o0 hi
          obtain ⟨c', o', g1', g2', g3'⟩ := cg i' o0' hi'
          rw [ha0 i c g1] at h1
          rw [ha0 i' c' g1'] at h2
          rw [inO_live g3] at l1
          rw [inO_live g3'] at l2
          have := r.inj c c' o o' a g2 g2' l1 l2 h1 h2
          subst this
          exact nodup_ix nd g1 g1'
      have back : ∀ {ce' : List CO} {I' : Hp} {as' : List Addr} {H' : Hp}, R K ⟨xs, fr'⟩ ⟨[], ce'⟩ [] I' as' H' → Le I as0 I' as' →
          ∃ as2, R K ⟨xs, fr⟩ ⟨[], wrB ix ce ce'⟩ [] I' as2 H' ∧ Le I as I' as2 ∧ ∀ (i : Nat) (x : Addr), as'[i]? = some x → as2[bkI ix ce.length i]? = some x := by
        intro ce' I' as' H' r' le
        have ll : ix.length ≤ ce'.length := by
          have := le_len (δ := ⟨[], ce0⟩) r0 r' le
          rw [cl]; exact this
        have al' : as'.length = ce'.length := r'.clen
        have hb : ∀ (i : Nat) (x : Addr), as'[i]? = some x → (as ++ as'.drop ix.length)[bkI ix ce.length i]? = some x := fun i x hx => by
          unfold bkI
          cases hi : ix[i]? with
          | some c =>
            dsimp only
            have hc : c < as.length := by rw [al]; exact ib c (List.mem_of_getElem? hi)
            rw [List.getElem?_append_left hc]
            obtain ⟨y, hy⟩ := get_of_lt hc
            have := le.a i y (by rw [ha0 i c hi]; exact hy)
            rw [this] at hx; cases hx
            exact hy
          | none =>
            dsimp only
            have : ix.length ≤ i := by simpa using hi
            rw [List.getElem?_append_right (by omega), List.getElem?_drop]
            rw [show ix.length + (ce.length + (i - ix.length) - as.length) = i by omega]
            exact hx
        have leA : Le I as I' (as ++ as'.drop ix.length) := ⟨le.i, fun c x h => by rw [List.getElem?_append_left (lt_of_get h)]; exact h⟩
        have wg : ∀ (c : Nat) (o : CO) (a : Addr), (wrB ix ce ce')[c]? = some o → (as ++ as'.drop ix.length)[c]? = some a → (c ∉ ix ∧ ce[c]? = some o ∧ as[c]? = some a) ∨ (∃ i o', ce'[i]? = some o' ∧ o = outO ix ce.length o' ∧ as'[i]? = some a ∧ c = bkI ix ce.length i) := fun c o a h1 h2 => by
          rcases setAll_get ix ce.length ix ce ce' c o h1 ll ib nd with ⟨g1, g2⟩ | ⟨i, o', g1, g2, g3⟩
          · rw [List.getElem?_append_left (by rw [al]; exact lt_of_get g2)] at h2
            exact .inl ⟨g1, g2, h2⟩
          · have hc : c = bkI ix ce.length i := by
              unfold bkI
              rcases g3 with g3 | ⟨g3, g4⟩
              · rw [g3]
              · rw [List.getElem?_eq_none g3]; exact g4
            obtain ⟨y, hy⟩ := get_of_lt (l := as') (c := i) (by rw [al']; exact lt_of_get g1)
            have := hb i y hy
            rw [← hc, h2] at this
            cases this
            exact .inr ⟨i, o', g1, g2, hy, hc⟩
        have frLe : ∀ a u, fr a = some u → fr' a = some u := fun a u hu => by rw [frN a (frK a u hu)]; exact hu
        refine ⟨as ++ as'.drop ix.length, ⟨fun a u hu => r'.fh a u (frLe a u hu), fun c o a h1 h2 hlv => ?_, fun a u hu => r'.fi a u (frLe a u hu), r'.ih, rfl, fun i s h => by simp at h, ?_, fun c o a h1 h2 => ?_, fun c c' o o' a h1 h1' l1 l2 h2 h2' => ?_, r'.it⟩, leA, hb⟩
        · rcases wg c o a h1 h2 with ⟨g1, g2, g3⟩ | ⟨i, o', g1, rfl, g3, _⟩
          · exact r.cf c o a g2 g3 hlv
          · rw [outO_live] at hlv
            have z : fr' a = none := r'.cf i o' a g1 g3 hlv
            cases hq : fr a with
            | none => exact hq
            | some u => rw [show fr' a = some u from frLe a u hq] at z; cases z
        · show (as ++ as'.drop ix.length).length = (wrB ix ce ce').length
          unfold wrB
          rw [setAll_len _ _ _ _ _ ll, List.length_append, List.length_drop, al, al']
        · rcases wg c o a h1 h2 with ⟨g1, g2, g3⟩ | ⟨i, o', g1, rfl, g3, _⟩
          · by_cases ht : ∀ q, o ≠ .tbl q
            rotate_left
            · obtain ⟨q, ht⟩ := Classical.not_forall.mp ht
              have ht : o = .tbl q := Classical.not_not.mp ht
              subst ht
              have z := (frP a ⟨c, _, g2, g3, rfl, g1⟩).trans (frT a c q g2 g3)
              obtain ⟨ps, z1, z2⟩ := r'.fh a _ z
              exact ⟨(r.cells c _ a g2 g3).1, r'.fi a _ z, ps, z1, z2⟩
            refine CellOk.mono (r.cells c o a g2 g3) leA (fun hlv => ?_) (fun hlv u hu => ?_)
            · obtain ⟨w, z1, _⟩ := frH a ⟨c, o, g2, g3, hlv, g1⟩
              exact r'.fi a w z1
            · have hno : ¬ ∃ (q : Str) (c : Nat), ce[c]? = some (CO.tbl q) ∧ as[c]? = some a := fun ⟨q, c', k1, k2⟩ => by
                have e := r.inj c c' _ _ a g2 k1 hlv rfl g3 k2
                subst e
                rw [g2] at k1
                cases k1
                exact ht q rfl
              exact (r'.fh a _ ((frP a ⟨c, o, g2, g3, hlv, g1⟩).trans (frO a u hno hu))).1
          · exact CellOk.out hb (r'.cells i o' a g1 g3)
        · have nn : ∀ (c : Nat) (o : CO) (i : Nat) (o' : CO), c ∉ ix → ce[c]? = some o → as[c]? = some a → o.live = true → ce'[i]? = some o' → as'[i]? = some a → o'.live = true → False := fun c o i o' k1 k2 k3 k4 k5 k6 k7 => by
            have z : fr' a = none := r'.cf i o' a k5 k6 k7
            obtain ⟨w, hw, _⟩ := frH a ⟨c, o, k2, k3, k4, k1⟩
            rw [hw] at z
            cases z
          rcases wg c o a h1 h2 with ⟨g1, g2, g3⟩ | ⟨i, o2, g1, rfl, g3, g4⟩
          · rcases wg c' o' a h1' h2' with ⟨f1, f2, f3⟩ | ⟨i', o2', f1, rfl, f3, f4⟩
            · exact r.inj c c' o o' a g2 f2 l1 l2 g3 f3
            · rw [outO_live] at l2
              exact (nn c o i' o2' g1 g2 g3 l1 f1 f3 l2).elim
          · rw [outO_live] at l1
            rcases wg c' o' a h1' h2' with ⟨f1, f2, f3⟩ | ⟨i', o2', f1, rfl, f3, f4⟩
            · exact (nn c' o' i o2 f1 f2 f3 l2 g1 g3 l1).elim
            · rw [outO_live] at l2
              have := r'.inj i i' o2 o2' a g1 f1 l1 l2 g3 f3
              rw [g4, f4, this]
      refine ⟨xs, fr', ss0, ce0, as0, I, r0, rv.inn r ha0 q1, ⟨?_⟩⟩
      have e := e.go
      cases qF : F ss0 ce0 with
      | bad => rw [qF] at e; exact e.elim
      | ok s ce' =>
        rw [qF] at e
        intro v I' as' H' r' le rv'
        obtain ⟨as2, r2, le2, hb⟩ := back r' le
        exact e v I' as2 H' r2 le2 (rv'.out hb)
      | ex x ce' =>
        rw [qF] at e
        intro d I' as' H' r' le xr
        obtain ⟨as2, r2, le2, hb⟩ := back r' le
        exact e d I' as2 H' r2 le2 (xr.out hb)
end
theorem FnG.loc {P : Program} {w : World} {K : PySem.W.Frag} {mg : Str → Option Value} {base : Heap} {CX : CXT} {k n : Nat} {f : Addr} {fd : FuncData} {ps : List Str} {F : Fn} (G : FnG P w K mg base CX k f fd ps (spFn K n F)) : FnG P w K mg base CX k f fd ps (spFn K n (Fx.loc F)) :=
  ⟨fun vs H Q E h => G.len vs H Q E (spFn_loc h), fun A outer s H args us vs Q E hr e0 hb r h => G.run A outer s H args us vs Q E hr e0 hb r (spFn_loc h)⟩
theorem fnKW_loc {P : Program} {w : World} {K : PySem.W.Frag} {mg : Str → Option Value} {base : Heap} {CX : CXT} {k n : Nat} {f : Addr} {ks : List Str} {F : Fn} 
    (G : FnKW P w K mg base CX k f ks (fun vs zs H Q E => vs.length = n ∧ zs.length = ks.length ∧ ∀ d, H d = none → spFn K (n + 1) F (vs ++ [V.ref d]) (upd H d (.dK (mergeK [] (inrs (ks.zip zs))))) Q E)) :
    FnKW P w K mg base CX k f ks (fun vs zs H Q E => vs.length = n ∧ zs.length = ks.length ∧ ∀ d, H d = none → spFn K (n + 1) (Fx.loc F) (vs ++ [V.ref d]) (upd H d (.dK (mergeK [] (inrs (ks.zip zs))))) Q E) :=
  fun A outer s H us ws vs zs Q E hr e0 r1 r2 h => G A outer s H us ws vs zs Q E hr e0 r1 r2 ⟨h.1, h.2.1, fun d hd => spFn_loc (h.2.2 d hd)⟩
/-- the plain step -/
theorem s_loc {F : Fn} {ss ss0 : List SV} {ce ce0 : List CO} {ix : List Nat} {Ψ : SV → List CO → Prop} {Ξ : Xn → List CO → Prop} (hx : reachA ss ce = ix) (h1 : inL ce ix ss = some ss0) (h2 : inC ce ix ix = some ce0)
    (h : (F ss0 ce0).sat (fun s c => Ψ (outS ix ce.length s) (wrB ix ce c)) (fun x c => Ξ ⟨x.cls, outK ix ce.length x.fs⟩ (wrB ix ce c))) : (loc F ss ce).sat Ψ Ξ := by
  unfold loc
  rw [hx, h1, h2]
  dsimp only
  cases q : F ss0 ce0 <;> rw [q] at h <;> exact h
theorem lc (ix : List Nat) {F : Fn} {ss ss0 : List SV} {ce ce0 : List CO} {Ψ : SV → List CO → Prop} {Ξ : Xn → List CO → Prop} (h : (F ss0 ce0).sat (fun s c => Ψ (outS ix ce.length s) (wrB ix ce c)) (fun x c => Ξ ⟨x.cls, outK ix ce.length x.fs⟩ (wrB ix ce c)))
    (hx : reachA ss ce = ix := by rfl) (h1 : inL ce ix ss = some ss0 := by rfl) (h2 : inC ce ix ix = some ce0 := by rfl) : (loc F ss ce).sat Ψ Ξ := s_loc hx h1 h2 h
theorem lq (ix : List Nat) {F : Fn} {ss ss0 : List SV} {ce ce0 : List CO} {Ψ : SV → List CO → Prop} {Ξ : Xn → List CO → Prop} (hx : reachA ss ce = ix) (h1 : inL ce ix ss = some ss0) (h2 : inC ce ix ix = some ce0)
    (h : (F ss0 ce0).sat (fun s c => Ψ (outS ix ce.length s) (wrB ix ce c)) (fun x c => Ξ ⟨x.cls, outK ix ce.length x.fs⟩ (wrB ix ce c))) : (loc F ss ce).sat Ψ Ξ := s_loc hx h1 h2 h
theorem reachA_im {ss : List SV} {ce : List CO} (h : cellsL ce ss = []) : reachA ss ce = [] := by
  unfold reachA
  rw [h]
  show reach ce ce.length [] = []
  cases ce.length with
  | zero => rfl
  | succ n => rfl
/-- data in, data out -/
theorem loc_im {F : Fn} {ss : List SV} {ce : List CO} {d : D} (h : F ss [] = .ok (.im d) []) (h1 : cellsL ce ss = [] := by rfl) (h2 : inL ce [] ss = some ss := by rfl) : loc F ss ce = .ok (.im d) ce := by
  unfold loc
  rw [reachA_im h1, h2]
  show outF [] ce (F ss []) = _
  rw [h]
  rfl
/-- .. a new cell out -/
theorem loc_cl {F : Fn} {ss : List SV} {ce : List CO} {o : CO} (h : F ss [] = .ok (.cl 0) [o]) (h1 : cellsL ce ss = [] := by rfl) (h2 : inL ce [] ss = some ss := by rfl) (h3 : outO [] ce.length o = o := by rfl) : loc F ss ce = .ok (.cl ce.length) (ce ++ [o]) := by
  unfold loc
  rw [reachA_im h1, h2]
  show outF [] ce (F ss []) = _
  rw [h]
  show Out.ok (SV.cl (ce.length + 0)) (ce ++ [outO [] ce.length o]) = _
  rw [h3]; rfl
theorem s_loc0 {F : Fn} {ss : List SV} {ce : List CO} {Ψ : SV → List CO → Prop} {Ξ : Xn → List CO → Prop} (h : (F ss []).sat (fun s c => Ψ (outS [] ce.length s) (wrB [] ce c)) (fun x c => Ξ ⟨x.cls, outK [] ce.length x.fs⟩ (wrB [] ce c))) (h1 : cellsL ce ss = [] := by rfl) (h2 : inL ce [] ss = some ss := by rfl) : (loc F ss ce).sat Ψ Ξ :=
  s_loc (reachA_im h1) h2 rfl h
end Fx

set_option Elab.async false
set_option linter.all false
set_option autoImplicit false
set_option maxRecDepth 100000
set_option maxHeartbeats 2000000
namespace Fx
open PySem PySem.Spec PyProof.Rows L2
/-! ## loops by what is left -/
theorem s_forLR {g : AG} {p : AS} {Φ : Post} (J : List D → Sta → Prop) : ∀ (ds : List D) (δ : Sta), J ds δ → (∀ d ds δ, J (d :: ds) δ → ∃ δ', g (.im d) δ = some δ' ∧ (p δ').sat { Φ with nx := J ds, ct := J ds, bk := Φ.nx }) → (∀ δ, J [] δ → Φ.nx δ) → (forL g p ds δ).sat Φ
  | [], δ, h0, _, h2 => h2 δ h0
  | d :: ds, δ, h0, h1, h2 => by
    obtain ⟨δ', e, h⟩ := h1 d ds δ h0
    refine s_forL1 ⟨δ', e, ?_⟩
    cases q : p δ' with
    | nx δ2 => rw [q] at h; exact s_forLR J ds δ2 h h1 h2
    | ct δ2 => rw [q] at h; exact s_forLR J ds δ2 h h1 h2
    | bk δ2 => rw [q] at h; exact h
    | rt s δ2 => rw [q] at h; exact h
    | ex x δ2 => rw [q] at h; exact h
    | bad => rw [q] at h; exact h
end Fx

set_option Elab.async false
set_option linter.all false
set_option autoImplicit false
set_option maxRecDepth 100000
set_option maxHeartbeats 4000000
namespace Fx
open PySem PySem.Spec PyProof.Rows L2
/-! ## operators by own methods -/
section
variable {prog : Program} {w : World} {A : Around} {E : Value → Shared → Prop} {s : Shared} {K : PySem.W.Frag} {x C f : Addr} {ox : Obj} {od : Option Obj} {b : Value}
open PySem.W in
open PySem.W in
open PySem.W in
end
/-- classes with an own method for an operator -/
structure GO (P : Program) (w : World) (K : PySem.W.Frag) (mg : Str → Option Value) (base : Heap) (nm : Str) (k : Nat) (tab : MTab) : Prop where
  ex : ∀ C n F, tab.lookup C = some (n, F) → ∃ (f : Addr) (fd : FuncData) (ps : List Str), Meth K (He.ga K C) nm f ∧ PySem.W.selfFirst K (He.ga K C) = true ∧ FnG P w K mg base (CX P w) k f fd ps (spFn K n F) ∧ Binds K fd ps []
section
variable {X : Cx} {P : Program} {w : World} {K : PySem.W.Frag} {mg : Str → Option Value} {base : Heap} {k : Nat} {tab : MTab} {a b : Expr} {ta tb : TE} {W : WX} {pos : Pos} {r : R2} {op : Operator}
/-- no class of them has an own form in place -/
structure NoInpl (K : PySem.W.Frag) (op : Operator) (tab : MTab) : Prop where
  go : ∀ C nF, tab.lookup C = some nF → ∀ (M : Model) (h : Heap), K.In h → PySem.W.Looks M h (fillsInplaceSlot (.ref (He.ga K C)) op.info.2 (op == .Add)) false
end
/-! ## isinstance of a tuple of classes -/
end Fx

set_option Elab.async false
set_option linter.all false
set_option autoImplicit false
set_option maxRecDepth 100000
set_option maxHeartbeats 4000000
namespace Fx
open PySem PySem.Spec PyProof.Rows L2
/-! ## own errors without own __init__, made without arguments -/
structure Own0 (K : PySem.W.Frag) (mg : Str → Option Value) (x : Str) : Prop where
  q : PySem.W.excIn K (He.ga K x) [.type "ValueError", .type "Exception", .type "BaseException", .type "object"] "ValueError.__new__" = true
  gC : mg x = some (.ref (He.ga K x))
  kC : PySem.W.keepIn K (.ref (He.ga K x)) = true
  exC : PySem.W.subIn K (.ref (He.ga K x)) (.type "BaseException") = some true
  tyC : PySem.W.typeIn K (.ref (He.ga K x)) = some (.type "type")
section
variable {X : Cx} {x : Str} {p pos pos2 : Pos} {W : WX}
end
/-! ## no own form in place -/
section
open PySem.W
end
end Fx

set_option Elab.async false
set_option linter.all false
set_option autoImplicit false
set_option maxRecDepth 100000
set_option maxHeartbeats 2000000
namespace Fx
open PySem PySem.Spec PyProof.Rows L2
/-! ## isinstance of a tuple of classes -/
def isiL (isi : Isi) (k : XC) : List D → Option Bool
  | [] => some false
  | d :: ds => match clsD d with
    | some c => (match isi.lookup (k, c) with
      | some true => if (ds.all fun d => (clsD d).isSome) = true then some true else none
      | some false => isiL isi k ds
      | none => none)
    | none => none
def isiT (isi : Isi) : ACB := fun ss δ => match ss with
  | [s, t] => (match kindS δ s, imS δ.ce t with
    | some k, some (.tup (d :: ds)) => (match isiL isi k (d :: ds) with
      | some b => .ok (.im (.bl b)) δ
      | none => .bad)
    | _, _ => .bad)
  | _ => .bad
section
variable {K : PySem.W.Frag} {xs : Xs}
end
/-! ## operators by own methods -/
def aOwn (isi : Isi) (tab : MTab) (m : Str) (f : AOp) (a b : AE) : AE := fun δ => (a δ).bind fun s δ1 => (b δ1).bind fun t δ2 => match clsS δ2 m s with
  | some C => (match tab.lookup C, kindS δ2 t with
    | some (n, F), some k => if n = 2 ∧ k = .own C ∧ (isi.lookup (k, .blt "int")).isSome = true then out1 δ2.sl (F [s, t] δ2.ce) else .bad
    | _, _ => .bad)
  | none => f s t δ2
/-- x op= e, by an own method -/
def augOut (isi : Isi) (tab : MTab) (m : Str) (i : Nat) (s t : SV) (δ1 : Sta) : OutS := match clsS δ1 m s with
  | some C => (match tab.lookup C, kindS δ1 t with
    | some (n, F), some k => if n = 2 ∧ k = .own C ∧ (isi.lookup (k, .blt "int")).isSome = true then (match F [s, t] δ1.ce with
      | .ok z ce => .nx ⟨δ1.sl.set i z, ce⟩
      | _ => .bad) else .bad
    | _, _ => .bad)
  | none => .bad
def aAugO (isi : Isi) (tab : MTab) (m : Str) (i : Nat) (e : AE) : AS := fun δ => match δ.sl[i]? with
  | some .no => .bad
  | none => .bad
  | some s => (match e δ with
    | .ok t δ1 => augOut isi tab m i s t δ1
    | _ => .bad)
section
variable {K : PySem.W.Frag} {xs : Xs} {W : WX} {ta tb te : TE} {a b e : AE}
end
/-! ## errors without fields -/
def aRaise0 (x : Str) : AS := fun δ => .ex ⟨.own x, []⟩ δ
def isxZ (tab : Isi) : ACB := fun ss δ => match ss with
  | [.cl c, t] => (match δ.ce[c]?, dv δ.ce t with
    | some (.exc k _), some d => (match clsD d with
      | some cc => (match tab.lookup (k, cc) with
        | some b => .ok (.im (.bl b)) δ
        | none => .bad)
      | none => .bad)
    | _, _ => .bad)
  | _ => .bad
section
variable {K : PySem.W.Frag} {xs : Xs} {W : WX}
end
/-! ## (a, b, ..) = a tuple or a list -/
/-! ## xs[::-1] of a list -/
def aRev (a : AE) : AE := fun δ => (a δ).bind fun s δ1 => match dv δ1.ce s with
  | some (.lst ds) => .ok (.im (.lst ds.reverse)) δ1
  | _ => .bad
theorem RepL.reverse {K : PySem.W.Frag} {H : Hp} : ∀ {ds : List D} {vs : List V}, RepL K H ds vs → RepL K H ds.reverse vs.reverse
  | [], vs, h => by rw [show vs = [] from h]; exact rfl
  | d :: ds, vs, ⟨v, r, e, h1, h2⟩ => by
    subst e
    rw [List.reverse_cons, List.reverse_cons]
    exact (RepL.reverse h2).append ⟨v, [], rfl, h1, rfl⟩
/-! ## plain steps -/
section
variable {δ : Sta} {Ψ : SV → Sta → Prop} {Ξ : Xn → Sta → Prop} {Ψl : List SV → Sta → Prop} {Φ : Post} {a b e : AE} {r : AA} {p : AS} {n : Nat}
theorem s_isiT {isi : Isi} {s : SV} {k : XC} {d : D} {ds : List D} {c : Bool} (h1 : kindS δ s = some k) (h2 : isiL isi k (d :: ds) = some c) (h : Ψ (.im (.bl c)) δ) : (isiT isi [s, .im (.tup (d :: ds))] δ).sat Ψ Ξ := by
  unfold isiT
  dsimp only [imS]
  rw [h1]
  dsimp only
  rw [h2]
  exact h
theorem s_own {isi : Isi} {tab : MTab} {m : Str} {f : AOp} (h : (a δ).sat (fun s δ1 => (b δ1).sat (fun t δ2 => (∃ C F, clsS δ2 m s = some C ∧ tab.lookup C = some (2, F) ∧ kindS δ2 t = some (.own C) ∧ (isi.lookup (.own C, .blt "int")).isSome = true ∧ (F [s, t] δ2.ce).sat (fun z ce => Ψ z ⟨δ2.sl, ce⟩) fun x ce => Ξ x ⟨δ2.sl, ce⟩) ∨ (clsS δ2 m s = none ∧ (f s t δ2).sat Ψ Ξ)) Ξ) Ξ) : (aOwn isi tab m f a b δ).sat Ψ Ξ :=
  sat_of_bind (Out.sat_mono h (fun s δ1 h1 => sat_of_bind (Out.sat_mono h1 (fun t δ2 h2 => by
    rcases h2 with ⟨C, F, e1, e2, e3, e4, h2⟩ | ⟨e1, h2⟩
    · rw [e1]; dsimp only; rw [e2, e3]; dsimp only; rw [if_pos ⟨rfl, rfl, e4⟩]
      cases q : F [s, t] δ2.ce <;> rw [q] at h2 <;> exact h2
    · rw [e1]; exact h2) fun _ _ z => z)) fun _ _ z => z)
theorem s_augO {isi : Isi} {tab : MTab} {m : Str} {i : Nat} {s : SV} (hs : δ.sl[i]? = some s) (hn : s ≠ .no) (h : (e δ).sat (fun t δ1 => ∃ C F, clsS δ1 m s = some C ∧ tab.lookup C = some (2, F) ∧ kindS δ1 t = some (.own C) ∧ (isi.lookup (.own C, .blt "int")).isSome = true ∧ (F [s, t] δ1.ce).sat (fun z ce => Φ.nx ⟨δ1.sl.set i z, ce⟩) fun _ _ => False) fun _ _ => False) : (aAugO isi tab m i e δ).sat Φ := by
  unfold aAugO
  rw [hs]
  have main : (match e δ with
    | .ok t δ1 => augOut isi tab m i s t δ1
    | _ => OutS.bad).sat Φ := by
    cases q : e δ with
    | ok t δ1 =>
      rw [q] at h
      obtain ⟨C, F, e1, e2, e3, e4, h⟩ := h
      dsimp only
      unfold augOut
      rw [e1]; dsimp only; rw [e2, e3]; dsimp only; rw [if_pos ⟨rfl, rfl, e4⟩]
      cases qf : F [s, t] δ1.ce <;> rw [qf] at h <;> exact h
    | ex x δ1 => rw [q] at h; exact h.elim
    | bad => rw [q] at h; exact h.elim
  cases s with
  | no => exact absurd rfl hn
  | im d => exact main
  | cl c => exact main
theorem s_raise0 {x : Str} (h : Φ.ex ⟨.own x, []⟩ δ) : (aRaise0 x δ).sat Φ := h
theorem s_isz {tab : Isi} {c : Nat} {t : SV} {k cc : XC} {fs : List (Str × SV)} {d : D} {z : Bool} (h1 : δ.ce[c]? = some (.exc k fs)) (h2 : dv δ.ce t = some d) (h3 : clsD d = some cc) (h4 : tab.lookup (k, cc) = some z) (h : Ψ (.im (.bl z)) δ) : (isxZ tab [.cl c, t] δ).sat Ψ Ξ := by
  unfold isxZ
  dsimp only
  rw [h1, h2]
  dsimp only
  rw [h3]
  dsimp only
  rw [h4]
  exact h
theorem s_rev (h : (a δ).sat (fun s δ1 => ∃ ds, dv δ1.ce s = some (.lst ds) ∧ Ψ (.im (.lst ds.reverse)) δ1) Ξ) : (aRev a δ).sat Ψ Ξ :=
  sat_of_bind (Out.sat_mono h (fun s δ1 ⟨ds, e, h1⟩ => by rw [e]; exact h1) fun _ _ z => z)
theorem s_append {c : Nat} {us : List SV} {t : SV} (hc : δ.ce[c]? = some (.lst us)) (hl : us.length < 100000) (h : Ψ (.im .non) ⟨δ.sl, δ.ce.set c (.lst (us ++ [t]))⟩) : (appendA (.cl c) [t] δ).sat Ψ Ξ := by
  unfold appendA
  dsimp only
  rw [hc]
  dsimp only
  rw [if_pos hl]
  exact h
end
end Fx

set_option Elab.async false
set_option linter.all false
set_option autoImplicit false
set_option maxRecDepth 100000
set_option maxHeartbeats 2000000
namespace Fx
open PySem PySem.Spec PyProof.Rows L2
end Fx

set_option Elab.async false
set_option linter.all false
set_option autoImplicit false
set_option maxRecDepth 100000
set_option maxHeartbeats 4000000
namespace Fx
open PySem PySem.Spec PyProof.Rows L2
/-! ## zip(x, y), each a list or a tuple -/
section
variable {X : Cx} {pins : List (Addr × Obj)} {σ : L2.St} {H : Hp} {s : Shared} {k : Bool} {a : Addr} {xs : List V}
end
end Fx

set_option Elab.async false
set_option linter.all false
set_option autoImplicit false
set_option maxRecDepth 100000
set_option maxHeartbeats 2000000
namespace Fx
open PySem PySem.Spec PyProof.Rows L2
/-! ## zip of lists and tuples, as an outcome -/
def seqD : D → Option (Bool × List D)
  | .lst ds => some (true, ds)
  | .tup ds => some (false, ds)
  | _ => none
def aZipM (r : AA) : AI := fun δ => (r δ).bind fun ss δ1 => match ss with
  | [s, t] => (match toIm δ1.ce s with
    | some (x, ce1) => (match toIm ce1 t with
      | some (y, ce2) => (match seqD x, seqD y with
        | some (_, ds), some (_, es) => .ok (zipD ds es) ⟨δ1.sl, ce2⟩
        | _, _ => .bad)
      | none => .bad)
    | none => .bad)
  | _ => .bad
section
variable {K : PySem.W.Frag} {xs : Xs} {W : WX}
end
/-! ## plain steps -/
section
variable {δ : Sta} {Ψ : SV → Sta → Prop} {Ξ : Xn → Sta → Prop} {Ψb : Bool → Sta → Prop} {Ψl : List SV → Sta → Prop} {Φ : Post} {a b c e : AE} {r : AA} {p : AS} {n : Nat}
theorem s_zipM {Ψi : List D → Sta → Prop} (h : (r δ).sat (fun ss δ1 => ∃ s t x ce1 y ce2 k ds j es, ss = [s, t] ∧ toIm δ1.ce s = some (x, ce1) ∧ toIm ce1 t = some (y, ce2) ∧ seqD x = some (k, ds) ∧ seqD y = some (j, es) ∧ Ψi (zipD ds es) ⟨δ1.sl, ce2⟩) Ξ) : (aZipM r δ).sat Ψi Ξ :=
  sat_of_bind (Out.sat_mono h (fun ss δ1 ⟨s, t, x, ce1, y, ce2, k, ds, j, es, h0, h1, h2, h3, h4, h5⟩ => by subst h0; dsimp only; rw [h1]; dsimp only; rw [h2]; dsimp only; rw [h3, h4]; exact h5) fun _ _ z => z)
theorem s_chain {o o' : AOp} (h : (a δ).sat (fun s δ1 => (b δ1).sat (fun t δ2 => (o s t δ2).sat (fun z δ3 => ∃ k, dv δ3.ce z = some (.bl k) ∧ (k = true → (c δ3).sat (fun u δ4 => (o' t u δ4).sat Ψ Ξ) Ξ) ∧ (k = false → Ψ (.im (.bl false)) δ3)) Ξ) Ξ) Ξ) : (aChain o o' a b c δ).sat Ψ Ξ :=
  sat_of_bind (Out.sat_mono h (fun s δ1 h1 => sat_of_bind (Out.sat_mono h1 (fun t δ2 h2 => sat_of_bind (Out.sat_mono h2 (fun z δ3 ⟨k, e, h3, h4⟩ => by
    rw [e]
    cases k with
    | false => exact h4 rfl
    | true => exact sat_of_bind (h3 rfl)) fun _ _ z => z)) fun _ _ z => z)) fun _ _ z => z)
/-- [e for x in xs], e of what is fixed -/
theorem s_lcP {it : AI} {g : AG} {vs : List Nat} (f : D → D) (h : (it δ).sat (fun ds δ1 => ds.length ≤ 100000 ∧ (∀ d ∈ ds, ∃ δ2, g (.im d) ⟨wipeS δ1.sl vs, δ1.ce⟩ = some δ2 ∧ (e δ2).sat (fun s δ4 => s = .im (f d) ∧ δ4.ce = δ2.ce) (fun _ _ => False) ∧ δ2.ce = δ1.ce) ∧ Ψ (.im (.lst (ds.map f))) δ1) Ξ) : (aLc it g aYes e vs δ).sat Ψ Ξ :=
  s_lcF (fun _ => true) f (Out.sat_mono h (fun ds δ1 ⟨h0, h1, h2⟩ => ⟨h0, fun d hd => by
    obtain ⟨δ2, e1, e2, e3⟩ := h1 d hd
    exact ⟨δ2, e1, rfl, e3, fun _ => Out.sat_mono e2 (fun s δ4 ⟨q1, q2⟩ => ⟨q1, q2.trans e3⟩) fun _ _ z => z⟩, by
    have e : ds.filter (fun _ => true) = ds := List.filter_eq_self.mpr fun _ _ => rfl
    rw [e]; exact h2⟩) fun _ _ z => z)
theorem s_tupI {d : D} {k : Bool} {ds : List D} (e : seqD d = some (k, ds)) (h : Ψ (.im (.tup ds)) δ) : (tupleA [.im d] δ).sat Ψ Ξ := by
  cases d with
  | lst l => cases e; exact h
  | tup l => cases e; exact h
  | _ => cases e
end
end Fx

set_option Elab.async false
set_option linter.all false
set_option autoImplicit false
set_option maxRecDepth 100000
set_option maxHeartbeats 2000000
namespace Fx
open PySem PySem.Spec PyProof.Rows L2
/-! ## comprehensions by what is left -/
theorem lcR {g : AG} {t : AT} {e : AE} {sl : List SV} (J : List D → List D → List CO → Prop) : ∀ (ds acc : List D) (ce : List CO), J ds acc ce →
    (∀ d ds acc ce, J (d :: ds) acc ce → ∃ δ1, g (.im d) ⟨sl, ce⟩ = some δ1 ∧ (t δ1).sat (fun b δ2 => (b = true → (e δ2).sat (fun s δ3 => ∃ y ce3, toIm δ3.ce s = some (y, ce3) ∧ J ds (acc ++ [y]) (cutOr ce ce3)) fun _ _ => False) ∧ (b = false → J ds acc (cutOr ce δ2.ce))) fun _ _ => False) →
    ∃ acc' ce', lcL g t e sl ds acc ce = some (acc', ce') ∧ J [] acc' ce'
  | [], acc, ce, h, _ => ⟨acc, ce, rfl, h⟩
  | d :: ds, acc, ce, h, hs => by
    obtain ⟨δ1, e1, h1⟩ := hs d ds acc ce h
    unfold lcL
    rw [e1]
    dsimp only
    cases q : t δ1 with
    | bad => rw [q] at h1; exact h1.elim
    | ex x δ2 => rw [q] at h1; exact h1.elim
    | ok b δ2 =>
      rw [q] at h1
      dsimp only
      cases b with
      | false => exact lcR J ds _ _ (h1.2 rfl) hs
      | true =>
        have h2 := h1.1 rfl
        rw [if_pos rfl]
        cases q2 : e δ2 with
        | bad => rw [q2] at h2; exact h2.elim
        | ex x δ3 => rw [q2] at h2; exact h2.elim
        | ok s δ3 =>
          rw [q2] at h2
          obtain ⟨y, ce3, e3, h3⟩ := h2
          dsimp only
          rw [e3]
          exact lcR J ds _ _ h3 hs
section
variable {δ : Sta} {Ψ : SV → Sta → Prop} {Ξ : Xn → Sta → Prop} {e : AE} {t : AT}
theorem s_lcR {it : AI} {g : AG} {vs : List Nat} (J : List D → List D → List CO → Prop) (h : (it δ).sat (fun ds δ1 => ds.length ≤ 100000 ∧ J ds [] δ1.ce ∧ (∀ d ds acc ce, J (d :: ds) acc ce → ∃ δ2, g (.im d) ⟨wipeS δ1.sl vs, ce⟩ = some δ2 ∧ (t δ2).sat (fun b δ2 => (b = true → (e δ2).sat (fun s δ3 => ∃ y ce3, toIm δ3.ce s = some (y, ce3) ∧ J ds (acc ++ [y]) (cutOr ce ce3)) fun _ _ => False) ∧ (b = false → J ds acc (cutOr ce δ2.ce))) fun _ _ => False) ∧ ∀ acc ce, J [] acc ce → Ψ (.im (.lst acc)) ⟨δ1.sl, ce⟩) Ξ) : (aLc it g t e vs δ).sat Ψ Ξ :=
  sat_of_bind (Out.sat_mono h (fun ds δ1 ⟨h0, h1, h2, h3⟩ => by
    rw [if_pos h0]
    obtain ⟨acc, ce, e1, hJ⟩ := lcR J ds [] δ1.ce h1 h2
    rw [e1]
    exact h3 acc ce hJ) fun _ _ z => z)
end
/-! ## blanks at the end -/
end Fx

set_option Elab.async false
set_option linter.all false
set_option autoImplicit false
set_option maxRecDepth 100000
set_option maxHeartbeats 2000000
namespace Fx
open PySem PySem.Spec PyProof.Rows L2
/-! ## data without bools, so and so deep: == is equality -/
end Fx
namespace Fx
open PySem
end Fx

set_option Elab.async false
set_option linter.all false
set_option autoImplicit false
set_option maxRecDepth 100000
set_option maxHeartbeats 4000000
namespace Fx
open PySem PySem.Spec PyProof.Rows L2
/-! ## enumerate(x), x a list or a tuple -/
/-! ### as an outcome -/
def enumD (ds : List D) : List D := (ds.zipIdx).map fun p => D.tup [.int (p.2 : Nat), p.1]
def aEnum (r : AA) : AI := fun δ => (r δ).bind fun ss δ1 => match ss with
  | [s] => (match toIm δ1.ce s with
    | some (x, ce1) => (match seqD x with
      | some (_, ds) => .ok (enumD ds) ⟨δ1.sl, ce1⟩
      | none => .bad)
    | none => .bad)
  | _ => .bad
section
variable {K : PySem.W.Frag} {xs : Xs} {W : WX}
end
end Fx

set_option Elab.async false
set_option linter.all false
set_option autoImplicit false
set_option maxRecDepth 100000
set_option maxHeartbeats 2000000
namespace Fx
open PySem PySem.Spec PyProof.Rows L2
/-! ## f-strings -/
def fmtD : D → Option D
  | .str y => if y.length ≤ 1000000 then some (.str y) else none
  | .int i => if i.natAbs.log2 < 1920 then some (.str (Str.ofString (toString i))) else none
  | _ => none
def aFmt (a : AE) : AE := fun δ => (a δ).bind fun s δ1 => dCB1 fmtD [s] δ1
def aJoins : List AE → Str → AE
  | [], acc => fun δ => .ok (.im (.str acc)) δ
  | a :: as, acc => fun δ => (a δ).bind fun s δ1 => match imS δ1.ce s with
    | some (.str y) => if (acc ++ y).length ≤ 1000000 then aJoins as (acc ++ y) δ1 else .bad
    | _ => .bad
def aFstr (as : List AE) : AE := aJoins as Str.empty
section
variable {K : PySem.W.Frag} {xs : Xs} {W : WX}
inductive SJ (K : PySem.W.Frag) (xs : Xs) (W : WX) : List TE → List AE → Prop where
  | nil : SJ K xs W [] []
  | cons {t : TE} {a : AE} {ts : List TE} {as : List AE} (h : SE K xs W t a) (r : SJ K xs W ts as) : SJ K xs W (t :: ts) (a :: as)
end
/-! ## plain steps -/
section
variable {δ : Sta} {Ψ : SV → Sta → Prop} {Ξ : Xn → Sta → Prop} {Ψb : Bool → Sta → Prop} {Ψl : List SV → Sta → Prop} {Φ : Post} {a b c e : AE} {r : AA} {p : AS} {n : Nat}
theorem s_enum {Ψi : List D → Sta → Prop} (h : (r δ).sat (fun ss δ1 => ∃ s x ce1 k ds, ss = [s] ∧ toIm δ1.ce s = some (x, ce1) ∧ seqD x = some (k, ds) ∧ Ψi (enumD ds) ⟨δ1.sl, ce1⟩) Ξ) : (aEnum r δ).sat Ψi Ξ :=
  sat_of_bind (Out.sat_mono h (fun ss δ1 ⟨s, x, ce1, k, ds, h0, h1, h2, h3⟩ => by subst h0; dsimp only; rw [h1]; dsimp only; rw [h2]; exact h3) fun _ _ z => z)
theorem s_fmt (h : (a δ).sat (fun s δ1 => (dCB1 fmtD [s] δ1).sat Ψ Ξ) Ξ) : (aFmt a δ).sat Ψ Ξ := sat_of_bind h
theorem s_fmtS {y : Str} (hl : y.length ≤ 1000000) (h : Ψ (.im (.str y)) δ) : (dCB1 fmtD [.im (.str y)] δ).sat Ψ Ξ := s_cb1 (x := .str y) rfl (if_pos hl) h
theorem s_fmtI {i : Int} (hl : i.natAbs.log2 < 1920) (h : Ψ (.im (.str (Str.ofString (toString i)))) δ) : (dCB1 fmtD [.im (.int i)] δ).sat Ψ Ξ := s_cb1 (x := .int i) rfl (if_pos hl) h
theorem s_joins0 {acc : Str} (h : Ψ (.im (.str acc)) δ) : (aJoins [] acc δ).sat Ψ Ξ := h
theorem s_joins {as : List AE} {acc : Str} (h : (a δ).sat (fun s δ1 => ∃ y, imS δ1.ce s = some (.str y) ∧ (acc ++ y).length ≤ 1000000 ∧ (aJoins as (acc ++ y) δ1).sat Ψ Ξ) Ξ) : (aJoins (a :: as) acc δ).sat Ψ Ξ :=
  sat_of_bind (Out.sat_mono h (fun s δ1 ⟨y, e, hl, h1⟩ => by rw [e]; dsimp only; rw [if_pos hl]; exact h1) fun _ _ z => z)
theorem s_fstr {as : List AE} (h : (aJoins as Str.empty δ).sat Ψ Ξ) : (aFstr as δ).sat Ψ Ξ := h
end
end Fx

set_option Elab.async false
set_option linter.all false
set_option autoImplicit false
set_option maxRecDepth 100000
set_option maxHeartbeats 4000000
namespace Fx
open PySem PySem.Spec PyProof.Rows PySem.W L2
/-! ## first, *rest = a list -/
/-! ### as an outcome -/
end Fx

set_option Elab.async false
set_option linter.all false
set_option autoImplicit false
set_option maxRecDepth 100000
set_option maxHeartbeats 2000000
namespace Fx
open PySem PySem.Spec PyProof.Rows L2
/-! ## words apart by any text -/
theorem sum_le {l : List Nat} {n : Nat} (h : ∀ x ∈ l, x ≤ n) : l.sum ≤ l.length * n := by
  induction l with
  | nil => simp
  | cons a l ih =>
    have h1 := h a List.mem_cons_self
    have h2 := ih fun x hx => h x (List.mem_cons_of_mem _ hx)
    rw [List.sum_cons, List.length_cons, Nat.succ_mul]
    omega
theorem strsOf_map : ∀ ws : List Str, strsOf (ws.map .str) = some ws
  | [] => rfl
  | w :: ws => by simp only [List.map_cons, strsOf, strsOf_map ws, Option.map_some]
theorem joinD_ok {sep : Str} {ws : List Str} {n : Nat} (h : ∀ w ∈ ws, w.length ≤ n) (hl : ws.length * n + ws.length * sep.length ≤ 1000000) : joinD (.str sep) (.lst (ws.map .str)) = some (.str (Txt.join sep ws)) := by
  have h2 : (ws.map (·.length)).sum ≤ (ws.map (·.length)).length * n := sum_le fun x hx => by
    obtain ⟨w, hw, rfl⟩ := List.mem_map.mp hx
    exact h w hw
  rw [List.length_map] at h2
  simp only [joinD, strsOf_map, Option.bind_some]
  unfold joinS
  rw [if_pos (by omega)]
/-! ## a comprehension within another, without free names -/
end Fx

set_option Elab.async false
set_option linter.all false
set_option autoImplicit false
set_option maxRecDepth 100000
set_option maxHeartbeats 2000000
namespace Fx
open PySem PySem.Spec PyProof.Rows L2
/-! ## list(a text) -/
def listB : ACB := fun ss δ => match ss with
  | [s] => (match dv δ.ce s with
    | some (.str z) => if z.length ≤ 100000 then .ok (.im (.lst (chsD z))) δ else .bad
    | _ => listA ss δ)
  | _ => .bad
section
variable {K : PySem.W.Frag} {xs : Xs}
end
theorem s_bareW {s : Str} {ce : List CO} {Φ : Post} (hl : s.length ≤ 999) (h : Φ.nx ⟨[.im (.str (bare s))], ce⟩) : (aWhile 1000 (aTest (aOp (dOp eqD) (aSl (aVar 0) (aPart (aNeg (aC (.int 1)))) aNoPart) (aC (.str " ")))) (aAsg (aSl (aVar 0) aNoPart (aPart (aNeg (aC (.int 1))))) (gNm 0)) ⟨[.im (.str s)], ce⟩).sat Φ := by
  have e := bare_while (ce := ce) 1000 s.cps.toList (by simp only [Str.length] at hl; simp; omega) (by simp only [Str.length] at hl; simp; omega)
  exact s_nx e h
theorem s_listS {δ : Sta} {Ψ : SV → Sta → Prop} {Ξ : Xn → Sta → Prop} {z : Str} (hl : z.length ≤ 100000) (h : Ψ (.im (.lst (chsD z))) δ) : (listB [.im (.str z)] δ).sat Ψ Ξ := by
  unfold listB
  dsimp only [dv]
  rw [if_pos hl]
  exact h
theorem s_listT {δ : Sta} {Ψ : SV → Sta → Prop} {Ξ : Xn → Sta → Prop} {x : D} {k : Bool} {ds : List D} (e : seqD x = some (k, ds)) (h : Ψ (.im (.lst ds)) δ) : (listB [.im x] δ).sat Ψ Ξ := by
  cases x with
  | lst l => cases e; exact h
  | tup l => cases e; exact h
  | _ => cases e
end Fx

set_option Elab.async false
set_option linter.all false
set_option autoImplicit false
set_option maxRecDepth 100000
set_option maxHeartbeats 2000000
namespace Fx
open PySem PySem.Spec PyProof.Rows L2
/-! ## a cell list walked as it stands (it stays) -/
def lcLK (c : Nat) (us : List SV) (g : AG) (t : AT) (e : AE) (sl : List SV) : List SV → List D → List CO → Option (List D × List CO)
  | [], acc, ce => if ce[c]? = some (.lst us) then some (acc, ce) else none
  | s :: ss, acc, ce => if ce[c]? = some (.lst us) then (match g s ⟨sl, ce⟩ with
    | none => none
    | some δ1 => match t δ1 with
      | .ok b δ2 => if b = true then (match e δ2 with
          | .ok s' δ3 => (match toIm δ3.ce s' with
            | some (y, ce3) => lcLK c us g t e sl ss (acc ++ [y]) (cutOr ce ce3)
            | none => none)
          | _ => none) else lcLK c us g t e sl ss acc (cutOr ce δ2.ce)
      | _ => none) else none
def aLcK (a : AE) (g : AG) (t : AT) (e : AE) (vs : List Nat) : AE := fun δ => (a δ).bind fun s δ1 => match s with
  | .cl c => (match δ1.ce[c]? with
    | some (.lst us) => if us.length ≤ 100000 then (match lcLK c us g t e (wipeS δ1.sl vs) us [] δ1.ce with
      | some (acc, ce) => .ok (.im (.lst acc)) ⟨δ1.sl, ce⟩
      | none => .bad) else .bad
    | _ => .bad)
  | _ => .bad
section
variable {K : PySem.W.Frag} {xs : Xs} {W : WX}
end
/-! ## in, of data at any depth -/
/-! ## plain steps -/
section
variable {δ : Sta} {Ψ : SV → Sta → Prop} {Ξ : Xn → Sta → Prop} {a e : AE}
theorem cutOr_self (ce : List CO) : cutOr ce ce = ce := by unfold cutOr; rw [cutTo_self]
theorem lcK_map {c : Nat} {us : List SV} {g : AG} {sl : List SV} {ce : List CO} (f : SV → D) (hc : ce[c]? = some (.lst us)) : ∀ (ss : List SV) (acc : List D), (∀ u ∈ ss, ∃ δ2, g u ⟨sl, ce⟩ = some δ2 ∧ (e δ2).sat (fun s δ4 => s = .im (f u) ∧ δ4.ce = ce) (fun _ _ => False) ∧ δ2.ce = ce) → lcLK c us g aYes e sl ss acc ce = some (acc ++ ss.map f, ce)
  | [], acc, _ => by
    unfold lcLK
    rw [if_pos hc]; simp
  | u :: ss, acc, h => by
    obtain ⟨δ2, e1, e2, e3⟩ := h u List.mem_cons_self
    unfold lcLK
    rw [if_pos hc, e1]
    dsimp only
    rw [show aYes δ2 = .ok true δ2 from rfl]
    dsimp only
    cases q : e δ2 with
    | bad => rw [q] at e2; exact e2.elim
    | ex x δ3 => rw [q] at e2; exact e2.elim
    | ok s δ3 =>
      rw [q] at e2
      obtain ⟨rfl, e4⟩ := e2
      rw [if_pos rfl]
      simp only [toIm]
      rw [e4, cutOr_self, lcK_map f hc ss _ fun u hu => h u (List.mem_cons_of_mem _ hu)]
      simp
theorem s_lcKP {g : AG} {vs : List Nat} (f : SV → D) (h : (a δ).sat (fun s δ1 => ∃ c us, s = .cl c ∧ δ1.ce[c]? = some (.lst us) ∧ us.length ≤ 100000 ∧ (∀ u ∈ us, ∃ δ2, g u ⟨wipeS δ1.sl vs, δ1.ce⟩ = some δ2 ∧ (e δ2).sat (fun s δ4 => s = .im (f u) ∧ δ4.ce = δ1.ce) (fun _ _ => False) ∧ δ2.ce = δ1.ce) ∧ Ψ (.im (.lst (us.map f))) δ1) Ξ) : (aLcK a g aYes e vs δ).sat Ψ Ξ :=
  sat_of_bind (Out.sat_mono h (fun s δ1 ⟨c, us, e0, e1, e2, h1, h2⟩ => by
    subst e0
    dsimp only
    rw [e1]
    dsimp only
    rw [if_pos e2, lcK_map f e1 us [] h1]
    dsimp only
    rw [List.nil_append]
    exact h2) fun _ _ z => z)
end
end Fx

set_option Elab.async false
set_option linter.all false
set_option autoImplicit false
set_option maxRecDepth 100000
set_option maxHeartbeats 2000000
namespace Fx
open PySem L2
/-! ## a list of cells, by a comprehension -/
def lcV (g : AG) (t : AT) (e : AE) (sl : List SV) : List D → List SV → List CO → Option (List SV × List CO)
  | [], acc, ce => some (acc, ce)
  | d :: ds, acc, ce => match g (.im d) ⟨sl, ce⟩ with
    | none => none
    | some δ1 => match t δ1 with
      | .ok b δ2 => if b = true then (match e δ2 with
          | .ok s δ3 => lcV g t e sl ds (acc ++ [s]) δ3.ce
          | _ => none) else lcV g t e sl ds acc δ2.ce
      | _ => none
def aLcV (it : AI) (g : AG) (t : AT) (e : AE) (vs : List Nat) : AE := fun δ => (it δ).bind fun ds δ1 => if ds.length ≤ 100000 then (match lcV g t e (wipeS δ1.sl vs) ds [] δ1.ce with
  | some (acc, ce) => .ok (.cl ce.length) ⟨δ1.sl, ce ++ [.lst acc]⟩
  | none => .bad) else .bad
section
variable {K : PySem.W.Frag} {xs : Xs} {W : WX}
end
/-! ## cells that are data for a while -/
def scalD : D → Bool
  | .non => true | .bl _ => true | .int _ => true | .str _ => true | _ => false
def scalS : SV → Bool
  | .im d => scalD d
  | _ => false
def frzL : List SV → List CO → Option (List CO)
  | [], ce => some ce
  | s :: ss, ce => match toIm ce s with
    | some (_, ce1) => frzL ss ce1
    | none => none
def frz2 (ce : List CO) (c : Nat) : Option (List CO) := match ce[c]? with
  | some (.lst us) => (match frzL us ce with
    | some ce1 => (frz ce1 c).map (·.2)
    | none => none)
  | some (.fz _) => some ce
  | _ => none
def frzV : List Nat → List SV → List CO → Option (List CO)
  | [], _, ce => some ce
  | i :: is, sl, ce => match sl[i]? with
    | some (.cl c) => (match frz2 ce c with
      | some ce1 => frzV is sl ce1
      | none => none)
    | some (.im _) => frzV is sl ce
    | _ => none
def sameL : List SV → List SV → Bool
  | [], [] => true
  | .im a :: s, .im b :: t => scalD a && decide (a = b) && sameL s t
  | _, _ => false
def thawO : CO → CO → CO → Bool
  | .fz _, _, _ => true
  | .dead, _, _ => true
  | .exc _ _, _, _ => true
  | .lst _, .fz (.lst _), _ => true
  | .lst us, _, .lst ws => sameL us ws
  | _, _, _ => false
def thawL : List CO → List CO → List CO → Bool
  | [], _, _ => true
  | o :: os, o1 :: os1, o2 :: os2 => thawO o o1 o2 && thawL os os1 os2
  | _, _, _ => false
def noCl : List Nat → List SV → Bool
  | [], _ => true
  | i :: is, sl => (match sl[i]? with
    | some (.cl _) => false
    | _ => true) && noCl is sl
def aThaw (is : List Nat) (a : AE) : AE := fun δ => if noCl is δ.sl = true then a δ else match frzV is δ.sl δ.ce with
  | some ce1 => (match a ⟨δ.sl, ce1⟩ with
    | .ok s δ2 => if (scalS s && thawL δ.ce ce1 δ2.ce) = true then .ok s δ else .bad
    | _ => .bad)
  | none => .bad
section
variable {K : PySem.W.Frag} {xs : Xs} {W : WX}
theorem R.frzL {ec : EC} {sl : List SV} {σ : L2.St} {as : List Addr} {H : Hp} : ∀ {us : List SV} {vs : List V} {ce ce1 : List CO} {I : Hp}, R K ec ⟨sl, ce⟩ σ I as H → Fx.frzL us ce = some ce1 → RVL K I as us vs → ∃ I', R K ec ⟨sl, ce1⟩ σ I' as H ∧ Le I as I' as
  | [], _, ce, ce1, I, r, e, _ => by cases e; exact ⟨I, r, Le.refl I as⟩
  | s :: ss, _, ce, ce1, I, r, e, ⟨v, vs, _, h2, h3⟩ => by
    simp only [Fx.frzL] at e
    cases q : Fx.toIm ce s with
    | none => rw [q] at e; cases e
    | some p =>
      obtain ⟨d, ce2⟩ := p
      rw [q] at e
      obtain ⟨I1, r1, l1, _⟩ := R.toIm r q h2
      obtain ⟨I2, r2, l2⟩ := R.frzL r1 e (h3.mono l1)
      exact ⟨I2, r2, l1.trans l2⟩
theorem R.frz2 {ec : EC} {sl : List SV} {σ : L2.St} {as : List Addr} {H : Hp} {ce ce1 : List CO} {I : Hp} {c : Nat} (r : R K ec ⟨sl, ce⟩ σ I as H) (e : Fx.frz2 ce c = some ce1) : ∃ I', R K ec ⟨sl, ce1⟩ σ I' as H ∧ Le I as I' as := by
  unfold Fx.frz2 at e
  split at e
  · rename_i us hc
    have hlt : c < as.length := by rw [r.clen]; exact lt_of_get hc
    obtain ⟨_, vs, _, rv⟩ := r.cells c _ _ hc (List.getElem?_eq_getElem hlt)
    cases q : Fx.frzL us ce with
    | none => rw [q] at e; cases e
    | some ce2 =>
      rw [q] at e
      obtain ⟨I1, r1, l1⟩ := R.frzL r q rv
      dsimp only at e
      cases q2 : Fx.frz ce2 c with
      | none => rw [q2] at e; cases e
      | some p =>
        obtain ⟨d, ce3⟩ := p
        rw [q2] at e
        cases e
        obtain ⟨I2, r2, l2, _⟩ := R.frz r1 q2
        exact ⟨I2, r2, l1.trans l2⟩
  · cases e; exact ⟨I, r, Le.refl I as⟩
  · cases e
theorem R.frzV {ec : EC} {sl : List SV} {σ : L2.St} {as : List Addr} {H : Hp} : ∀ {is : List Nat} {ce ce1 : List CO} {I : Hp}, R K ec ⟨sl, ce⟩ σ I as H → Fx.frzV is sl ce = some ce1 → ∃ I', R K ec ⟨sl, ce1⟩ σ I' as H ∧ Le I as I' as
  | [], ce, ce1, I, r, e => by cases e; exact ⟨I, r, Le.refl I as⟩
  | i :: is, ce, ce1, I, r, e => by
    simp only [Fx.frzV] at e
    split at e
    · rename_i c _
      cases q : Fx.frz2 ce c with
      | none => rw [q] at e; cases e
      | some ce2 =>
        rw [q] at e
        obtain ⟨I1, r1, l1⟩ := R.frz2 r q
        obtain ⟨I2, r2, l2⟩ := R.frzV r1 e
        exact ⟨I2, r2, l1.trans l2⟩
    · exact R.frzV r e
    · cases e
open Classical in
/-- I with the code objects of J -/
noncomputable def codI (I J : Hp) : Hp := fun b => if I b = none ∧ ∃ q, J b = some (LamX.CodeO b q) then J b else I b
end
section
variable {δ : Sta} {Ψ : SV → Sta → Prop} {Ξ : Xn → Sta → Prop} {a : AE}
theorem s_thaw0 {is : List Nat} (hn : noCl is δ.sl = true) (h : (a δ).sat Ψ Ξ) : (aThaw is a δ).sat Ψ Ξ := by
  unfold aThaw
  rw [if_pos hn]
  exact h
theorem s_thaw {is : List Nat} (hn : noCl is δ.sl = false) (h : ∃ ce1, frzV is δ.sl δ.ce = some ce1 ∧ (a ⟨δ.sl, ce1⟩).sat (fun s δ2 => scalS s = true ∧ thawL δ.ce ce1 δ2.ce = true ∧ Ψ s δ) fun _ _ => False) : (aThaw is a δ).sat Ψ Ξ := by
  obtain ⟨ce1, e, h⟩ := h
  unfold aThaw
  rw [if_neg (by rw [hn]; decide), e]
  dsimp only
  cases q : a ⟨δ.sl, ce1⟩ with
  | bad => rw [q] at h; exact h.elim
  | ex x δ2 => rw [q] at h; exact h.elim
  | ok s δ2 =>
    rw [q] at h
    obtain ⟨h1, h2, h3⟩ := h
    dsimp only
    rw [if_pos (by rw [h1, h2]; rfl)]
    exact h3
theorem lcV_J {g : AG} {e : AE} {sl : List SV} (J : List D → List SV → List CO → Prop) (h : ∀ d ds acc ce, J (d :: ds) acc ce → ∃ δ2, g (.im d) ⟨sl, ce⟩ = some δ2 ∧ (e δ2).sat (fun s δ3 => J ds (acc ++ [s]) δ3.ce) fun _ _ => False) : ∀ (ds : List D) (acc : List SV) (ce : List CO), J ds acc ce → ∃ acc' ce', lcV g aYes e sl ds acc ce = some (acc', ce') ∧ J [] acc' ce'
  | [], acc, ce, hJ => ⟨acc, ce, rfl, hJ⟩
  | d :: ds, acc, ce, hJ => by
    obtain ⟨δ2, e1, e2⟩ := h d ds acc ce hJ
    unfold lcV
    rw [e1]
    dsimp only
    rw [show aYes δ2 = .ok true δ2 from rfl]
    dsimp only
    rw [if_pos rfl]
    cases q : e δ2 with
    | bad => rw [q] at e2; exact e2.elim
    | ex x δ3 => rw [q] at e2; exact e2.elim
    | ok s δ3 =>
      rw [q] at e2
      exact lcV_J J h ds (acc ++ [s]) δ3.ce e2
theorem s_lcV {it : AI} {g : AG} {e : AE} {vs : List Nat} (J : List D → List SV → List CO → Prop) (h : (it δ).sat (fun ds δ1 => ds.length ≤ 100000 ∧ J ds [] δ1.ce ∧ (∀ d ds acc ce, J (d :: ds) acc ce → ∃ δ2, g (.im d) ⟨wipeS δ1.sl vs, ce⟩ = some δ2 ∧ (e δ2).sat (fun s δ3 => J ds (acc ++ [s]) δ3.ce) fun _ _ => False) ∧ ∀ acc ce, J [] acc ce → Ψ (.cl ce.length) ⟨δ1.sl, ce ++ [.lst acc]⟩) Ξ) : (aLcV it g aYes e vs δ).sat Ψ Ξ := by
  unfold aLcV
  refine sat_of_bind (Out.sat_mono h (fun ds δ1 ⟨h0, h1, h2, h3⟩ => ?_) fun _ _ z => z)
  rw [if_pos h0]
  obtain ⟨acc, ce, e1, hJ⟩ := lcV_J J h2 ds [] δ1.ce h1
  rw [e1]
  exact h3 acc ce hJ
end
end Fx

set_option Elab.async false
set_option linter.all false
set_option autoImplicit false
set_option maxRecDepth 100000
set_option maxHeartbeats 2000000
namespace Fx
open PySem L2
/-! ## a list of data, so many times -/
def repD (n : Nat) (xs : List D) : List D := (List.replicate n xs).flatten
def mulA : AOp := fun s t δ => match dv δ.ce s, dv δ.ce t with
  | some (.lst xs), some (.int n) => if xs.length ≤ 1000 ∧ -1000 ≤ n ∧ n ≤ 1000 then .ok (.im (.lst (repD n.toNat xs))) δ else .bad
  | _, _ => dOp mulD s t δ
section
variable {K : PySem.W.Frag} {xs : Xs}
theorem RepL.rep {I : Hp} {ds : List D} {vs : List V} (h : RepL K I ds vs) : ∀ n : Nat, RepL K I (repD n ds) (List.replicate n vs).flatten
  | 0 => rfl
  | n + 1 => by
    show RepL K I (ds ++ repD n ds) (vs ++ (List.replicate n vs).flatten)
    exact RepL.append h (RepL.rep h n)
end
section
variable {δ : Sta} {Ψ : SV → Sta → Prop} {Ξ : Xn → Sta → Prop}
theorem s_mulL {xs : List D} {n : Int} (hc : xs.length ≤ 1000 ∧ -1000 ≤ n ∧ n ≤ 1000) (h : Ψ (.im (.lst (repD n.toNat xs))) δ) : (mulA (.im (.lst xs)) (.im (.int n)) δ).sat Ψ Ξ := by
  unfold mulA
  simp only [dv]
  rw [if_pos hc]
  exact h
end
end Fx

set_option Elab.async false
set_option linter.all false
set_option autoImplicit false
set_option maxRecDepth 100000
set_option maxHeartbeats 2000000
namespace Fx
open PySem PySem.Spec PyProof.Rows L2
/-! ## a lambda handed to a def that calls it within a try -/
/-- Z tells all tables that are known: they are still tables when the lambda is made -/
def tLamZ (P : Addr) (q : Str) (TT : (XK → Hp → VK → Prop) → Hp → VK → Prop) (t : XK → TE) : TE := fun σ H Q =>
  ∃ Z : Addr → Option Str, Z P = some q ∧ (∀ b z, Z b = some z → LamX.TabS H b z) ∧ ∀ H1, LamX.ExtN H H1 → (∀ b z, Z b = some z → LamX.TabS H1 b z) → TT (fun E H' Q' => t E σ H' Q') H1 Q
section
variable {X : Cx}
theorem pe_lamZ {TT : (XK → Hp → VK → Prop) → Hp → VK → Prop} {x a : Str} {g c P : Addr} {k : Nat} {pg : Arguments} {bg : List Stmt} {sg : Scope} {dvs : List V} {kws : List (Str × V)} {fd : FuncData} {Ng : List Str} {params : Arguments} {body : Expr} {scope : Scope} {t : XK → TE} {p lpos pos : Pos}
    (hg : Gl X x) (hm : X.mg x = some (.ref g)) (F : FunD X.K x x pg bg sg dvs kws g fd) (hb : L2.Binds X.K fd [a] []) (Sg : FnScope Ng [a] sg) (hNg : Ng[0]? = some a) (hva : Vis sg a)
    (hG : ∀ cdv : Value, LamX.GivesTo X Ng x sg g cdv bg a (X.env.qual ++ "<lambda>") TT) (TB : LamX.TabB X.base X.mg c P) (hcode : X.env.code = .ref c) (hr : Room (k + 2) X.A) (L : LamX.LamS X.env.scope scope) (hdef : defaultsOf params X.env = ([], []))
    (hbind : ∀ (q : Str) (cl : List (Str × Addr)) (pm cv ctv : Value), bindArgs (PySem.W.kla_fn "<lambda>" q params body scope cl pm cv ctv) ⟨[], []⟩ = pure [])
    (hbody : ∀ (A : Around) (outer : List Env) (s : Shared) (H : Hp) (E : XK) (f c' : Addr), Room k (A.deeper (LamX.lamEnv X scope s.heap.objs.size f c')) → PE (LamX.lamCx X A outer s H E scope f c') body (t E))
    (hdb : (x == ("__debug__" : Str)) = false := by decide) (hd : (a == ("__debug__" : Str)) = false := by decide) (hcd : (a == ("__classdict__" : Str)) = false := by decide) :
    PE X (.Call (.Name x p) [.Lambda params body scope lpos] [] pos) (tLamZ P (X.env.qual ++ "<lambda>") TT t) := by
  refine ⟨fun pins s σ H Q I h => ?_⟩
  obtain ⟨Z, hP, hZ, h⟩ := h
  obtain ⟨oc, od, dV, kV, doc, pm, an, cdv, ct, osl, rfl, lk, hcg, _, _⟩ := F.ex
  have lt : ∀ b z, Z b = some z → b < s.heap.objs.size := fun b z hz => by
    obtain ⟨ps, h1, _⟩ := hZ b z hz
    exact Heap.lt_size (show s.heap.get? b = some _ from I.hok b _ h1)
  have inT : ∀ b z, Z b = some z → (b, z) ∈ (List.range s.heap.objs.size).filterMap fun b => (Z b).map fun z => (b, z) := fun b z hz =>
    List.mem_filterMap.mpr ⟨b, List.mem_range.mpr (lt b z hz), by rw [hz]; rfl⟩
  have ofT : ∀ pr ∈ (List.range s.heap.objs.size).filterMap fun b => (Z b).map fun z => (b, z), Z pr.1 = some pr.2 := fun pr hp => by
    obtain ⟨b, _, e⟩ := List.mem_filterMap.mp hp
    obtain ⟨z, e1, e2⟩ := Option.map_eq_some_iff.mp e
    subst e2
    exact e1
  refine (LamX.pe_lamcall (T := (List.range s.heap.objs.size).filterMap fun b => (Z b).map fun z => (b, z)) hg hm F.kp lk hcg hb Sg hNg hva (hG cdv) TB hcode (inT _ _ hP) (fun pr hp e => ?_) hr L hdef hbind hbody hdb hd hcd).run pins s σ H Q I ⟨fun pr hp => hZ _ _ (ofT pr hp), fun H1 e1 e2 => h H1 e1 fun b z hz => e2 (b, z) (inT b z hz)⟩
  have := ofT pr hp
  rw [e, hP] at this
  exact (Option.some.inj this).symm
/-- what a try takes is asked where the slots are as many as the names -/
theorem takes_len {W : WX} (t : Takes X W) : Takes X (fun cls d σ H => σ.length = X.N.length → W cls d σ H) := fun u s' ⟨a, B, sI, pins, σ, H, cls, d, e, I, nb, up, sky, na, os, ag, w⟩ =>
  t u s' ⟨a, B, sI, pins, σ, H, cls, d, e, I, nb, up, sky, na, os, ag, w I.len⟩
/-- found = None; try: work() except C as e: found = e.word; return found -/
def TTrefu (K : PySem.W.Frag) (C : Addr) (fld : Str) : (XK → Hp → VK → Prop) → Hp → VK → Prop := fun tl H Q =>
  tl (fun cls d H' => ∃ z, PySem.W.exmOne K cls (.ref C) = some z ∧ (z = true → cls = .ref C ∧ ∃ (dd : Addr) (v : V), d = some dd ∧ H' dd = some (.xd [(fld, v)]) ∧ Q v H') ∧ (z = false → False)) H (fun _ H' => Q .non H')
theorem refu_eval {K : PySem.W.Frag} {C : Addr} {fld q : Str} {f c' : Addr} {H : Hp} {Q : VK} {D : Ends} {tl : XK → Hp → VK → Prop} {N : List Str} (hN : N.length = 3) (hD : D.rt = Q) (hc : H c' = some (LamX.CodeO c' q)) (h : TTrefu K C fld tl H Q) :
    tSeq (tAsg (tC .non) (gName 1)) (tSeq (fun D σ H => (fun (W : WX) (D : Ends) (σ : L2.St) (H : Hp) => ∃ Ech : XK, (∀ cls d σ' H', Ech cls d H' → σ'.length = N.length → W cls d σ' H') ∧ σ[0]? = some (some (V.ref f)) ∧ H c' = some (LamX.CodeO c' q) ∧ tl Ech H fun _ H' => D.nx σ H')
      (wAs K (.ref C) 2 (fun a cls d => tAsg (tBySup C fld a cls d (tVar 2)) (gName 1)) (fun _ _ _ _ => False) D) D σ H) (tRet (tVar 1))) D (L2.start N [.ref f]) H := by
  have hs : L2.start N [.ref f] = [some (.ref f), none, none] := by
    unfold L2.start
    rw [hN]; rfl
  rw [hs]
  refine ⟨fun cls d H' => ∃ z, PySem.W.exmOne K cls (.ref C) = some z ∧ (z = true → cls = .ref C ∧ ∃ (dd : Addr) (v : V), d = some dd ∧ H' dd = some (.xd [(fld, v)]) ∧ Q v H') ∧ (z = false → False), fun cls d σ' H' hz hl => ?_, rfl, hc, ?_⟩
  · obtain ⟨z, e1, e2, e3⟩ := hz
    refine ⟨z, e1, fun hb a ha => ?_, fun hb => (e3 hb).elim⟩
    obtain ⟨rfl, dd, v, rfl, e5, e6⟩ := e2 hb
    rw [hN] at hl
    match σ', hl with
    | [s0, s1, s2], _ =>
      refine ⟨.ref a, rfl, rfl, rfl, dd, v, rfl, e5, v, rfl, ?_⟩
      show D.rt v H'
      rw [hD]; exact e6
  · show tl _ H fun _ H' => ∃ v, [some (V.ref f), some V.non, none][1]? = some (some v) ∧ D.rt v H'
    have e : (fun (_ : V) (H' : Hp) => ∃ v, [some (V.ref f), some V.non, none][1]? = some (some v) ∧ D.rt v H') = fun _ H' => Q .non H' := by
      funext v H'
      refine propext ⟨fun ⟨v, e1, e2⟩ => ?_, fun z => ⟨.non, rfl, by rw [hD]; exact z⟩⟩
      cases e1
      rw [← hD]; exact e2
    rw [e]
    exact h
theorem refu_gives {X : Cx} {x a fn en xn fld q : Str} {sg : Scope} {g C fI : Addr} {cdg : Value} {j : Nat} {p1 p2 p3 p4 p5 p6 p7 p8 p9 p10 p11 p12 p13 p14 p15 : Pos} (Sg : FnScope [a, fn, en] [a] sg) (S : SupTxt X.prog X.K X.mg xn fld C fI) (hx : X.mg xn = some (.ref C))
    (l1 : sg.names.lookup fn = some .local := by rfl) (l2 : sg.names.lookup en = some .local := by rfl) (l3 : sg.names.lookup xn = some .globalImplicit := by rfl) (hdb : (xn == ("__debug__" : Str)) = false := by decide) (d1 : (fn == ("__debug__" : Str)) = false := by decide) (d2 : (fn == ("__classdict__" : Str)) = false := by decide)
    (d3 : (en == ("__debug__" : Str)) = false := by decide) (d4 : (en == ("__classdict__" : Str)) = false := by decide) :
    LamX.GivesTo X [a, fn, en] x sg g cdg [.Assign [.Name fn p1] (.Constant .none j p2) p3, .Try [.Expr (.Call (.Name a p4) [] [] p5) p6] [.ExceptHandler (some (.Name xn p7)) (some en) [.Assign [.Name fn p8] (.Attribute (.Name en p9) fld p10) p11] p12] [] [] p13, .Return (some (.Name fn p14)) p15] a q (TTrefu X.K C fld) := by
  intro f c' s H Q tl act hc h
  refine ⟨_, pss_cons (ps_set (i := 1) Sg.nd rfl (Or.inl l1) pe_non) (pss_cons (ps_try_as (i := 2) (c := .ref C)
      (tb := fun (W : WX) (D : Ends) (σ : L2.St) (H : Hp) => ∃ Ech : XK, (∀ cls d σ' H', Ech cls d H' → σ'.length = [a, fn, en].length → W cls d σ' H') ∧ σ[0]? = some (some (V.ref f)) ∧ H c' = some (LamX.CodeO c' q) ∧ tl Ech H fun _ H' => D.nx σ H')
      rfl rfl Sg.nd rfl l2 ⟨l3, hdb, .inl hx⟩ takes0 (fun W pn xe tk _ => ⟨fun pins s' σ H' D I h' => ?_⟩) (fun b oe cls d pn hz hf => pss_one (ps_set (i := 1) Sg.nd rfl (Or.inl l1) (pe_bySup S hz hf (pv 2 rfl (Or.inl l2) d3 d4))))) (pss_one (ps_ret (pv 1 rfl (Or.inl l1) d1 d2)))), refu_eval rfl rfl hc h⟩
  obtain ⟨Ech, hW, h1, h2, h3⟩ := h'
  exact (pss_one (ps_expr (pos := p6) (act _ pn xe Ech p4 p5 (takes_len tk) fun cls d σ' H' hE hl => hW cls d σ' H' hE hl))).run pins s' σ H' D I ⟨h1, h2, h3⟩
end
end Fx

set_option Elab.async false
set_option linter.all false
set_option autoImplicit false
set_option maxRecDepth 100000
set_option maxHeartbeats 2000000
namespace Fx
open PySem L2
/-! ## a lambda handed to the def that tells what refuses it -/
/-- the cell c: the table of the def x in which the lambda stands -/
def aRefu (c : Nat) (x : Str) (tab : List (XC × Bool)) (xn fld : Str) (e : AE) : AE := fun δ => match δ.ce[c]? with
  | some (.tbl x') => if x' = x then (match e δ with
    | .ok _ δ1 => (match cutTo δ.ce δ1.ce with
      | some ce2 => .ok (.im .non) ⟨δ.sl, ce2⟩
      | none => .bad)
    | .ex y δ1 => (match y.fs with
      | [(f, .im d)] => if y.cls = .own xn ∧ f = fld ∧ tab.lookup (.own xn) = some true then (match cutTo δ.ce δ1.ce with
        | some ce2 => .ok (.im d) ⟨δ.sl, ce2⟩
        | none => .bad) else .bad
      | _ => .bad)
    | .bad => .bad) else .bad
  | _ => .bad
section
variable {K : PySem.W.Frag} {xs : Xs} {W : WX}
open Classical in
/-- the tables that the relation knows -/
noncomputable def tabZ (ce : List CO) (as : List Addr) (fr : Fr) (b : Addr) : Option Str := if h : ∃ (q : Str) (c : Nat), ce[c]? = some (CO.tbl q) ∧ as[c]? = some b then some (lamQ h.choose) else match fr b with
  | some (.tb q) => some (lamQ q)
  | _ => none
theorem tabZ_cell {ec : EC} {δ : Sta} {σ : L2.St} {I : Hp} {as : List Addr} {H : Hp} (r : R K ec δ σ I as H) {c : Nat} {q : Str} {a : Addr} (h1 : δ.ce[c]? = some (.tbl q)) (h2 : as[c]? = some a) : tabZ δ.ce as ec.fr a = some (lamQ q) := by
  have h : ∃ (q : Str) (c : Nat), δ.ce[c]? = some (CO.tbl q) ∧ as[c]? = some a := ⟨q, c, h1, h2⟩
  unfold tabZ
  rw [dif_pos h]
  obtain ⟨c', k1, k2⟩ := h.choose_spec
  have e := r.inj c c' _ _ a h1 k1 rfl rfl h2 k2
  subst e
  rw [h1] at k1
  cases k1
  rfl
theorem tabZ_of {ec : EC} {δ : Sta} {σ : L2.St} {I : Hp} {as : List Addr} {H : Hp} (r : R K ec δ σ I as H) {b : Addr} {z : Str} (h : tabZ δ.ce as ec.fr b = some z) : I b = none ∧ ∃ ps, H b = some (.tbl ps) ∧ TabI I ps z := by
  unfold tabZ at h
  split at h
  · rename_i hh
    obtain ⟨c', k1, k2⟩ := hh.choose_spec
    cases h
    obtain ⟨_, h0, ps, h1, h2⟩ := r.cells c' _ b k1 k2
    exact ⟨h0, ps, h1, h2⟩
  · split at h
    · rename_i q hq
      cases h
      obtain ⟨ps, h1, h2⟩ := r.fh b _ hq
      exact ⟨r.fi b _ hq, ps, h1, h2⟩
    · cases h
theorem tabZ_fr {ec : EC} {ce : List CO} {as : List Addr} {b : Addr} {q : Str} (hn : ¬ ∃ (q : Str) (c : Nat), ce[c]? = some (CO.tbl q) ∧ as[c]? = some b) (h : ec.fr b = some (.tb q)) : tabZ ce as ec.fr b = some (lamQ q) := by
  unfold tabZ
  rw [dif_neg hn, h]
open Classical in
/-- I with the code objects of J that are no cells -/
noncomputable def codJ (I J : Hp) : Hp := fun b => if I b = none ∧ ∃ q, J b = some (LamX.CodeO b q) then J b else I b
theorem codJ_le {I J : Hp} : Same I (codJ I J) := fun b u h => by
  unfold codJ
  rw [if_neg (fun z => by rw [h] at z; cases z.1)]
  exact h
theorem codJ_or {I J : Hp} {b : Addr} (h : I b = none) : codJ I J b = none ∨ ∃ q, J b = some (LamX.CodeO b q) := by
  by_cases z : ∃ q, J b = some (LamX.CodeO b q)
  · exact .inr z
  · refine .inl ?_
    unfold codJ
    rw [if_neg (fun y => z y.2)]
    exact h
theorem codJ_of {I J : Hp} {b : Addr} {u : HO} (h : codJ I J b = some u) : I b = some u ∨ ∃ q, u = LamX.CodeO b q ∧ J b = some u := by
  unfold codJ at h
  split at h
  · rename_i z
    obtain ⟨_, q, hq⟩ := z
    rw [hq] at h
    cases h
    exact .inr ⟨q, rfl, hq⟩
  · exact .inl h
/-- the relation behind the making of a lambda -/
theorem R.lam {fr : Fr} {δ : Sta} {σ : L2.St} {I : Hp} {as : List Addr} {H H1 : Hp} (r : R K ⟨xs, fr⟩ δ σ I as H) (e : LamX.ExtN H H1) (hT : ∀ b z, tabZ δ.ce as fr b = some z → LamX.TabS H1 b z) : R K ⟨xs, fr⟩ δ σ (codJ I H1) as H1 := by
  have le : Le I as (codJ I H1) as := ⟨codJ_le, fun _ _ h => h⟩
  have stay : ∀ b u, I b = some u → H1 b = some u := fun b u h => e b u (r.ih b u h) fun ps z => by subst z; exact r.it b ps h
  have cod : ∀ {b c : Addr} {q : Str}, H1 c = some (LamX.CodeO c q) → codJ I H1 c = some (LamX.CodeO c q) := fun {b c q} h => by
    cases z : I c with
    | none =>
      unfold codJ
      rw [if_pos ⟨z, q, h⟩]
      exact h
    | some u =>
      have y := stay c u z
      rw [h] at y
      cases y
      exact codJ_le c _ z
  have tabI : ∀ {b : Addr} {z : Str}, LamX.TabS H1 b z → ∃ ps, H1 b = some (.tbl ps) ∧ TabI (codJ I H1) ps z := fun {b z} ⟨ps, h1, h2, h3⟩ => by
    refine ⟨ps, h1, h2, fun pos cv hc => ?_⟩
    obtain ⟨c, k1, k2⟩ := h3 pos cv hc
    exact ⟨c, k1, cod (b := b) k2⟩
  have nI : ∀ {b : Addr} {u : HO}, I b = none → H1 b = some u → (∀ c q, u ≠ LamX.CodeO c q) → codJ I H1 b = none := fun {b u} h1 h2 h3 => by
    rcases codJ_or (J := H1) h1 with z | ⟨q, z⟩
    · exact z
    · rw [h2] at z
      cases z
      exact (h3 b q rfl).elim
  have noCell : ∀ {b : Addr} {w : FO}, fr b = some w → ¬ ∃ (q : Str) (c : Nat), δ.ce[c]? = some (CO.tbl q) ∧ as[c]? = some b := fun {b w} h ⟨q, c, k1, k2⟩ => by
    have := r.cf c _ b k1 k2 rfl
    rw [show fr b = none from this] at h
    cases h
  refine ⟨fun b w hw => ?_, r.cf, fun b w hw => ?_, fun b u hu => ?_, r.len, fun i s hs => ?_, r.clen, fun cc o a h1 h2 => ?_, r.inj, fun b ps z => ?_⟩
  · cases w with
    | ho u =>
      obtain ⟨k1, k2⟩ := r.fh b _ hw
      exact ⟨e b u k1 k2.2, k2⟩
    | tb q => exact tabI (hT b _ (tabZ_fr (ec := ⟨xs, fr⟩) (noCell hw) hw))
  · cases w with
    | ho u =>
      obtain ⟨k1, k2⟩ := r.fh b _ hw
      exact nI (r.fi b _ hw) (e b u k1 k2.2) k2.1
    | tb q =>
      obtain ⟨ps, k1, _⟩ := tabI (hT b _ (tabZ_fr (ec := ⟨xs, fr⟩) (noCell hw) hw))
      exact nI (r.fi b _ hw) k1 fun c q y => by cases y
  · rcases codJ_of hu with z | ⟨q, rfl, z⟩
    · exact stay b u z
    · exact z
  · rcases r.slots i s hs with z | ⟨v, z1, z2⟩
    · exact .inl z
    · exact .inr ⟨v, z1, z2.mono le⟩
  · have z := r.cells cc o a h1 h2
    by_cases ht : ∃ q, o = .tbl q
    · obtain ⟨q, rfl⟩ := ht
      obtain ⟨ps, k1, k2⟩ := tabI (hT a _ (tabZ_cell (ec := ⟨xs, fr⟩) r h1 h2))
      exact ⟨z.1, nI z.2.1 k1 (fun c q y => by cases y), ps, k1, k2⟩
    · by_cases hl : o.live = true
      · obtain ⟨n0, u, hu⟩ := z.free hl
        have hu1 : H1 a = some u := e a u hu (z.notT hl (fun q y => ht ⟨q, y⟩) hu)
        refine z.mono le (fun _ => nI n0 hu1 (z.notC hl hu)) fun _ w hw => ?_
        rw [hu] at hw
        cases hw
        exact hu1
      · exact z.mono le (fun l => absurd l hl) fun l => absurd l hl
  · rcases codJ_of z with y | ⟨q, y, _⟩
    · exact r.it b ps y
    · cases y
theorem se_refu {t : XK → TE} {x xn fld : Str} {c : Nat} {tab : List (XC × Bool)} {e : AE} (he : ∀ E : XK, SE K xs (fun cls d _ H => E cls d H) (t E) e) (hm : ∀ k b, tab.lookup k = some b → PySem.W.exmOne K (k.v K) (.ref (He.ga K xn)) = some b) :
    SE K xs W (tLamZ (tabA K x) (lamQ x) (TTrefu K (He.ga K xn) fld) t) (aRefu c x tab xn fld e) := by
  intro fr δ Ψ Ξ h σ I as H Q r cc
  unfold aRefu at h
  split at h
  rotate_left
  · exact h.elim
  rename_i x' hce
  split at h
  rotate_left
  · exact h.elim
  rename_i hx
  subst hx
  obtain ⟨a, ha⟩ := get_of_lt (l := as) (c := c) (by rw [r.clen]; exact lt_of_get hce)
  have hcell := r.cells c _ a hce ha
  refine ⟨tabZ δ.ce as fr, ?_, fun b z hz => ?_, fun H1 e1 e2 => ?_⟩
  · rw [← hcell.1]; exact tabZ_cell (ec := ⟨xs, fr⟩) r hce ha
  · obtain ⟨_, ps, h1, h2, h3⟩ := tabZ_of (ec := ⟨xs, fr⟩) r hz
    exact ⟨ps, h1, h2, fun pos cv hc => let ⟨c0, k1, k2⟩ := h3 pos cv hc; ⟨c0, k1, r.ih _ _ k2⟩⟩
  · have r1 := R.lam r e1 e2
    have le1 : Le I as (codJ I H1) as := ⟨codJ_le, fun _ _ h => h⟩
    have back : ∀ {δ1 : Sta} {ce2 : List CO} {I2 : Hp} {as2 : List Addr} {H2 : Hp}, R K ⟨xs, fr⟩ δ1 σ I2 as2 H2 → Le (codJ I H1) as I2 as2 → cutTo δ.ce δ1.ce = some ce2 → ∃ as3, R K ⟨xs, fr⟩ ⟨δ.sl, ce2⟩ σ I2 as3 H2 ∧ Le I as I2 as3 := fun {δ1 ce2 I2 as2 H2} r2 l2 hq => by
      have l3 := le1.trans l2
      have r3 := R.reslot (sl := δ1.sl) (ce := δ1.ce) r2 r l3
      obtain ⟨r4, l4, _, _, hle⟩ := R.cutTo r r3 l3 hq
      rw [slBnd r hle] at r4
      exact ⟨_, r4, l4⟩
    unfold TTrefu
    cases q : e δ with
    | bad => rw [q] at h; exact h.elim
    | ok s δ1 =>
      rw [q] at h
      dsimp only at h
      refine he _ fr δ (fun s' δ' => s' = s ∧ δ' = δ1) (fun _ _ => False) (by rw [q]; exact ⟨rfl, rfl⟩) σ (codJ I H1) as H1 _ r1 ⟨fun s' δ' v I2 as2 H2 r2 l2 rv k => ?_, fun _ _ _ _ _ _ _ _ _ z => z.elim⟩
      obtain ⟨rfl, rfl⟩ := k
      split at h
      · rename_i ce2 hq
        obtain ⟨as3, r4, l4⟩ := back r2 l2 hq
        exact cc.v (.im .non) _ .non I2 as3 H2 r4 l4 rfl h
      · exact h.elim
    | ex y δ1 =>
      rw [q] at h
      dsimp only at h
      refine he _ fr δ (fun _ _ => False) (fun y' δ' => y' = y ∧ δ' = δ1) (by rw [q]; exact ⟨rfl, rfl⟩) σ (codJ I H1) as H1 _ r1 ⟨fun _ _ _ _ _ _ _ _ _ z => z.elim, fun y' δ' d I2 as2 H2 r2 l2 xr k => ?_⟩
      obtain ⟨rfl, rfl⟩ := k
      split at h
      · rename_i f dd hfs
        split at h
        · rename_i hh
          obtain ⟨hcl, rfl, htab⟩ := hh
          split at h
          · rename_i ce2 hq
            obtain ⟨as3, r4, l4⟩ := back r2 l2 hq
            have hcv : y'.cls.v K = .ref (He.ga K xn) := by rw [hcl]; rfl
            show ∃ z, PySem.W.exmOne K (y'.cls.v K) (.ref (He.ga K xn)) = some z ∧ _
            refine ⟨true, by rw [hcl]; exact hm _ _ htab, fun _ => ⟨hcv, ?_⟩, fun z => by cases z⟩
            rw [hfs] at xr
            cases d with
            | none => cases (show [(f, SV.im dd)] = [] from xr)
            | some da =>
              obtain ⟨vs, g1, v, rr, g2, g3, g4⟩ := xr
              subst g2
              have g4 : rr = [] := g4
              subst g4
              exact ⟨da, v, rfl, r2.ih _ _ g1, cc.v (.im dd) _ v I2 as3 H2 r4 l4 g3 h⟩
          · exact h.elim
        · exact h.elim
      · exact h.elim
end
end Fx

set_option Elab.async false
set_option linter.all false
set_option autoImplicit false
set_option maxRecDepth 100000
set_option maxHeartbeats 2000000
namespace Fx
open PySem L2
/-! ## list.index -/
def idxF (y : D) : List D → Option Nat
  | [] => none
  | z :: zs => if eqF z y = true then some 0 else (idxF y zs).map (· + 1)
def indexD : D → D → Option D
  | .lst ds, y => if flatD y = true ∧ ds.all flatD = true then (idxF y ds).map fun j => .int (j : Nat) else none
  | _, _ => none
theorem mtr_index' {X : Cx} {K : PySem.W.Frag} (hK : X.K = K := by rfl) : MtR X "list.index" (rIndex K) := by subst hK; exact mt_index
section
variable {K : PySem.W.Frag} {xs : Xs}
theorem idx_of {H : Hp} {x : D} {v : V} (fx : flatD x = true) (hx : Rep K H x v) : ∀ {ds : List D} {vs : List V} {j : Nat}, ds.all flatD = true → RepL K H ds vs → idxF x ds = some j → vs.all flatV = true ∧ ∃ z, vs[j]? = some z ∧ eqV z v = true ∧ ∀ (m : Nat) (z' : V), m < j → vs[m]? = some z' → eqV z' v = false
  | [], _, _, _, _, e => by cases e
  | y :: ys, _, j, f, ⟨u, r, e, h1, h2⟩, hj => by
    subst e
    obtain ⟨f1, f2⟩ := and2 (show (flatD y && ys.all flatD) = true from f)
    have fr : r.all flatV = true := (count_of fx hx f2 h2).2
    have fu : (flatV u && r.all flatV) = true := by rw [flat_of f1 h1, fr]; rfl
    refine ⟨fu, ?_⟩
    have eu := eqF_of f1 fx h1 hx
    unfold idxF at hj
    by_cases hb : eqF y x = true
    · rw [if_pos hb] at hj
      cases hj
      exact ⟨u, rfl, by rw [eu]; exact hb, fun m z' hm => absurd hm (Nat.not_lt_zero m)⟩
    · rw [if_neg hb] at hj
      obtain ⟨i, hi, rfl⟩ := Option.map_eq_some_iff.mp hj
      obtain ⟨_, z, g1, g2, g3⟩ := idx_of fx hx f2 h2 hi
      refine ⟨z, g1, g2, fun m z' hm hz => ?_⟩
      cases m with
      | zero =>
        cases hz
        rw [eu]
        exact Bool.eq_false_iff.mpr hb
      | succ m => exact g3 m z' (Nat.lt_of_succ_lt_succ hm) hz
theorem ok_index : MtOk K xs "list" (rIndex K) (dBM1 indexD) := dBM1_ok fun ec δ s t x y d Ψ e1 e2 h k σ I as H Q v vs r rv rvs cc => by
  obtain ⟨w, _, rfl, hw, rfl⟩ := rvs
  unfold indexD at h
  split at h
  · rename_i ds y
    split at h
    · rename_i hf
      obtain ⟨j, hj, rfl⟩ := Option.map_eq_some_iff.mp h
      obtain ⟨p, ws, rfl, hp, rp⟩ := r.dv e1 rv
      have hy := r.dv e2 hw
      obtain ⟨g0, z, g1, g2, g3⟩ := idx_of hf.1 hy hf.2 rp hj
      exact ⟨p, ws, w, j, z, rfl, rfl, SqL.of hp, flat_of hf.1 hy, g0, g1, g2, g3, cc (.im (.int _)) δ _ I as H r (Le.refl I as) rfl k⟩
    · cases h
  · cases h
end
/-! ## a def that hands lambdas on -/
section
open PySem.Spec PyProof.Rows
variable {P : Program} {w : World} {K : PySem.W.Frag} {mg : Str → Option Value} {base : Heap} {x qual : Str} {params : Arguments} {body : List Stmt} {scope : Scope} {dvs : List V} {kws : List (Str × V)} {f : Addr} {fd : FuncData}
theorem okGL {CX : CXT} {N ps : List Str} {k : Nat} {sp : Sp} (F : FunD K x qual params body scope dvs kws f fd) (S : FnScope N ps scope) (len : ∀ vs H Q E, sp vs H Q E → vs.length = ps.length)
    (hbody : ∀ (cdv : Value) (A : Around) (outer : List Env) (s : Shared) (H : Hp) (vs : List V) (Q : VK) (E : XK), fd.code = cdv → RoomG k (A.deeper (envOfC qual scope s.heap.objs.size f cdv)) → sp vs H Q E →
      ∃ t, PSs (cxOf CX P w K mg base N qual scope f cdv A outer s H E) body t ∧ t { nx := fun _ H' => Q .non H', rt := Q } (L2.start N vs) H) : FnG P w K mg base CX (k + 1) f fd ps sp := by
  obtain ⟨oc, od, dV, kV, doc, pm, an, cdv, ct, osl, rfl, lk, hcd, _, _⟩ := F.ex
  refine ⟨len, fun A outer s H args us vs Q E hr e0 hb r hsp => ?_⟩
  refine StX.run_bnd lk hcd S hr.r e0 (G := fun xs H2 => xs = vs ∧ H2 = H) (fun A' Ex Q' h => hb _ _ _ _ ?_) fun s2 H2 xs g hr' => ?_
  · exact h s H vs us e0 Un.refl rfl (fun _ _ z => z) r (len _ _ _ _ hsp) ⟨rfl, rfl⟩
  · obtain ⟨rfl, rfl⟩ := g
    exact hbody cdv A outer s2 H2 xs Q E rfl ⟨hr', fun z => hr.gd (Nat.le_succ_of_le z)⟩ hsp
theorem fn_okL {N ps : List Str} {k : Nat} {a : AS} {y : Str} (F : FunD K x qual params body scope dvs kws f fd) (hc : fd.code = .ref (codA K y)) (S : FnScope N ps scope) (hps : ps.length ≤ N.length)
    (hb : ∀ (cdv : Value) (Ar : Around) (outer : List Env) (s : Shared) (H : Hp) (E : XK) (xs : Xs), cdv = .ref (codA K y) → RoomG k (Ar.deeper (PyProof.Rows.envOfC qual scope s.heap.objs.size f cdv)) →
      ∃ t, PSs (cxOf (CX P w) P w K mg base N qual scope f cdv Ar outer s H E) body t ∧ SS K xs (fun cls d _ H => E cls d H) t a) : FnG P w K mg base (CX P w) (k + 1) f fd ps (spFn K ps.length (aDef N.length a)) := by
  refine okGL F S (fun vs H Q E h => h.1) fun cdv Ar outer s H vs Q E hcd hr h => ?_
  obtain ⟨hl, xs, fr, ss, ce, as, I, r, rv, e⟩ := h
  obtain ⟨t, h1, h2⟩ := hb cdv Ar outer s H E xs (hcd.symm.trans hc) hr
  exact ⟨t, h1, body_ok h2 (by rw [← rv.length, hl]; exact hps) r rv retF (fun e r' l rv => retF_ok (δ := ⟨[], ce⟩) r e r' l rv) e⟩
theorem codA_of {y : Str} (F : FunD K x qual params body scope dvs kws (He.ga K y) fd) : fd.code = .ref (codA K y) := by
  obtain ⟨oc, od, dV, kV, doc, pm, an, cdv, ct, osl, rfl, lk, hcd, _, _⟩ := F.ex
  cases cdv with
  | ref c =>
    unfold codA
    rw [lk]
  | _ => cases hcd
/-- what the head shows of the code object of the def y and of its table -/
def tabB1 (K : PySem.W.Frag) (y : Str) : Bool := (match K.lookup (codA K y) with
  | some ⟨c, _, .fields vs, _⟩ => decide (c = .type "code") && (match (vs[11]? : Option Value) with
      | some (.ref p) => decide (vs.getD 11 .none = .ref p)
      | _ => false) && (match vs.getD 18 .none with
      | .str _ _ => true
      | _ => false) && (match vs.getD 7 .none with
      | .int _ _ => true
      | _ => false) && (match vs.getD 9 .none with
      | .bool _ => true
      | _ => false) && (match vs.getD 10 .none with
      | .int _ _ => true
      | _ => false)
  | _ => false) && decide (codA K y ≠ tabA K y) && (K.lookup (tabA K y)).isNone
theorem tabB1_ok {y : Str} (h : tabB1 K y = true) : K.lookup (tabA K y) = none ∧ (∃ e dd vs sl, K.lookup (codA K y) = some ⟨e, dd, .fields vs, sl⟩ ∧ vs[11]? = some (.ref (tabA K y))) ∧ ∀ h : Heap, K.In h → PySem.W.CodeHd h (codA K y) (tabA K y) := by
  unfold tabB1 at h
  obtain ⟨h, h3⟩ := and2 h
  obtain ⟨h, h2⟩ := and2 h
  have hne := of_decide_eq_true h2
  cases q : K.lookup (codA K y) with
  | none => rw [q] at h; cases h
  | some o =>
    rw [q] at h
    obtain ⟨c, dd, data, sl⟩ := o
    cases data with
    | fields vs =>
      dsimp only at h
      obtain ⟨h, a5⟩ := and2 h
      obtain ⟨h, a4⟩ := and2 h
      obtain ⟨h, a3⟩ := and2 h
      obtain ⟨h, a2⟩ := and2 h
      obtain ⟨a0, a1⟩ := and2 h
      have a0 := of_decide_eq_true a0
      split at a1
      · rename_i p hp
        have a1 := of_decide_eq_true a1
        have et : tabA K y = p := by
          unfold tabA
          rw [q]
          dsimp only
          rw [hp]
        split at a2
        · rename_i s2 t2 e2
          split at a3
          · rename_i s3 t3 e3
            split at a4
            · rename_i s4 e4
              split at a5
              · rename_i s5 t5 e5
                refine ⟨Option.isNone_iff_eq_none.mp h3, ⟨c, dd, vs, sl, rfl, by rw [et]; exact hp⟩, fun h hK => ⟨_, vs, s2, t2, s3, t3, s4, s5, t5, hK _ _ q, a0, rfl, by rw [et]; exact hp, by rw [et]; exact a1, e2, e3, e4, e5, hne⟩⟩
              · cases a5
            · cases a4
          · cases a3
        · cases a2
      · cases a1
    | _ => cases h
/-- the end of a law that holds lambdas itself (and no repr of lists) -/
theorem walk_ofWT {l : PySem.W.OpenLaw} {n k : Nat} {q : Program} {loose : List Str} {XP : (Str → Option Value) → Heap → Prop} {YP : World → Heap → Prop} {d : DefRec} {x y : Str}
    (hn : l.most = some n) (hn2 : n ≤ sizeLine) (hdf : d.params.defaults = []) (hr : Room k callerA) (hk : k < 100) (hrec : ((PyProof.Rows.recsOf q).any fun e => e.name == d.name) = true)
    (F : ∀ (w : World) (mg : Str → Option Value) (fa : Addr) (h : Heap), YP w h → h.Ns mainGlobals mg → mg d.name = some (.ref fa) →
      ∃ (K : PySem.W.Frag) (fd : FuncData) (sp : Sp), K.In h ∧ (∃ oc od osl, K.lookup fa = some ⟨oc, od, .func fd, osl⟩) ∧ fd.code = .ref (codA K y) ∧ tabB1 K y = true ∧ (∀ (s : Shared) (u : Value), BindsTo s fd ⟨[u], []⟩ [(x, u)]) ∧
        (∀ (H : Hp) (a : Addr) (ns : List Int), ns.length ≤ n → H (tabA K y) = some (.tbl #[]) → SqL K H a (ns.map V.int) → sp [.ref a] H (fun v _ => v = .bl true) fun _ _ _ => False) ∧
        ∀ base : Heap, K.In base → base.Ns mainGlobals mg → LamX.TabB base mg (codA K y) (tabA K y) → FnG l.prog w K mg base (CX l.prog w) k fa fd [x] sp) :
    PySem.W.WalkO q loose XP YP l.row.toRowW d [] (fun f vs => PySem.call f vs) := by
  refine Att.attach_callB hn hdf fun w s₀ s₁ mg mb fa o pm cd doc a vs ns G Y ho hd hcd hmg hobj hints hlen hbits hg => ?_
  obtain ⟨K, fd, sp, KX, ⟨oc, od, osl, lf⟩, hcode, htab, hb, hsp, hF⟩ := F w mg fa _ Y G.T.g hmg
  obtain ⟨nT, ⟨e, dd, vc, sl, lc, l11⟩, hC⟩ := tabB1_ok htab
  have empty : s₁.heap.get? (tabA K y) = some { cls := .none, data := .fields #[] } := by
    obtain ⟨dL, hm, hn1⟩ := List.any_eq_true.mp hrec
    obtain ⟨a', o', fd', c', P', h1, h2, h3, h4, _, ⟨oc', vc', e1, _, e3, e4⟩, hP⟩ := G.T.tab dL hm
    rw [beq_iff_eq.mp hn1, hmg] at h1
    cases h1
    rw [KX _ _ lf] at h2
    cases h2
    cases h3
    rw [hcode] at h4
    cases h4
    rw [KX _ _ lc] at e1
    cases e1
    cases e3
    rw [l11] at e4
    cases e4
    exact hP
  have one : ∀ (Z : Addr × Addr → Prop), Z (codA K y, tabA K y) → ∀ p ∈ [(codA K y, tabA K y)], Z p := fun Z hz p hp => by
    rw [List.mem_singleton.mp hp]; exact hz
  refine LamX.law_callTs (CX := CX l.prog w) (cs := [(codA K y, tabA K y)]) KX G.T.g G.T.b G.T.builtins G.T.nolimit hg (one (fun p => s₁.heap.get? p.2 = some { cls := .none, data := .fields #[] }) empty) (one (fun p => K.lookup p.2 = none) nT) (one (fun p => PySem.W.CodeHd s₁.heap p.1 p.2) (hC _ KX)) G.T.bmain hobj hints (Nat.le_trans hlen hn2) hr (fun base k1 k2 k3 => ?_) hb (fun H hH hS => hsp H a ns hlen (hH _ List.mem_cons_self) hS) fun H e s' => ?_
  · have FG := hF base k1 k2 (k3 _ List.mem_cons_self)
    exact ⟨FG.len, fun A outer s H args us vs Q E hr => FG.run A outer s H args us vs Q E ⟨hr, fun z => absurd z (by omega)⟩⟩
  · rintro ⟨_, _, _, _, _, _, _, _, _, _, _, _, z⟩
    exact z
end
end Fx

set_option Elab.async false
set_option linter.all false
set_option autoImplicit false
set_option maxRecDepth 100000
set_option maxHeartbeats 0
namespace K07
open PySem L2 Fx
def tabs : Tabs := [("RULES", [("case", (.tup [(.str "exact"), (.str "folded")])), ("blanks", (.tup [(.str "kept"), (.str "dropped")])), ("empty", (.tup [(.str "text"), (.str "lacks")])), ("lacking", (.tup [(.str "unknown"), (.str "unlike"), (.str "alike")])), ("last", (.tup [(.bl false), (.bl true)])), ("unit", (.tup [(.int 1), (.int 2), (.int 5), (.int 10)])), ("halves", (.tup [(.str "up"), (.str "even"), (.str "cut")]))])]
def ct : CT := ⟨[("Ways", ["case", "blanks", "empty", "lacking", "last", "unit", "halves"])], []⟩
def isi : Isi := [((.blt "NoneType", .blt "int"), false), ((.blt "bool", .blt "int"), true), ((.blt "int", .blt "int"), true), ((.blt "str", .blt "int"), false), ((.blt "list", .blt "int"), false), ((.blt "tuple", .blt "int"), false), ((.blt "dict", .blt "int"), false), ((.own "Ways", .blt "int"), false), ((.blt "NoneType", .blt "bool"), false), ((.blt "bool", .blt "bool"), true), ((.blt "int", .blt "bool"), false), ((.blt "str", .blt "bool"), false), ((.blt "list", .blt "bool"), false), ((.blt "tuple", .blt "bool"), false), ((.blt "dict", .blt "bool"), false), ((.own "Ways", .blt "bool"), false), ((.blt "NoneType", .blt "str"), false), ((.blt "bool", .blt "str"), false), ((.blt "int", .blt "str"), false), ((.blt "str", .blt "str"), true), ((.blt "list", .blt "str"), false), ((.blt "tuple", .blt "str"), false), ((.blt "dict", .blt "str"), false), ((.own "Ways", .blt "str"), false), ((.blt "NoneType", .own "Ways"), false), ((.blt "bool", .own "Ways"), false), ((.blt "int", .own "Ways"), false), ((.blt "str", .own "Ways"), false), ((.blt "list", .own "Ways"), false), ((.blt "tuple", .own "Ways"), false), ((.blt "dict", .own "Ways"), false), ((.own "Ways", .own "Ways"), true)]
def tabx_InvalidWays : List (XC × Bool) := [(.own "InvalidWays", true)]
def nf : List XC := [.own "Ways", .blt "str", .blt "int"]
/-- _law_script 0, _law_k 1, _law_great 2, _law_seed 3 -/
def t__law_box : Fn := aDefC 4
    (aSeq (aAsg (aOp addA (aOp (dOp mulD) (aC (.int 6701)) (aVar 1)) (aC (.int 47))) (gNm 2))
    (aSeq (aIfS (aTest (aOp (dOp ltD) (aVar 1) (aCB (dCB1 lenD) (aCons (aVar 0) aNil)))) (aAsg (aCB (dCB1 absD) (aCons (aCB (dCB1 intD) (aCons (aOp (ixA tabs) (aVar 0) (aVar 1)) aNil)) aNil)) (gNm 2)) (aIfS (aTest (aOp (dOp gtD) (aCB (dCB1 lenD) (aCons (aVar 0) aNil)) (aC (.int 0)))) (aAsg (aOp addA (aVar 2) (aOp (dOp mulD) (aOp (dOp modD) (aCB (dCB1 intD) (aCons (aOp (ixA tabs) (aVar 0) (aOp (dOp modD) (aCB (dCB1 intD) (aCons (aVar 1) aNil)) (aCB (dCB1 lenD) (aCons (aVar 0) aNil)))) aNil)) (aC (.int 2147483629))) (aC (.int 69539)))) (gNm 2)) aNext))
    (aSeq (aAsg (aOp addA (aOp (dOp modD) (aCB (dCB1 intD) (aCons (aOp addA (aOp addA (aOp (dOp mulD) (aOp (dOp modD) (aCB (dCB1 intD) (aCons (aVar 2) aNil)) (aC (.int 2147483629))) (aC (.int 48281))) (aOp (dOp mulD) (aC (.int 40847)) (aVar 1))) (aC (.int 7))) aNil)) (aC (.int 2147483629))) (aC (.int 1))) (gNm 3))
    (aRet (aLstC (aCons (aOp (ixA tabs) (aLst (aCons (aC (.int 0)) (aCons (aVar 2) aNil))) (aCB (dCB1 intD) (aCons (aOp (dOp geD) (aVar 2) (aOp (dOp powD) (aC (.int 10)) (aC (.int 18)))) aNil))) (aCons (aVar 3) (aCons (aC (.int 0)) aNil))))))))
@[reducible] def f__law_box : Fn := loc t__law_box
/-- self 0, found 1 -/
def t_Ways_rules : Fn := aDefC 2
    (aSeq (aAsg (aDisp [((aC (.str "case")), (aFld ct (aVar 0) "case")), ((aC (.str "blanks")), (aFld ct (aVar 0) "blanks")), ((aC (.str "empty")), (aFld ct (aVar 0) "empty")), ((aC (.str "lacking")), (aFld ct (aVar 0) "lacking"))]) (gNm 1))
    (aRet (aDispS (aVar 1) [((aC (.str "last")), (aFld ct (aVar 0) "last")), ((aC (.str "unit")), (aFld ct (aVar 0) "unit")), ((aC (.str "halves")), (aFld ct (aVar 0) "halves"))])))
@[reducible] def f_Ways_rules : Fn := loc t_Ways_rules
/-- value 0 -/
def t_is_integer : Fn := aDef 1
    (aRet (aAndV (aCB (isiA isi) (aCons (aVar 0) (aCons (aC (.ty "int")) aNil))) (aNotV (aCB (isiA isi) (aCons (aVar 0) (aCons (aC (.ty "bool")) aNil))))))
@[reducible] def f_is_integer : Fn := loc t_is_integer
/-- word 0, value 1 -/
def t_is_rule : Fn := aDef 2
    (aSeq (aIfS (aTest (aOp (dOp eqD) (aVar 0) (aC (.str "last")))) (aRet (aCB (isiA isi) (aCons (aVar 1) (aCons (aC (.ty "bool")) aNil)))) aNext)
    (aSeq (aIfS (aTest (aOp (dOp eqD) (aVar 0) (aC (.str "unit")))) (aRet (aAndV (aCall 1 f_is_integer [] (aCons (aVar 1) aNil)) (aOp (dOp inD) (aVar 1) (aOp (ixA tabs) (aC (.glo "RULES")) (aVar 0))))) aNext)
    (aRet (aAndV (aCB (isiA isi) (aCons (aVar 1) (aCons (aC (.ty "str")) aNil))) (aOp (dOp inD) (aVar 1) (aOp (ixA tabs) (aC (.glo "RULES")) (aVar 0)))))))
@[reducible] def f_is_rule : Fn := loc t_is_rule
def mt_rules : MTab := [("Ways", (1, f_Ways_rules))]
/-- self 0, case 1, blanks 2, empty 3, lacking 4, last 5, unit 6, halves 7, word 8, value 9 -/
def t_Ways___init__ : Fn := aDef 10
    (aSeq (aAsg (aTup (aCons (aVar 1) (aCons (aVar 2) (aCons (aVar 3) (aCons (aVar 4) aNil))))) (gTp [(gFl ct 0 "case"), (gFl ct 0 "blanks"), (gFl ct 0 "empty"), (gFl ct 0 "lacking")]))
    (aSeq (aAsg (aTup (aCons (aVar 5) (aCons (aVar 6) (aCons (aVar 7) aNil)))) (gTp [(gFl ct 0 "last"), (gFl ct 0 "unit"), (gFl ct 0 "halves")]))
    (aFor (aItems (aMeth mt_rules "rules" (aVar 0) aNil)) (gTp [(gNm 8), (gNm 9)]) (aIfS (aNot (aTest (aCall 2 f_is_rule [] (aCons (aVar 8) (aCons (aVar 9) aNil))))) (aRaise "InvalidWays" "word" (aVar 8)) aNext))))
@[reducible] def f_Ways___init__ : Fn := loc t_Ways___init__
/-- self 0, others 1, found 2 -/
def t_Ways_but : Fn := aDef 3
    (aSeq (aAsg (aMeth mt_rules "rules" (aVar 0) aNil) (gNm 2))
    (aSeq (aExpr (aBMd updateA (aVar 2) (aCons (aVar 1) aNil)))
    (aRet (aMakeKW "Ways" 8 f_Ways___init__ ["case", "blanks", "empty", "lacking", "last", "unit", "halves"] (aVar 2)))))
@[reducible] def f_Ways_but : Fn := loc t_Ways_but
/-- self 0, other 1 -/
def t_Ways___eq__ : Fn := aDef 2
    (aRet (aAndV (aCB (isiA isi) (aCons (aVar 1) (aCons (aC (.glo "Ways")) aNil))) (aOp (eqK false eqD) (aMeth mt_rules "rules" (aVar 0) aNil) (aMeth mt_rules "rules" (aVar 1) aNil))))
@[reducible] def f_Ways___eq__ : Fn := loc t_Ways___eq__
/-- _law_box_here 0, _law_many 1, _law_digit 2, _law_near 3 -/
def t__law_take : Fn := aDef 4
    (aSeq (aIfS (aTest (aOp (dOp gtD) (aOp (ixA tabs) (aVar 0) (aC (.int 0))) (aC (.int 0)))) (aSeq (aAsg (aOp (dOp modD) (aCB (dCB1 intD) (aCons (aOp (ixA tabs) (aVar 0) (aC (.int 0))) aNil)) (aVar 1)) (gNm 2))
    (aSeq (aAsg (aOp (dOp fdivD) (aOp (ixA tabs) (aVar 0) (aC (.int 0))) (aVar 1)) (gIx (aVar 0) (aC (.int 0))))
    (aRet (aVar 2)))) aNext)
    (aSeq (aAsg (aOp addA (aOp (ixA tabs) (aVar 0) (aC (.int 2))) (aC (.int 1))) (gIx (aVar 0) (aC (.int 2))))
    (aSeq (aAsg (aOp (dOp modD) (aCB (dCB1 intD) (aCons (aOp (dOp mulD) (aOp addA (aOp (ixA tabs) (aVar 0) (aC (.int 1))) (aOp (dOp mulD) (aC (.int 104773)) (aOp (ixA tabs) (aVar 0) (aC (.int 2))))) (aC (.int 69661))) aNil)) (aC (.int 2147483647))) (gNm 3))
    (aSeq (aAsg (aOp addA (aOp (dOp modD) (aCB (dCB1 intD) (aCons (aOp addA (aOp (dOp mulD) (aVar 3) (aC (.int 48299))) (aC (.int 30137))) aNil)) (aC (.int 2147483629))) (aC (.int 1))) (gIx (aVar 0) (aC (.int 1))))
    (aRet (aOp (dOp modD) (aCB (dCB1 intD) (aCons (aOp (dOp fdivD) (aOp addA (aOp (dOp mulD) (aVar 3) (aC (.int 2147483647))) (aOp (ixA tabs) (aVar 0) (aC (.int 1)))) (aC (.int 8191))) aNil)) (aVar 1)))))))
@[reducible] def f__law_take : Fn := loc t__law_take
/-- _law_box_here 0, _law_some 1 -/
def t__law_pick : Fn := aDef 2
    (aRet (aOp (ixA tabs) (aVar 1) (aCall 2 f__law_take [] (aCons (aVar 0) (aCons (aCB (dCB1 lenD) (aCons (aVar 1) aNil)) aNil)))))
@[reducible] def f__law_pick : Fn := loc t__law_pick
/-- _law_box_here 0, _law_found 1 -/
def t__law_rules : Fn := aDef 2
    (aSeq (aAsg (aDisp [((aC (.str "case")), (aCall 2 f__law_pick [] (aCons (aVar 0) (aCons (aLst (aCons (aC (.str "exact")) (aCons (aC (.str "folded")) aNil))) aNil)))), ((aC (.str "blanks")), (aCall 2 f__law_pick [] (aCons (aVar 0) (aCons (aLst (aCons (aC (.str "kept")) (aCons (aC (.str "dropped")) aNil))) aNil))))]) (gNm 1))
    (aSeq (aDput (aVar 1) (aC (.str "empty")) (aCall 2 f__law_pick [] (aCons (aVar 0) (aCons (aLst (aCons (aC (.str "text")) (aCons (aC (.str "lacks")) aNil))) aNil))))
    (aSeq (aDput (aVar 1) (aC (.str "lacking")) (aCall 2 f__law_pick [] (aCons (aVar 0) (aCons (aLst (aCons (aC (.str "unknown")) (aCons (aC (.str "unlike")) (aCons (aC (.str "alike")) aNil)))) aNil))))
    (aSeq (aDput (aVar 1) (aC (.str "last")) (aOp (dOp eqD) (aCall 2 f__law_take [] (aCons (aVar 0) (aCons (aC (.int 2)) aNil))) (aC (.int 0))))
    (aSeq (aDput (aVar 1) (aC (.str "unit")) (aCall 2 f__law_pick [] (aCons (aVar 0) (aCons (aLst (aCons (aC (.int 1)) (aCons (aC (.int 2)) (aCons (aC (.int 5)) (aCons (aC (.int 10)) aNil))))) aNil))))
    (aSeq (aDput (aVar 1) (aC (.str "halves")) (aCall 2 f__law_pick [] (aCons (aVar 0) (aCons (aLst (aCons (aC (.str "up")) (aCons (aC (.str "even")) (aCons (aC (.str "cut")) aNil)))) aNil))))
    (aRet (aVar 1))))))))
@[reducible] def f__law_rules : Fn := loc t__law_rules
/-- _law_rules_here 0, _law_first 1 -/
def t__law_ways : Fn := aDef 2
    (aSeq (aAsg (aLst (aCons (aOp (ixA tabs) (aVar 0) (aC (.str "case"))) (aCons (aOp (ixA tabs) (aVar 0) (aC (.str "blanks"))) (aCons (aOp (ixA tabs) (aVar 0) (aC (.str "empty"))) (aCons (aOp (ixA tabs) (aVar 0) (aC (.str "lacking"))) aNil))))) (gNm 1))
    (aRet (aMake "Ways" 8 f_Ways___init__ [] (aCons (aOp (ixA tabs) (aVar 1) (aC (.int 0))) (aCons (aOp (ixA tabs) (aVar 1) (aC (.int 1))) (aCons (aOp (ixA tabs) (aVar 1) (aC (.int 2))) (aCons (aOp (ixA tabs) (aVar 1) (aC (.int 3))) (aCons (aOp (ixA tabs) (aVar 0) (aC (.str "last"))) (aCons (aOp (ixA tabs) (aVar 0) (aC (.str "unit"))) (aCons (aOp (ixA tabs) (aVar 0) (aC (.str "halves"))) aNil))))))))))
@[reducible] def f__law_ways : Fn := loc t__law_ways
/-- self 0, words 1 -/
def t_Ways___str__ : Fn := aDef 2
    (aSeq (aAsg (aLst (aCons (aFld ct (aVar 0) "case") (aCons (aFld ct (aVar 0) "blanks") (aCons (aFld ct (aVar 0) "empty") (aCons (aFld ct (aVar 0) "lacking") (aCons (aIf (aTest (aFld ct (aVar 0) "last")) (aC (.str "last")) (aC (.str "first"))) aNil)))))) (gNm 1))
    (aRet (aBM "str" (dBM1 joinD) (aC (.str " ")) (aCons (aLst (aStar (aVar 1) (aCons (aCB (dCB1 strD) (aCons (aFld ct (aVar 0) "unit") aNil)) (aCons (aFld ct (aVar 0) "halves") aNil)))) aNil))))
@[reducible] def f_Ways___str__ : Fn := loc t_Ways___str__
def mt_but : MTab := [("Ways", (2, f_Ways_but))]
def mt___eq__ : MTab := [("Ways", (2, f_Ways___eq__))]
def mt___str__ : MTab := [("Ways", (1, f_Ways___str__))]
/-- _law_script 0, _law_k 1, _law_box_here 2, _law_turn 3, _law_mine 4, _law_theirs 5, _law_one 6, _law_other 7, _law_rule 8, _law_near 9, _law_some 10, _law_spot 11, _law_both 12 -/
def f_law : Fn := aDef 13
    (aSeq (aForC (aRg1 (aCons (aCB (dCB2 maxD) (aCons (aC (.int 1)) (aCons (aCB (dCB2 minD) (aCons (aC (.int 4)) (aCons (aCB (dCB1 lenD) (aCons (aVar 0) aNil)) aNil))) aNil))) aNil)) (gNm 1) (aSeq (aAsg (aCall 2 f__law_box [] (aCons (aVar 0) (aCons (aVar 1) aNil))) (gNm 2))
    (aForC (aRg1 (aCons (aC (.int 4)) aNil)) (gNm 3) (aSeq (aPar 4 5 (aCons (aCall 1 f__law_rules [] (aCons (aVar 2) aNil)) (aCons (aCall 1 f__law_rules [] (aCons (aVar 2) aNil)) aNil)))
    (aSeq (aAsg (aTup (aCons (aCall 1 f__law_ways [] (aCons (aVar 4) aNil)) (aCons (aCall 1 f__law_ways [] (aCons (aVar 5) aNil)) aNil))) (gTp [(gNm 6), (gNm 7)]))
    (aSeq (aForC (aIt (aTup (aCons (aC (.str "case")) (aCons (aC (.str "blanks")) (aCons (aC (.str "empty")) (aCons (aC (.str "lacking")) (aCons (aC (.str "last")) (aCons (aC (.str "unit")) (aCons (aC (.str "halves")) aNil))))))))) (gNm 8) (aSeq (aAsg (aCB dictC (aCons (aVar 4) aNil)) (gNm 9))
    (aSeq (aDput (aVar 9) (aVar 8) (aOp (ixA tabs) (aVar 5) (aVar 8)))
    (aSeq (aAsg (aLst (aCons (aMethKW mt_but "but" ["case"] (aVar 6) (aCons (aOp (ixA tabs) (aVar 5) (aC (.str "case"))) aNil)) (aCons (aMethKW mt_but "but" ["blanks"] (aVar 6) (aCons (aOp (ixA tabs) (aVar 5) (aC (.str "blanks"))) aNil)) (aCons (aMethKW mt_but "but" ["empty"] (aVar 6) (aCons (aOp (ixA tabs) (aVar 5) (aC (.str "empty"))) aNil)) aNil)))) (gNm 10))
    (aSeq (aAsg (aOp addA (aVar 10) (aLst (aCons (aMethKW mt_but "but" ["lacking"] (aVar 6) (aCons (aOp (ixA tabs) (aVar 5) (aC (.str "lacking"))) aNil)) (aCons (aMethKW mt_but "but" ["last"] (aVar 6) (aCons (aOp (ixA tabs) (aVar 5) (aC (.str "last"))) aNil)) aNil)))) (gNm 10))
    (aSeq (aAsg (aOp addA (aVar 10) (aLst (aCons (aMethKW mt_but "but" ["unit"] (aVar 6) (aCons (aOp (ixA tabs) (aVar 5) (aC (.str "unit"))) aNil)) (aCons (aMethKW mt_but "but" ["halves"] (aVar 6) (aCons (aOp (ixA tabs) (aVar 5) (aC (.str "halves"))) aNil)) aNil)))) (gNm 10))
    (aSeq (aAsg (aBM "list" (dBM1 indexD) (aLst (aCons (aC (.str "case")) (aCons (aC (.str "blanks")) (aCons (aC (.str "empty")) (aCons (aC (.str "lacking")) (aCons (aC (.str "last")) (aCons (aC (.str "unit")) (aCons (aC (.str "halves")) aNil)))))))) (aCons (aVar 8) aNil)) (gNm 11))
    (aIfS (aOr (aTest (aOp (eqX mt___eq__ isi nf true neD) (aOp (ixA tabs) (aVar 10) (aVar 11)) (aCall 1 f__law_ways [] (aCons (aVar 9) aNil)))) (aTest (aOp (eqX mt___eq__ isi nf true neD) (aOp (eqX mt___eq__ isi nf false eqD) (aOp (ixA tabs) (aVar 10) (aVar 11)) (aVar 6)) (aOp (eqK false eqD) (aVar 9) (aVar 4))))) (aRet (aC (.bl false))) aNext))))))))
    (aSeq (aIfS (aOr (aTest (aOp (eqX mt___eq__ isi nf true neD) (aMethKW mt_but "but" [] (aVar 6) aNil) (aVar 6))) (aOr (aTest (aOp (eqX mt___eq__ isi nf true neD) (aVar 6) (aCall 1 f__law_ways [] (aCons (aVar 4) aNil)))) (aTest (aOp (eqX mt___eq__ isi nf true neD) (aOp (eqX mt___eq__ isi nf false eqD) (aVar 6) (aVar 7)) (aOp (eqK false eqD) (aVar 4) (aVar 5)))))) (aRet (aC (.bl false))) aNext)
    (aSeq (aAsg (aMethKW mt_but "but" ["halves", "case", "unit"] (aVar 6) (aCons (aOp (ixA tabs) (aVar 5) (aC (.str "halves"))) (aCons (aOp (ixA tabs) (aVar 5) (aC (.str "case"))) (aCons (aOp (ixA tabs) (aVar 5) (aC (.str "unit"))) aNil)))) (gNm 12))
    (aSeq (aAsg (aMethKW mt_but "but" ["blanks", "empty", "last"] (aVar 12) (aCons (aOp (ixA tabs) (aVar 5) (aC (.str "blanks"))) (aCons (aOp (ixA tabs) (aVar 5) (aC (.str "empty"))) (aCons (aOp (ixA tabs) (aVar 5) (aC (.str "last"))) aNil)))) (gNm 12))
    (aSeq (aAsg (aMethKW mt_but "but" ["lacking"] (aVar 12) (aCons (aOp (ixA tabs) (aVar 5) (aC (.str "lacking"))) aNil)) (gNm 12))
    (aSeq (aIfS (aOr (aTest (aOp (eqX mt___eq__ isi nf true neD) (aVar 12) (aVar 7))) (aOr (aNot (aTest (aOp (eqX mt___eq__ isi nf false eqD) (aVar 12) (aVar 7)))) (aOr (aTest (aOp (eqX mt___eq__ isi nf false eqD) (aVar 6) (aCB (strX mt___str__) (aCons (aVar 6) aNil)))) (aTest (aOp (eqX mt___eq__ isi nf false eqD) (aVar 6) (aC (.int 1))))))) (aRet (aC (.bl false))) aNext)
    (aSeq (aIfS (aTest (aOp (eqX mt___eq__ isi nf true neD) (aRefu 0 "law" tabx_InvalidWays "InvalidWays" "word" (aMethKW mt_but "but" ["unit"] (aVar 6) (aCons (aC (.int 3)) aNil))) (aC (.str "unit")))) (aRet (aC (.bl false))) aNext)
    (aSeq (aIfS (aTest (aOp (eqX mt___eq__ isi nf true neD) (aRefu 0 "law" tabx_InvalidWays "InvalidWays" "word" (aMethKW mt_but "but" ["case"] (aVar 6) (aCons (aC .non) aNil))) (aC (.str "case")))) (aRet (aC (.bl false))) aNext)
    (aSeq (aIfS (aTest (aOp (eqX mt___eq__ isi nf true neD) (aRefu 0 "law" tabx_InvalidWays "InvalidWays" "word" (aMethKW mt_but "but" ["halves", "empty"] (aVar 6) (aCons (aC (.str "x")) (aCons (aC (.str "kept")) aNil)))) (aC (.str "empty")))) (aRet (aC (.bl false))) aNext)
    (aIfS (aTest (aOp (eqX mt___eq__ isi nf true neD) (aRefu 0 "law" tabx_InvalidWays "InvalidWays" "word" (aMethKW mt_but "but" ["last"] (aVar 6) (aCons (aC (.int 0)) aNil))) (aC (.str "last")))) (aRet (aC (.bl false))) aNext)))))))))))))))
    (aRet (aC (.bl true))))
end K07

set_option Elab.async false
set_option linter.all false
set_option autoImplicit false
set_option maxRecDepth 100000
set_option maxHeartbeats 0
namespace K07
open PySem PySem.Spec PyProof.Rows L2 Fx
def top (i : Nat) : Stmt := PySem.Challenge.pw_sentparts_k07_ways_but_other_rules.main.body.getD i (.Pass ⟨0, 0, 0, 0⟩)
def free : List Str := [("abs" : Str), ("bool" : Str), ("dict" : Str), ("int" : Str), ("isinstance" : Str), ("len" : Str), ("max" : Str), ("min" : Str), ("range" : Str), ("str" : Str), ("super" : Str)]
def glo : List Str := [("InvalidWays" : Str), ("RULES" : Str), ("Ways" : Str), ("_law_box" : Str), ("_law_pick" : Str), ("_law_refusal" : Str), ("_law_rules" : Str), ("_law_take" : Str), ("_law_ways" : Str), ("is_integer" : Str), ("is_rule" : Str)]
def cons : List (Str × D) := []
abbrev TX (K : PySem.W.Frag) (w : World) (mg : Str → Option Value) : Prop := Tx K w mg tabs ct isi free glo cons
abbrev s__law_refusal : Stmt := top 18
abbrev s__law_box : Stmt := top 13
abbrev s_Ways_rules : Stmt := inClass (top 11) 2
abbrev s_is_integer : Stmt := top 6
abbrev s_is_rule : Stmt := top 10
abbrev s_Ways___init__ : Stmt := inClass (top 11) 0
abbrev s_Ways_but : Stmt := inClass (top 11) 3
abbrev s_Ways___eq__ : Stmt := inClass (top 11) 8
abbrev s__law_take : Stmt := top 14
abbrev s__law_pick : Stmt := top 15
abbrev s__law_rules : Stmt := top 16
abbrev s__law_ways : Stmt := top 17
abbrev s_Ways___str__ : Stmt := inClass (top 11) 9
abbrev s_law : Stmt := top 19
def fn : List He.DefD := [⟨("_law_box", none), "_law_box", "_law_box", defArgs s__law_box, defBody s__law_box, defScope s__law_box, [], []⟩,
  ⟨("Ways", some "rules"), "rules", "Ways.rules", defArgs s_Ways_rules, defBody s_Ways_rules, defScope s_Ways_rules, [], []⟩,
  ⟨("is_integer", none), "is_integer", "is_integer", defArgs s_is_integer, defBody s_is_integer, defScope s_is_integer, [], []⟩,
  ⟨("is_rule", none), "is_rule", "is_rule", defArgs s_is_rule, defBody s_is_rule, defScope s_is_rule, [], []⟩,
  ⟨("Ways", some "__init__"), "__init__", "Ways.__init__", defArgs s_Ways___init__, defBody s_Ways___init__, defScope s_Ways___init__, [.str "exact", .str "kept", .str "text", .str "unknown", .bl false, .int 1, .str "even"], []⟩,
  ⟨("Ways", some "but"), "but", "Ways.but", defArgs s_Ways_but, defBody s_Ways_but, defScope s_Ways_but, [], []⟩,
  ⟨("Ways", some "__eq__"), "__eq__", "Ways.__eq__", defArgs s_Ways___eq__, defBody s_Ways___eq__, defScope s_Ways___eq__, [], []⟩,
  ⟨("_law_take", none), "_law_take", "_law_take", defArgs s__law_take, defBody s__law_take, defScope s__law_take, [], []⟩,
  ⟨("_law_pick", none), "_law_pick", "_law_pick", defArgs s__law_pick, defBody s__law_pick, defScope s__law_pick, [], []⟩,
  ⟨("_law_rules", none), "_law_rules", "_law_rules", defArgs s__law_rules, defBody s__law_rules, defScope s__law_rules, [], []⟩,
  ⟨("_law_ways", none), "_law_ways", "_law_ways", defArgs s__law_ways, defBody s__law_ways, defScope s__law_ways, [], []⟩,
  ⟨("Ways", some "__str__"), "__str__", "Ways.__str__", defArgs s_Ways___str__, defBody s_Ways___str__, defScope s_Ways___str__, [], []⟩,
  ⟨("law", none), "law", "law", defArgs s_law, defBody s_law, defScope s_law, [], []⟩,
  ⟨("_law_refusal", none), "_law_refusal", "_law_refusal", defArgs s__law_refusal, defBody s__law_refusal, defScope s__law_refusal, [], []⟩]
def fa : List He.Fa := [.glo "InvalidWays", .glo "RULES", .glo "Ways", .glo "_law_box", .glo "_law_pick", .glo "_law_refusal", .glo "_law_rules", .glo "_law_take", .glo "_law_ways", .glo "is_integer", .glo "is_rule", .glo "law", .mkr "Ways", .meth "Ways" "rules", .meth "Ways" "but", .meth "Ways" "__eq__", .meth "Ways" "__str__"]
def ts : List He.Tab := [(fun K => He.ga K "RULES", ["case", "blanks", "empty", "lacking", "last", "unit", "halves"])]
def exB (K : PySem.W.Frag) : Bool := txB K tabs ct isi free glo cons && (supB PySem.Challenge.pw_sentparts_k07_ways_but_other_rules.main.file K "InvalidWays" "word" && (exmB K "InvalidWays" tabx_InvalidWays && (nfB K ["Ways"] nf && (neB K "Ways" && tabB1 K "law"))))
abbrev R : PySem.W.OpenRow := PySem.W.OpenLaw.row PySem.Challenge.rw_sentparts_k07_ways_but_other_rules
abbrev hk : PySem.W.Hook := Fx.hookY 4 fa fn ts [] exB
def ob (s : PySem.W.SharedT) : He.AlX := Fx.obsY 4 fa fn ts [] exB (HandSHeadRun.getT s)
theorem ob_eq (s : PySem.W.SharedT) : ob s = hk.obs s.abs := Fx.obsY_eq (HandSHeadRun.getT_eq s)
def others : List Str := [("_wall" : Str), ("__name__" : Str), ("PartError" : Str), ("InvalidWays" : Str), ("InvalidText" : Str), ("is_integer" : Str), ("RULES" : Str), ("UNITS" : Str), ("is_rule" : Str), ("Ways" : Str), ("_law_box" : Str), ("_law_take" : Str), ("_law_pick" : Str), ("_law_rules" : Str), ("_law_ways" : Str), ("_law_refusal" : Str)]
theorem run (w : World) : HandSHeadRun.RunEq R (PySem.W.view R.prog [19]) hk ob 6000 others w := by
  refine PySem.W.byRow2 "special-get-raises" (P := fun w => HandSHeadRun.RunEq R (PySem.W.view R.prog [19]) hk ob 6000 others w) ?_ ?_ w
  · intro w os
    kernel_rfl
  · intro w os
    kernel_rfl
end K07

set_option Elab.async false
set_option linter.all false
set_option autoImplicit false
set_option maxRecDepth 100000
set_option maxHeartbeats 2000000
namespace Fx
open PySem L2
section
variable {δ : Sta} {Ψ : SV → Sta → Prop} {Ξ : Xn → Sta → Prop} {e : AE}
theorem s_refu {c : Nat} {x : Str} {tab : List (XC × Bool)} {xn fld : Str} (hc : δ.ce[c]? = some (.tbl x)) (h : (e δ).sat (fun _ δ1 => ∃ ce2, cutTo δ.ce δ1.ce = some ce2 ∧ Ψ (.im .non) ⟨δ.sl, ce2⟩) (fun y δ1 => ∃ d ce2, y = ⟨.own xn, [(fld, .im d)]⟩ ∧ tab.lookup (.own xn) = some true ∧ cutTo δ.ce δ1.ce = some ce2 ∧ Ψ (.im d) ⟨δ.sl, ce2⟩)) : (aRefu c x tab xn fld e δ).sat Ψ Ξ := by
  unfold aRefu
  rw [hc]
  dsimp only
  rw [if_pos rfl]
  cases q : e δ with
  | bad => rw [q] at h; exact h.elim
  | ok s δ1 =>
    rw [q] at h
    obtain ⟨ce2, h1, h2⟩ := h
    dsimp only
    rw [h1]
    exact h2
  | ex y δ1 =>
    rw [q] at h
    obtain ⟨d, ce2, rfl, h1, h2, h3⟩ := h
    dsimp only
    rw [if_pos ⟨rfl, rfl, h1⟩, h2]
    exact h3
end
end Fx

set_option Elab.async false
set_option linter.all false
set_option autoImplicit false
set_option maxRecDepth 100000
set_option maxHeartbeats 2000000
namespace Ix
open PySem L2
@[irreducible] def aC := @Fx.aC
theorem aC_eq : @aC = @Fx.aC := by unfold aC; rfl
@[irreducible] def aVar := @Fx.aVar
theorem aVar_eq : @aVar = @Fx.aVar := by unfold aVar; rfl
@[irreducible] def aOp := @Fx.aOp
theorem aOp_eq : @aOp = @Fx.aOp := by unfold aOp; rfl
@[irreducible] def aNil := @Fx.aNil
theorem aNil_eq : @aNil = @Fx.aNil := by unfold aNil; rfl
@[irreducible] def aCons := @Fx.aCons
theorem aCons_eq : @aCons = @Fx.aCons := by unfold aCons; rfl
@[irreducible] def aTest := @Fx.aTest
theorem aTest_eq : @aTest = @Fx.aTest := by unfold aTest; rfl
@[irreducible] def aAnd := @Fx.aAnd
theorem aAnd_eq : @aAnd = @Fx.aAnd := by unfold aAnd; rfl
@[irreducible] def aOr := @Fx.aOr
theorem aOr_eq : @aOr = @Fx.aOr := by unfold aOr; rfl
@[irreducible] def aNot := @Fx.aNot
theorem aNot_eq : @aNot = @Fx.aNot := by unfold aNot; rfl
@[irreducible] def aYes := @Fx.aYes
theorem aYes_eq : @aYes = @Fx.aYes := by unfold aYes; rfl
@[irreducible] def aAndV := @Fx.aAndV
theorem aAndV_eq : @aAndV = @Fx.aAndV := by unfold aAndV; rfl
@[irreducible] def aOrV := @Fx.aOrV
theorem aOrV_eq : @aOrV = @Fx.aOrV := by unfold aOrV; rfl
@[irreducible] def aNotV := @Fx.aNotV
theorem aNotV_eq : @aNotV = @Fx.aNotV := by unfold aNotV; rfl
@[irreducible] def aNeg := @Fx.aNeg
theorem aNeg_eq : @aNeg = @Fx.aNeg := by unfold aNeg; rfl
@[irreducible] def aIf := @Fx.aIf
theorem aIf_eq : @aIf = @Fx.aIf := by unfold aIf; rfl
@[irreducible] def aChain := @Fx.aChain
theorem aChain_eq : @aChain = @Fx.aChain := by unfold aChain; rfl
@[irreducible] def aLst := @Fx.aLst
theorem aLst_eq : @aLst = @Fx.aLst := by unfold aLst; rfl
@[irreducible] def aLstC := @Fx.aLstC
theorem aLstC_eq : @aLstC = @Fx.aLstC := by unfold aLstC; rfl
@[irreducible] def aTup := @Fx.aTup
theorem aTup_eq : @aTup = @Fx.aTup := by unfold aTup; rfl
@[irreducible] def aCB := @Fx.aCB
theorem aCB_eq : @aCB = @Fx.aCB := by unfold aCB; rfl
@[irreducible] def aFld := @Fx.aFld
theorem aFld_eq : @aFld = @Fx.aFld := by unfold aFld; rfl
@[irreducible] def aCall := @Fx.aCall
theorem aCall_eq : @aCall = @Fx.aCall := by unfold aCall; rfl
@[irreducible] def aMake := @Fx.aMake
theorem aMake_eq : @aMake = @Fx.aMake := by unfold aMake; rfl
@[irreducible] def aMakeC := @Fx.aMakeC
theorem aMakeC_eq : @aMakeC = @Fx.aMakeC := by unfold aMakeC; rfl
@[irreducible] def aMeth := @Fx.aMeth
theorem aMeth_eq : @aMeth = @Fx.aMeth := by unfold aMeth; rfl
@[irreducible] def aBM := @Fx.aBM
theorem aBM_eq : @aBM = @Fx.aBM := by unfold aBM; rfl
@[irreducible] def aBM0 := @Fx.aBM0
theorem aBM0_eq : @aBM0 = @Fx.aBM0 := by unfold aBM0; rfl
@[irreducible] def aBMd := @Fx.aBMd
theorem aBMd_eq : @aBMd = @Fx.aBMd := by unfold aBMd; rfl
@[irreducible] def aSl := @Fx.aSl
theorem aSl_eq : @aSl = @Fx.aSl := by unfold aSl; rfl
@[irreducible] def aPart := @Fx.aPart
theorem aPart_eq : @aPart = @Fx.aPart := by unfold aPart; rfl
@[irreducible] def aNoPart := @Fx.aNoPart
theorem aNoPart_eq : @aNoPart = @Fx.aNoPart := by unfold aNoPart; rfl
@[irreducible] def aNext := @Fx.aNext
theorem aNext_eq : @aNext = @Fx.aNext := by unfold aNext; rfl
@[irreducible] def aSeq := @Fx.aSeq
theorem aSeq_eq : @aSeq = @Fx.aSeq := by unfold aSeq; rfl
@[irreducible] def aAsg := @Fx.aAsg
theorem aAsg_eq : @aAsg = @Fx.aAsg := by unfold aAsg; rfl
@[irreducible] def aRet := @Fx.aRet
theorem aRet_eq : @aRet = @Fx.aRet := by unfold aRet; rfl
@[irreducible] def aRetN := @Fx.aRetN
theorem aRetN_eq : @aRetN = @Fx.aRetN := by unfold aRetN; rfl
@[irreducible] def aExpr := @Fx.aExpr
theorem aExpr_eq : @aExpr = @Fx.aExpr := by unfold aExpr; rfl
@[irreducible] def aIfS := @Fx.aIfS
theorem aIfS_eq : @aIfS = @Fx.aIfS := by unfold aIfS; rfl
@[irreducible] def aPar := @Fx.aPar
theorem aPar_eq : @aPar = @Fx.aPar := by unfold aPar; rfl
@[irreducible] def aBreak := @Fx.aBreak
theorem aBreak_eq : @aBreak = @Fx.aBreak := by unfold aBreak; rfl
@[irreducible] def aCont := @Fx.aCont
theorem aCont_eq : @aCont = @Fx.aCont := by unfold aCont; rfl
@[irreducible] def aNever := @Fx.aNever
theorem aNever_eq : @aNever = @Fx.aNever := by unfold aNever; rfl
@[irreducible] def aDput := @Fx.aDput
theorem aDput_eq : @aDput = @Fx.aDput := by unfold aDput; rfl
@[irreducible] def aFor := @Fx.aFor
theorem aFor_eq : @aFor = @Fx.aFor := by unfold aFor; rfl
@[irreducible] def aForC := @Fx.aForC
theorem aForC_eq : @aForC = @Fx.aForC := by unfold aForC; rfl
@[irreducible] def aWhile := @Fx.aWhile
theorem aWhile_eq : @aWhile = @Fx.aWhile := by unfold aWhile; rfl
@[irreducible] def aIt := @Fx.aIt
theorem aIt_eq : @aIt = @Fx.aIt := by unfold aIt; rfl
@[irreducible] def aRg1 := @Fx.aRg1
theorem aRg1_eq : @aRg1 = @Fx.aRg1 := by unfold aRg1; rfl
@[irreducible] def aRg2 := @Fx.aRg2
theorem aRg2_eq : @aRg2 = @Fx.aRg2 := by unfold aRg2; rfl
@[irreducible] def aItems := @Fx.aItems
theorem aItems_eq : @aItems = @Fx.aItems := by unfold aItems; rfl
@[irreducible] def aLstRg := @Fx.aLstRg
theorem aLstRg_eq : @aLstRg = @Fx.aLstRg := by unfold aLstRg; rfl
@[irreducible] def aLc := @Fx.aLc
theorem aLc_eq : @aLc = @Fx.aLc := by unfold aLc; rfl
@[irreducible] def aDisp := @Fx.aDisp
theorem aDisp_eq : @aDisp = @Fx.aDisp := by unfold aDisp; rfl
@[irreducible] def aDispS := @Fx.aDispS
theorem aDispS_eq : @aDispS = @Fx.aDispS := by unfold aDispS; rfl
@[irreducible] def aDef := @Fx.aDef
theorem aDef_eq : @aDef = @Fx.aDef := by unfold aDef; rfl
@[irreducible] def aDefC := @Fx.aDefC
theorem aDefC_eq : @aDefC = @Fx.aDefC := by unfold aDefC; rfl
@[irreducible] def dOp := @Fx.dOp
theorem dOp_eq : @dOp = @Fx.dOp := by unfold dOp; rfl
@[irreducible] def addA := @Fx.addA
theorem addA_eq : @addA = @Fx.addA := by unfold addA; rfl
@[irreducible] def ixA := @Fx.ixA
theorem ixA_eq : @ixA = @Fx.ixA := by unfold ixA; rfl
@[irreducible] def dCB1 := @Fx.dCB1
theorem dCB1_eq : @dCB1 = @Fx.dCB1 := by unfold dCB1; rfl
@[irreducible] def dCB2 := @Fx.dCB2
theorem dCB2_eq : @dCB2 = @Fx.dCB2 := by unfold dCB2; rfl
@[irreducible] def dBM0 := @Fx.dBM0
theorem dBM0_eq : @dBM0 = @Fx.dBM0 := by unfold dBM0; rfl
@[irreducible] def dBM1 := @Fx.dBM1
theorem dBM1_eq : @dBM1 = @Fx.dBM1 := by unfold dBM1; rfl
@[irreducible] def isiA := @Fx.isiA
theorem isiA_eq : @isiA = @Fx.isiA := by unfold isiA; rfl
@[irreducible] def listA := @Fx.listA
theorem listA_eq : @listA = @Fx.listA := by unfold listA; rfl
@[irreducible] def listC := @Fx.listC
theorem listC_eq : @listC = @Fx.listC := by unfold listC; rfl
@[irreducible] def tupleA := @Fx.tupleA
theorem tupleA_eq : @tupleA = @Fx.tupleA := by unfold tupleA; rfl
@[irreducible] def dictC := @Fx.dictC
theorem dictC_eq : @dictC = @Fx.dictC := by unfold dictC; rfl
@[irreducible] def appendA := @Fx.appendA
theorem appendA_eq : @appendA = @Fx.appendA := by unfold appendA; rfl
@[irreducible] def updateA := @Fx.updateA
theorem updateA_eq : @updateA = @Fx.updateA := by unfold updateA; rfl
@[irreducible] def aDnew := @Fx.aDnew
theorem aDnew_eq : @aDnew = @Fx.aDnew := by unfold aDnew; rfl
@[irreducible] def pairsA := @Fx.pairsA
theorem pairsA_eq : @pairsA = @Fx.pairsA := by unfold pairsA; rfl
@[irreducible] def aMethKW := @Fx.aMethKW
theorem aMethKW_eq : @aMethKW = @Fx.aMethKW := by unfold aMethKW; rfl
@[irreducible] def aMakeKW := @Fx.aMakeKW
theorem aMakeKW_eq : @aMakeKW = @Fx.aMakeKW := by unfold aMakeKW; rfl
@[irreducible] def aRaise := @Fx.aRaise
theorem aRaise_eq : @aRaise = @Fx.aRaise := by unfold aRaise; rfl
@[irreducible] def aTry := @Fx.aTry
theorem aTry_eq : @aTry = @Fx.aTry := by unfold aTry; rfl
@[irreducible] def aXF := @Fx.aXF
theorem aXF_eq : @aXF = @Fx.aXF := by unfold aXF; rfl
@[irreducible] def isxA := @Fx.isxA
theorem isxA_eq : @isxA = @Fx.isxA := by unfold isxA; rfl
@[irreducible] def aZip := @Fx.aZip
theorem aZip_eq : @aZip = @Fx.aZip := by unfold aZip; rfl
@[irreducible] def aLcC := @Fx.aLcC
theorem aLcC_eq : @aLcC = @Fx.aLcC := by unfold aLcC; rfl
@[irreducible] def aCall0 := @Fx.aCall0
theorem aCall0_eq : @aCall0 = @Fx.aCall0 := by unfold aCall0; rfl
@[irreducible] def aMeth0 := @Fx.aMeth0
theorem aMeth0_eq : @aMeth0 = @Fx.aMeth0 := by unfold aMeth0; rfl
@[irreducible] def eqX := @Fx.eqX
theorem eqX_eq : @eqX = @Fx.eqX := by unfold eqX; rfl
@[irreducible] def strX := @Fx.strX
theorem strX_eq : @strX = @Fx.strX := by unfold strX; rfl
@[irreducible] def aCM := @Fx.aCM
theorem aCM_eq : @aCM = @Fx.aCM := by unfold aCM; rfl
@[irreducible] def aMakeL := @Fx.aMakeL
theorem aMakeL_eq : @aMakeL = @Fx.aMakeL := by unfold aMakeL; rfl
@[irreducible] def aTryF := @Fx.aTryF
theorem aTryF_eq : @aTryF = @Fx.aTryF := by unfold aTryF; rfl
@[irreducible] def aStar := @Fx.aStar
theorem aStar_eq : @aStar = @Fx.aStar := by unfold aStar; rfl
@[irreducible] def inG := @Fx.inG
theorem inG_eq : @inG = @Fx.inG := by unfold inG; rfl
@[irreducible] def popA := @Fx.popA
theorem popA_eq : @popA = @Fx.popA := by unfold popA; rfl
@[irreducible] def insertA := @Fx.insertA
theorem insertA_eq : @insertA = @Fx.insertA := by unfold insertA; rfl
@[irreducible] def splitC := @Fx.splitC
theorem splitC_eq : @splitC = @Fx.splitC := by unfold splitC; rfl
@[irreducible] def eqK := @Fx.eqK
theorem eqK_eq : @eqK = @Fx.eqK := by unfold eqK; rfl
@[irreducible] def aOwn := @Fx.aOwn
theorem aOwn_eq : @aOwn = @Fx.aOwn := by unfold aOwn; rfl
@[irreducible] def aAugO := @Fx.aAugO
theorem aAugO_eq : @aAugO = @Fx.aAugO := by unfold aAugO; rfl
@[irreducible] def isiT := @Fx.isiT
theorem isiT_eq : @isiT = @Fx.isiT := by unfold isiT; rfl
@[irreducible] def aRaise0 := @Fx.aRaise0
theorem aRaise0_eq : @aRaise0 = @Fx.aRaise0 := by unfold aRaise0; rfl
@[irreducible] def isxZ := @Fx.isxZ
theorem isxZ_eq : @isxZ = @Fx.isxZ := by unfold isxZ; rfl
@[irreducible] def aRev := @Fx.aRev
theorem aRev_eq : @aRev = @Fx.aRev := by unfold aRev; rfl
@[irreducible] def aZipM := @Fx.aZipM
theorem aZipM_eq : @aZipM = @Fx.aZipM := by unfold aZipM; rfl
@[irreducible] def aEnum := @Fx.aEnum
theorem aEnum_eq : @aEnum = @Fx.aEnum := by unfold aEnum; rfl
@[irreducible] def aFmt := @Fx.aFmt
theorem aFmt_eq : @aFmt = @Fx.aFmt := by unfold aFmt; rfl
@[irreducible] def aJoins := @Fx.aJoins
theorem aJoins_eq : @aJoins = @Fx.aJoins := by unfold aJoins; rfl
@[irreducible] def aFstr := @Fx.aFstr
theorem aFstr_eq : @aFstr = @Fx.aFstr := by unfold aFstr; rfl
@[irreducible] def aLcK := @Fx.aLcK
theorem aLcK_eq : @aLcK = @Fx.aLcK := by unfold aLcK; rfl
@[irreducible] def listB := @Fx.listB
theorem listB_eq : @listB = @Fx.listB := by unfold listB; rfl
@[irreducible] def aThaw := @Fx.aThaw
theorem aThaw_eq : @aThaw = @Fx.aThaw := by unfold aThaw; rfl
@[irreducible] def aLcV := @Fx.aLcV
theorem aLcV_eq : @aLcV = @Fx.aLcV := by unfold aLcV; rfl
@[irreducible] def mulA := @Fx.mulA
theorem mulA_eq : @mulA = @Fx.mulA := by unfold mulA; rfl
@[irreducible] def aRefu := @Fx.aRefu
theorem aRefu_eq : @aRefu = @Fx.aRefu := by unfold aRefu; rfl
end Ix
namespace Ix
open PySem L2
open Fx hiding aC aVar aOp aNil aCons aTest aAnd aOr aNot aYes aAndV aOrV aNotV aNeg aIf aChain aLst aLstC aTup aCB aFld aCall aMake aMakeC aMeth aBM aBM0 aBMd aSl aPart aNoPart aNext aSeq aAsg aRet aRetN aExpr aIfS aPar aBreak aCont aNever aDput aFor aForC aWhile aIt aRg1 aRg2 aItems aLstRg aLc aDisp aDispS aDef aDefC dOp addA ixA dCB1 dCB2 dBM0 dBM1 isiA listA listC tupleA dictC appendA updateA aDnew pairsA aMethKW aMakeKW aRaise aTry aXF isxA aZip aLcC aCall0 aMeth0 eqX strX aCM aMakeL aTryF aStar inG popA insertA splitC eqK aOwn aAugO isiT aRaise0 isxZ aRev aZipM aEnum aFmt aJoins aFstr aLcK listB aThaw aLcV mulA aRefu
local macro_rules | `(tactic| walk_at "ix") => `(tactic| simp only [aC_eq, aVar_eq, aOp_eq, aNil_eq, aCons_eq, aTest_eq, aAnd_eq, aOr_eq, aNot_eq, aYes_eq, aAndV_eq, aOrV_eq, aNotV_eq, aNeg_eq, aIf_eq, aChain_eq, aLst_eq, aLstC_eq, aTup_eq, aCB_eq, aFld_eq, aCall_eq, aMake_eq, aMakeC_eq, aMeth_eq, aBM_eq, aBM0_eq, aBMd_eq, aSl_eq, aPart_eq, aNoPart_eq, aNext_eq, aSeq_eq, aAsg_eq, aRet_eq, aRetN_eq, aExpr_eq, aIfS_eq, aPar_eq, aBreak_eq, aCont_eq, aNever_eq, aDput_eq, aFor_eq, aForC_eq, aWhile_eq, aIt_eq, aRg1_eq, aRg2_eq, aItems_eq, aLstRg_eq, aLc_eq, aDisp_eq, aDispS_eq, aDef_eq, aDefC_eq, dOp_eq, addA_eq, ixA_eq, dCB1_eq, dCB2_eq, dBM0_eq, dBM1_eq, isiA_eq, listA_eq, listC_eq, tupleA_eq, dictC_eq, appendA_eq, updateA_eq, aDnew_eq, pairsA_eq, aMethKW_eq, aMakeKW_eq, aRaise_eq, aTry_eq, aXF_eq, isxA_eq, aZip_eq, aLcC_eq, aCall0_eq, aMeth0_eq, eqX_eq, strX_eq, aCM_eq, aMakeL_eq, aTryF_eq, aStar_eq, inG_eq, popA_eq, insertA_eq, splitC_eq, eqK_eq, aOwn_eq, aAugO_eq, isiT_eq, aRaise0_eq, isxZ_eq, aRev_eq, aZipM_eq, aEnum_eq, aFmt_eq, aJoins_eq, aFstr_eq, aLcK_eq, listB_eq, aThaw_eq, aLcV_eq, mulA_eq, aRefu_eq])
section
variable {δ : Sta} {Ψ : SV → Sta → Prop} {Ξ : Xn → Sta → Prop} {Ψb : Bool → Sta → Prop} {Ψl : List SV → Sta → Prop} {Φ : Post} {a b c e : AE} {t u : AT} {r : AA} {p q : AS} {ss : List SV} {ce : List CO} {Ψf : SV → List CO → Prop} {Ξf : Xn → List CO → Prop} {n : Nat}
theorem s_c {d : D} (h : Ψ (.im d) δ) : (aC d δ).sat Ψ Ξ := by first | (walk_at "ix"; apply Fx.s_c <;> assumption) | (simp only [dOp_eq, pairsA_eq, aMake_eq] at h; walk_at "ix"; apply Fx.s_c <;> assumption) | (simp only [dCB1_eq, aJoins_eq, aFstr_eq, aFmt_eq] at h ⊢; apply Fx.s_c <;> assumption)
theorem s_var {i : Nat} {s : SV} (hs : δ.sl[i]? = some s) (hn : s ≠ .no) (h : Ψ (nrm δ.ce s) δ) : (aVar i δ).sat Ψ Ξ := by first | (walk_at "ix"; apply Fx.s_var <;> assumption) | (simp only [dOp_eq, pairsA_eq, aMake_eq] at h; walk_at "ix"; apply Fx.s_var <;> assumption) | (simp only [dCB1_eq, aJoins_eq, aFstr_eq, aFmt_eq] at h ⊢; apply Fx.s_var <;> assumption)
theorem s_varI {i : Nat} {d : D} (hs : δ.sl[i]? = some (.im d)) (h : Ψ (.im d) δ) : (aVar i δ).sat Ψ Ξ := by first | (walk_at "ix"; apply Fx.s_varI <;> assumption) | (simp only [dOp_eq, pairsA_eq, aMake_eq] at h; walk_at "ix"; apply Fx.s_varI <;> assumption) | (simp only [dCB1_eq, aJoins_eq, aFstr_eq, aFmt_eq] at h ⊢; apply Fx.s_varI <;> assumption)
theorem s_varC {i c : Nat} {s : SV} (hs : δ.sl[i]? = some (.cl c)) (hn : nrm δ.ce (.cl c) = s) (h : Ψ s δ) : (aVar i δ).sat Ψ Ξ := by first | (walk_at "ix"; apply Fx.s_varC <;> assumption) | (simp only [dOp_eq, pairsA_eq, aMake_eq] at h; walk_at "ix"; apply Fx.s_varC <;> assumption) | (simp only [dCB1_eq, aJoins_eq, aFstr_eq, aFmt_eq] at h ⊢; apply Fx.s_varC <;> assumption)
theorem s_op {o : AOp} (h : (a δ).sat (fun s δ1 => (b δ1).sat (fun t δ2 => (o s t δ2).sat Ψ Ξ) Ξ) Ξ) : (aOp o a b δ).sat Ψ Ξ := by first | (walk_at "ix"; apply Fx.s_op <;> assumption) | (simp only [dOp_eq, pairsA_eq, aMake_eq] at h; walk_at "ix"; apply Fx.s_op <;> assumption) | (simp only [dCB1_eq, aJoins_eq, aFstr_eq, aFmt_eq] at h ⊢; apply Fx.s_op <;> assumption)
theorem s_dop {f : D → D → Option D} {s t : SV} {x y d : D} (h1 : dv δ.ce s = some x) (h2 : dv δ.ce t = some y) (h3 : f x y = some d) (k : Ψ (.im d) δ) : (dOp f s t δ).sat Ψ Ξ := by first | (walk_at "ix"; apply Fx.s_dop <;> assumption) | (simp only [dOp_eq, pairsA_eq, aMake_eq] at h; walk_at "ix"; apply Fx.s_dop <;> assumption) | (simp only [dCB1_eq, aJoins_eq, aFstr_eq, aFmt_eq] at h ⊢; apply Fx.s_dop <;> assumption)
theorem s_nil (h : Ψl [] δ) : (aNil δ).sat Ψl Ξ := by first | (walk_at "ix"; apply Fx.s_nil <;> assumption) | (simp only [dOp_eq, pairsA_eq, aMake_eq] at h; walk_at "ix"; apply Fx.s_nil <;> assumption) | (simp only [dCB1_eq, aJoins_eq, aFstr_eq, aFmt_eq] at h ⊢; apply Fx.s_nil <;> assumption)
theorem s_cons (h : (a δ).sat (fun s δ1 => (r δ1).sat (fun ss δ2 => Ψl (s :: ss) δ2) Ξ) Ξ) : (aCons a r δ).sat Ψl Ξ := by first | (walk_at "ix"; apply Fx.s_cons <;> assumption) | (simp only [dOp_eq, pairsA_eq, aMake_eq] at h; walk_at "ix"; apply Fx.s_cons <;> assumption) | (simp only [dCB1_eq, aJoins_eq, aFstr_eq, aFmt_eq] at h ⊢; apply Fx.s_cons <;> assumption)
theorem s_test (h : (a δ).sat (fun s δ1 => ∃ b, dv δ1.ce s = some (.bl b) ∧ Ψb b δ1) Ξ) : (aTest a δ).sat Ψb Ξ := by first | (walk_at "ix"; apply Fx.s_test <;> assumption) | (simp only [dOp_eq, pairsA_eq, aMake_eq] at h; walk_at "ix"; apply Fx.s_test <;> assumption) | (simp only [dCB1_eq, aJoins_eq, aFstr_eq, aFmt_eq] at h ⊢; apply Fx.s_test <;> assumption)
theorem s_and (h : (t δ).sat (fun b δ1 => (b = true → (u δ1).sat Ψb Ξ) ∧ (b = false → Ψb false δ1)) Ξ) : (aAnd t u δ).sat Ψb Ξ := by first | (walk_at "ix"; apply Fx.s_and <;> assumption) | (simp only [dOp_eq, pairsA_eq, aMake_eq] at h; walk_at "ix"; apply Fx.s_and <;> assumption) | (simp only [dCB1_eq, aJoins_eq, aFstr_eq, aFmt_eq] at h ⊢; apply Fx.s_and <;> assumption)
theorem s_or (h : (t δ).sat (fun b δ1 => (b = true → Ψb true δ1) ∧ (b = false → (u δ1).sat Ψb Ξ)) Ξ) : (aOr t u δ).sat Ψb Ξ := by first | (walk_at "ix"; apply Fx.s_or <;> assumption) | (simp only [dOp_eq, pairsA_eq, aMake_eq] at h; walk_at "ix"; apply Fx.s_or <;> assumption) | (simp only [dCB1_eq, aJoins_eq, aFstr_eq, aFmt_eq] at h ⊢; apply Fx.s_or <;> assumption)
theorem s_not (h : (t δ).sat (fun b δ1 => Ψb (!b) δ1) Ξ) : (aNot t δ).sat Ψb Ξ := by first | (walk_at "ix"; apply Fx.s_not <;> assumption) | (simp only [dOp_eq, pairsA_eq, aMake_eq] at h; walk_at "ix"; apply Fx.s_not <;> assumption) | (simp only [dCB1_eq, aJoins_eq, aFstr_eq, aFmt_eq] at h ⊢; apply Fx.s_not <;> assumption)
theorem s_yes (h : Ψb true δ) : (aYes δ).sat Ψb Ξ := by first | (walk_at "ix"; apply Fx.s_yes <;> assumption) | (simp only [dOp_eq, pairsA_eq, aMake_eq] at h; walk_at "ix"; apply Fx.s_yes <;> assumption) | (simp only [dCB1_eq, aJoins_eq, aFstr_eq, aFmt_eq] at h ⊢; apply Fx.s_yes <;> assumption)
theorem s_andV (h : (a δ).sat (fun s δ1 => ∃ c, dv δ1.ce s = some (.bl c) ∧ (c = true → (b δ1).sat Ψ Ξ) ∧ (c = false → Ψ (.im (.bl false)) δ1)) Ξ) : (aAndV a b δ).sat Ψ Ξ := by first | (walk_at "ix"; apply Fx.s_andV <;> assumption) | (simp only [dOp_eq, pairsA_eq, aMake_eq] at h; walk_at "ix"; apply Fx.s_andV <;> assumption) | (simp only [dCB1_eq, aJoins_eq, aFstr_eq, aFmt_eq] at h ⊢; apply Fx.s_andV <;> assumption)
theorem s_orV (h : (a δ).sat (fun s δ1 => ∃ c, dv δ1.ce s = some (.bl c) ∧ (c = true → Ψ (.im (.bl true)) δ1) ∧ (c = false → (b δ1).sat Ψ Ξ)) Ξ) : (aOrV a b δ).sat Ψ Ξ := by first | (walk_at "ix"; apply Fx.s_orV <;> assumption) | (simp only [dOp_eq, pairsA_eq, aMake_eq] at h; walk_at "ix"; apply Fx.s_orV <;> assumption) | (simp only [dCB1_eq, aJoins_eq, aFstr_eq, aFmt_eq] at h ⊢; apply Fx.s_orV <;> assumption)
theorem s_notV (h : (a δ).sat (fun s δ1 => ∃ c, dv δ1.ce s = some (.bl c) ∧ Ψ (.im (.bl (!c))) δ1) Ξ) : (aNotV a δ).sat Ψ Ξ := by first | (walk_at "ix"; apply Fx.s_notV <;> assumption) | (simp only [dOp_eq, pairsA_eq, aMake_eq] at h; walk_at "ix"; apply Fx.s_notV <;> assumption) | (simp only [dCB1_eq, aJoins_eq, aFstr_eq, aFmt_eq] at h ⊢; apply Fx.s_notV <;> assumption)
theorem s_neg (h : (a δ).sat (fun s δ1 => ∃ i, dv δ1.ce s = some (.int i) ∧ Ψ (.im (.int (-i))) δ1) Ξ) : (aNeg a δ).sat Ψ Ξ := by first | (walk_at "ix"; apply Fx.s_neg <;> assumption) | (simp only [dOp_eq, pairsA_eq, aMake_eq] at h; walk_at "ix"; apply Fx.s_neg <;> assumption) | (simp only [dCB1_eq, aJoins_eq, aFstr_eq, aFmt_eq] at h ⊢; apply Fx.s_neg <;> assumption)
theorem s_if (h : (t δ).sat (fun c δ1 => (c = true → (a δ1).sat Ψ Ξ) ∧ (c = false → (b δ1).sat Ψ Ξ)) Ξ) : (aIf t a b δ).sat Ψ Ξ := by first | (walk_at "ix"; apply Fx.s_if <;> assumption) | (simp only [dOp_eq, pairsA_eq, aMake_eq] at h; walk_at "ix"; apply Fx.s_if <;> assumption) | (simp only [dCB1_eq, aJoins_eq, aFstr_eq, aFmt_eq] at h ⊢; apply Fx.s_if <;> assumption)
theorem s_lst (h : (r δ).sat (fun ss δ1 => ss.length ≤ 1000 ∧ ∃ ds, imL δ1.ce ss = some ds ∧ Ψ (.im (.lst ds)) δ1) Ξ) : (aLst r δ).sat Ψ Ξ := by first | (walk_at "ix"; apply Fx.s_lst <;> assumption) | (simp only [dOp_eq, pairsA_eq, aMake_eq] at h; walk_at "ix"; apply Fx.s_lst <;> assumption) | (simp only [dCB1_eq, aJoins_eq, aFstr_eq, aFmt_eq] at h ⊢; apply Fx.s_lst <;> assumption)
theorem s_lstC (h : (r δ).sat (fun ss δ1 => ss.length ≤ 1000 ∧ Ψ (.cl δ1.ce.length) ⟨δ1.sl, δ1.ce ++ [.lst ss]⟩) Ξ) : (aLstC r δ).sat Ψ Ξ := by first | (walk_at "ix"; apply Fx.s_lstC <;> assumption) | (simp only [dOp_eq, pairsA_eq, aMake_eq] at h; walk_at "ix"; apply Fx.s_lstC <;> assumption) | (simp only [dCB1_eq, aJoins_eq, aFstr_eq, aFmt_eq] at h ⊢; apply Fx.s_lstC <;> assumption)
theorem s_tup (h : (r δ).sat (fun ss δ1 => ss.length ≤ 1000 ∧ ∃ ds, imL δ1.ce ss = some ds ∧ Ψ (.im (.tup ds)) δ1) Ξ) : (aTup r δ).sat Ψ Ξ := by first | (walk_at "ix"; apply Fx.s_tup <;> assumption) | (simp only [dOp_eq, pairsA_eq, aMake_eq] at h; walk_at "ix"; apply Fx.s_tup <;> assumption) | (simp only [dCB1_eq, aJoins_eq, aFstr_eq, aFmt_eq] at h ⊢; apply Fx.s_tup <;> assumption)
theorem s_cb {f : ACB} (h : (r δ).sat (fun ss δ1 => (f ss δ1).sat Ψ Ξ) Ξ) : (aCB f r δ).sat Ψ Ξ := by first | (walk_at "ix"; apply Fx.s_cb <;> assumption) | (simp only [dOp_eq, pairsA_eq, aMake_eq] at h; walk_at "ix"; apply Fx.s_cb <;> assumption) | (simp only [dCB1_eq, aJoins_eq, aFstr_eq, aFmt_eq] at h ⊢; apply Fx.s_cb <;> assumption)
theorem s_cb1 {f : D → Option D} {s : SV} {x d : D} (h1 : dv δ.ce s = some x) (h2 : f x = some d) (k : Ψ (.im d) δ) : (dCB1 f [s] δ).sat Ψ Ξ := by first | (walk_at "ix"; apply Fx.s_cb1 <;> assumption) | (simp only [dOp_eq, pairsA_eq, aMake_eq] at h; walk_at "ix"; apply Fx.s_cb1 <;> assumption) | (simp only [dCB1_eq, aJoins_eq, aFstr_eq, aFmt_eq] at h ⊢; apply Fx.s_cb1 <;> assumption)
theorem s_cb2 {f : D → D → Option D} {s t : SV} (h : (dOp f s t δ).sat Ψ Ξ) : (dCB2 f [s, t] δ).sat Ψ Ξ := by first | (walk_at "ix"; apply Fx.s_cb2 <;> assumption) | (simp only [dOp_eq, pairsA_eq, aMake_eq] at h; walk_at "ix"; apply Fx.s_cb2 <;> assumption) | (simp only [dCB1_eq, aJoins_eq, aFstr_eq, aFmt_eq] at h ⊢; apply Fx.s_cb2 <;> assumption)
theorem s_fld {ct : CT} {f : Str} (h : (a δ).sat (fun s δ1 => ∃ C fs d, s = .im (.ins C fs) ∧ fs.lookup f = some d ∧ ct.has C f = true ∧ Ψ (.im d) δ1) Ξ) : (aFld ct a f δ).sat Ψ Ξ := by first | (walk_at "ix"; apply Fx.s_fld <;> assumption) | (simp only [dOp_eq, pairsA_eq, aMake_eq] at h; walk_at "ix"; apply Fx.s_fld <;> assumption) | (simp only [dCB1_eq, aJoins_eq, aFstr_eq, aFmt_eq] at h ⊢; apply Fx.s_fld <;> assumption)
theorem s_call {n : Nat} {F : Fn} {dds : List D} (h : (r δ).sat (fun ss δ1 => (ss ++ dds.map SV.im).length = n ∧ (F (ss ++ dds.map SV.im) δ1.ce).sat (fun s ce => Ψ s ⟨δ1.sl, ce⟩) (fun x ce => Ξ x ⟨δ1.sl, ce⟩)) Ξ) : (aCall n F dds r δ).sat Ψ Ξ := by first | (walk_at "ix"; apply Fx.s_call <;> assumption) | (simp only [dOp_eq, pairsA_eq, aMake_eq] at h; walk_at "ix"; apply Fx.s_call <;> assumption) | (simp only [dCB1_eq, aJoins_eq, aFstr_eq, aFmt_eq] at h ⊢; apply Fx.s_call <;> assumption)
theorem s_meth {tab : MTab} {m : Str} (h : (a δ).sat (fun s δ1 => ∃ C n F, clsS δ1 m s = some C ∧ tab.lookup C = some (n, F) ∧ (r δ1).sat (fun ss δ2 => (s :: ss).length = n ∧ (F (s :: ss) δ2.ce).sat (fun s ce => Ψ s ⟨δ2.sl, ce⟩) (fun x ce => Ξ x ⟨δ2.sl, ce⟩)) Ξ) Ξ) : (aMeth tab m a r δ).sat Ψ Ξ := by first | (walk_at "ix"; apply Fx.s_meth <;> assumption) | (simp only [dOp_eq, pairsA_eq, aMake_eq] at h; walk_at "ix"; apply Fx.s_meth <;> assumption) | (simp only [dCB1_eq, aJoins_eq, aFstr_eq, aFmt_eq] at h ⊢; apply Fx.s_meth <;> assumption)
theorem s_bm {T : String} {f : ABM} (h : (a δ).sat (fun s δ1 => tyS T δ1 s = true ∧ (r δ1).sat (fun ss δ2 => (f s ss δ2).sat Ψ Ξ) Ξ) Ξ) : (aBM T f a r δ).sat Ψ Ξ := by first | (walk_at "ix"; apply Fx.s_bm <;> assumption) | (simp only [dOp_eq, pairsA_eq, aMake_eq] at h; walk_at "ix"; apply Fx.s_bm <;> assumption) | (simp only [dCB1_eq, aJoins_eq, aFstr_eq, aFmt_eq] at h ⊢; apply Fx.s_bm <;> assumption)
theorem s_bm0 {T : String} {f : ABM} (h : (a δ).sat (fun s δ1 => tyS T δ1 s = true ∧ (f s [] δ1).sat Ψ Ξ) Ξ) : (aBM0 T f a δ).sat Ψ Ξ := by first | (walk_at "ix"; apply Fx.s_bm0 <;> assumption) | (simp only [dOp_eq, pairsA_eq, aMake_eq] at h; walk_at "ix"; apply Fx.s_bm0 <;> assumption) | (simp only [dCB1_eq, aJoins_eq, aFstr_eq, aFmt_eq] at h ⊢; apply Fx.s_bm0 <;> assumption)
theorem s_bm1 {f : D → D → Option D} {s t : SV} (h : (dOp f s t δ).sat Ψ Ξ) : (dBM1 f s [t] δ).sat Ψ Ξ := by first | (walk_at "ix"; apply Fx.s_bm1 <;> assumption) | (simp only [dOp_eq, pairsA_eq, aMake_eq] at h; walk_at "ix"; apply Fx.s_bm1 <;> assumption) | (simp only [dCB1_eq, aJoins_eq, aFstr_eq, aFmt_eq] at h ⊢; apply Fx.s_bm1 <;> assumption)
theorem s_bmz {f : D → Option D} {s : SV} {x d : D} (h1 : dv δ.ce s = some x) (h2 : f x = some d) (k : Ψ (.im d) δ) : (dBM0 f s [] δ).sat Ψ Ξ := by first | (walk_at "ix"; apply Fx.s_bmz <;> assumption) | (simp only [dOp_eq, pairsA_eq, aMake_eq] at h; walk_at "ix"; apply Fx.s_bmz <;> assumption) | (simp only [dCB1_eq, aJoins_eq, aFstr_eq, aFmt_eq] at h ⊢; apply Fx.s_bmz <;> assumption)
theorem s_isi {isi : Isi} {s t : SV} {k c : XC} {d : D} {b : Bool} (h1 : kindS δ s = some k) (h2 : dv δ.ce t = some d) (h3 : clsD d = some c) (h4 : isi.lookup (k, c) = some b) (h : Ψ (.im (.bl b)) δ) : (isiA isi [s, t] δ).sat Ψ Ξ := by first | (walk_at "ix"; apply Fx.s_isi <;> assumption) | (simp only [dOp_eq, pairsA_eq, aMake_eq] at h; walk_at "ix"; apply Fx.s_isi <;> assumption) | (simp only [dCB1_eq, aJoins_eq, aFstr_eq, aFmt_eq] at h ⊢; apply Fx.s_isi <;> assumption)
theorem s_sl {lo hi : AO} (h : (a δ).sat (fun s δ1 => (lo δ1).sat (fun l δ2 => (hi δ2).sat (fun k δ3 => ∃ x d, dv δ3.ce s = some x ∧ slD x l k = some d ∧ (∀ ds, x ≠ .tup ds) ∧ Ψ (.im d) δ3) Ξ) Ξ) Ξ) : (aSl a lo hi δ).sat Ψ Ξ := by first | (walk_at "ix"; apply Fx.s_sl <;> assumption) | (simp only [dOp_eq, pairsA_eq, aMake_eq] at h; walk_at "ix"; apply Fx.s_sl <;> assumption) | (simp only [dCB1_eq, aJoins_eq, aFstr_eq, aFmt_eq] at h ⊢; apply Fx.s_sl <;> assumption)
theorem s_nopart {Ψo : Option Int → Sta → Prop} (h : Ψo none δ) : (aNoPart δ).sat Ψo Ξ := by first | (walk_at "ix"; apply Fx.s_nopart <;> assumption) | (simp only [dOp_eq, pairsA_eq, aMake_eq] at h; walk_at "ix"; apply Fx.s_nopart <;> assumption) | (simp only [dCB1_eq, aJoins_eq, aFstr_eq, aFmt_eq] at h ⊢; apply Fx.s_nopart <;> assumption)
theorem s_part {Ψo : Option Int → Sta → Prop} (h : (a δ).sat (fun s δ1 => ∃ i, dv δ1.ce s = some (.int i) ∧ Ψo (some i) δ1) Ξ) : (aPart a δ).sat Ψo Ξ := by first | (walk_at "ix"; apply Fx.s_part <;> assumption) | (simp only [dOp_eq, pairsA_eq, aMake_eq] at h; walk_at "ix"; apply Fx.s_part <;> assumption) | (simp only [dCB1_eq, aJoins_eq, aFstr_eq, aFmt_eq] at h ⊢; apply Fx.s_part <;> assumption)
theorem s_next (h : Φ.nx δ) : (aNext δ).sat Φ := by first | (walk_at "ix"; apply Fx.s_next <;> assumption) | (simp only [dOp_eq, pairsA_eq, aMake_eq] at h; walk_at "ix"; apply Fx.s_next <;> assumption) | (simp only [dCB1_eq, aJoins_eq, aFstr_eq, aFmt_eq] at h ⊢; apply Fx.s_next <;> assumption)
theorem s_seq (h : (p δ).sat { Φ with nx := fun δ1 => (q δ1).sat Φ }) : (aSeq p q δ).sat Φ := by first | (walk_at "ix"; apply Fx.s_seq <;> assumption) | (simp only [dOp_eq, pairsA_eq, aMake_eq] at h; walk_at "ix"; apply Fx.s_seq <;> assumption) | (simp only [dCB1_eq, aJoins_eq, aFstr_eq, aFmt_eq] at h ⊢; apply Fx.s_seq <;> assumption)
theorem s_asg {g : AG} (h : (e δ).sat (fun s δ1 => ∃ δ2, g s δ1 = some δ2 ∧ Φ.nx δ2) Φ.ex) : (aAsg e g δ).sat Φ := by first | (walk_at "ix"; apply Fx.s_asg <;> assumption) | (simp only [dOp_eq, pairsA_eq, aMake_eq] at h; walk_at "ix"; apply Fx.s_asg <;> assumption) | (simp only [dCB1_eq, aJoins_eq, aFstr_eq, aFmt_eq] at h ⊢; apply Fx.s_asg <;> assumption)
theorem s_set {i : Nat} (h : (e δ).sat (fun s δ1 => Φ.nx ⟨δ1.sl.set i s, δ1.ce⟩) Φ.ex) : (aAsg e (gNm i) δ).sat Φ := by first | (walk_at "ix"; apply Fx.s_set <;> assumption) | (simp only [dOp_eq, pairsA_eq, aMake_eq] at h; walk_at "ix"; apply Fx.s_set <;> assumption) | (simp only [dCB1_eq, aJoins_eq, aFstr_eq, aFmt_eq] at h ⊢; apply Fx.s_set <;> assumption)
theorem s_ret (h : (e δ).sat Φ.rt Φ.ex) : (aRet e δ).sat Φ := by first | (walk_at "ix"; apply Fx.s_ret <;> assumption) | (simp only [dOp_eq, pairsA_eq, aMake_eq] at h; walk_at "ix"; apply Fx.s_ret <;> assumption) | (simp only [dCB1_eq, aJoins_eq, aFstr_eq, aFmt_eq] at h ⊢; apply Fx.s_ret <;> assumption)
theorem s_retN (h : Φ.rt (.im .non) δ) : (aRetN δ).sat Φ := by first | (walk_at "ix"; apply Fx.s_retN <;> assumption) | (simp only [dOp_eq, pairsA_eq, aMake_eq] at h; walk_at "ix"; apply Fx.s_retN <;> assumption) | (simp only [dCB1_eq, aJoins_eq, aFstr_eq, aFmt_eq] at h ⊢; apply Fx.s_retN <;> assumption)
theorem s_expr (h : (e δ).sat (fun _ δ1 => Φ.nx δ1) Φ.ex) : (aExpr e δ).sat Φ := by first | (walk_at "ix"; apply Fx.s_expr <;> assumption) | (simp only [dOp_eq, pairsA_eq, aMake_eq] at h; walk_at "ix"; apply Fx.s_expr <;> assumption) | (simp only [dCB1_eq, aJoins_eq, aFstr_eq, aFmt_eq] at h ⊢; apply Fx.s_expr <;> assumption)
theorem s_ifS (h : (t δ).sat (fun c δ1 => (c = true → (p δ1).sat Φ) ∧ (c = false → (q δ1).sat Φ)) Φ.ex) : (aIfS t p q δ).sat Φ := by first | (walk_at "ix"; apply Fx.s_ifS <;> assumption) | (simp only [dOp_eq, pairsA_eq, aMake_eq] at h; walk_at "ix"; apply Fx.s_ifS <;> assumption) | (simp only [dCB1_eq, aJoins_eq, aFstr_eq, aFmt_eq] at h ⊢; apply Fx.s_ifS <;> assumption)
theorem s_par {i j : Nat} (h : (r δ).sat (fun ss δ1 => ∃ s t, ss = [s, t] ∧ Φ.nx ⟨(δ1.sl.set i s).set j t, δ1.ce⟩) Φ.ex) : (aPar i j r δ).sat Φ := by first | (walk_at "ix"; apply Fx.s_par <;> assumption) | (simp only [dOp_eq, pairsA_eq, aMake_eq] at h; walk_at "ix"; apply Fx.s_par <;> assumption) | (simp only [dCB1_eq, aJoins_eq, aFstr_eq, aFmt_eq] at h ⊢; apply Fx.s_par <;> assumption)
theorem s_dput {d k v : AE} (h : (v δ).sat (fun s δ1 => (d δ1).sat (fun z δ2 => ∃ c, z = .cl c ∧ (k δ2).sat (fun y δ3 => ∃ kvs kd kk, δ3.ce[c]? = some (.dic kvs) ∧ dv δ3.ce y = some kd ∧ keyOf kd = some kk ∧ kvs.length < 1000 ∧ Φ.nx ⟨δ3.sl, δ3.ce.set c (.dic (putS kvs kk s))⟩) Φ.ex) Φ.ex) Φ.ex) : (aDput d k v δ).sat Φ := by first | (walk_at "ix"; apply Fx.s_dput <;> assumption) | (simp only [dOp_eq, pairsA_eq, aMake_eq] at h; walk_at "ix"; apply Fx.s_dput <;> assumption) | (simp only [dCB1_eq, aJoins_eq, aFstr_eq, aFmt_eq] at h ⊢; apply Fx.s_dput <;> assumption)
theorem s_pairs0 {Ψp : List (Key × SV) → Sta → Prop} (h : Ψp [] δ) : (pairsA [] δ).sat Ψp Ξ := by first | (walk_at "ix"; apply Fx.s_pairs0 <;> assumption) | (simp only [dOp_eq, pairsA_eq, aMake_eq] at h; walk_at "ix"; apply Fx.s_pairs0 <;> assumption) | (simp only [dCB1_eq, aJoins_eq, aFstr_eq, aFmt_eq] at h ⊢; apply Fx.s_pairs0 <;> assumption)
theorem s_pairs {Ψp : List (Key × SV) → Sta → Prop} {k v : AE} {l : List (AE × AE)} (h : (k δ).sat (fun s δ1 => (v δ1).sat (fun t δ2 => (pairsA l δ2).sat (fun ps δ3 => ∃ kd kk, imS δ3.ce s = some kd ∧ keyOf kd = some kk ∧ Ψp ((kk, t) :: ps) δ3) Ξ) Ξ) Ξ) : (pairsA ((k, v) :: l) δ).sat Ψp Ξ := by first | (walk_at "ix"; apply Fx.s_pairs <;> assumption) | (simp only [dOp_eq, pairsA_eq, aMake_eq] at h; walk_at "ix"; apply Fx.s_pairs <;> assumption) | (simp only [dCB1_eq, aJoins_eq, aFstr_eq, aFmt_eq] at h ⊢; apply Fx.s_pairs <;> assumption)
theorem s_disp {l : List (AE × AE)} (h : (pairsA l ⟨δ.sl, δ.ce ++ [.dic []]⟩).sat (fun kvs δ1 => δ1.ce[δ.ce.length]? = some (.dic []) ∧ kvs.length ≤ 15 ∧ Ψ (.cl δ.ce.length) ⟨δ1.sl, δ1.ce.set δ.ce.length (.dic (mergeS [] kvs))⟩) Ξ) : (aDisp l δ).sat Ψ Ξ := by first | (walk_at "ix"; apply Fx.s_disp <;> assumption) | (simp only [dOp_eq, pairsA_eq, aMake_eq] at h; walk_at "ix"; apply Fx.s_disp <;> assumption) | (simp only [dCB1_eq, aJoins_eq, aFstr_eq, aFmt_eq] at h ⊢; apply Fx.s_disp <;> assumption)
theorem s_rg1 {Ψi : List D → Sta → Prop} (h : (r δ).sat (fun ss δ1 => ∃ s n, ss = [s] ∧ dv δ1.ce s = some (.int n) ∧ (-1000000000 ≤ n ∧ n ≤ 1000000000) ∧ Ψi (rgD 0 n.toNat) δ1) Ξ) : (aRg1 r δ).sat Ψi Ξ := by first | (walk_at "ix"; apply Fx.s_rg1 <;> assumption) | (simp only [dOp_eq, pairsA_eq, aMake_eq] at h; walk_at "ix"; apply Fx.s_rg1 <;> assumption) | (simp only [dCB1_eq, aJoins_eq, aFstr_eq, aFmt_eq] at h ⊢; apply Fx.s_rg1 <;> assumption)
theorem s_rg2 {Ψi : List D → Sta → Prop} (h : (r δ).sat (fun ss δ1 => ∃ s t n m, ss = [s, t] ∧ dv δ1.ce s = some (.int n) ∧ dv δ1.ce t = some (.int m) ∧ ((-1000000000 ≤ n ∧ n ≤ 1000000000) ∧ (-1000000000 ≤ m ∧ m ≤ 1000000000)) ∧ Ψi (rgD n (m - n).toNat) δ1) Ξ) : (aRg2 r δ).sat Ψi Ξ := by first | (walk_at "ix"; apply Fx.s_rg2 <;> assumption) | (simp only [dOp_eq, pairsA_eq, aMake_eq] at h; walk_at "ix"; apply Fx.s_rg2 <;> assumption) | (simp only [dCB1_eq, aJoins_eq, aFstr_eq, aFmt_eq] at h ⊢; apply Fx.s_rg2 <;> assumption)
theorem s_it {Ψi : List D → Sta → Prop} (h : (a δ).sat (fun s δ1 => ∃ d ds, s = .im d ∧ itD d = some ds ∧ Ψi ds δ1) Ξ) : (aIt a δ).sat Ψi Ξ := by first | (walk_at "ix"; apply Fx.s_it <;> assumption) | (simp only [dOp_eq, pairsA_eq, aMake_eq] at h; walk_at "ix"; apply Fx.s_it <;> assumption) | (simp only [dCB1_eq, aJoins_eq, aFstr_eq, aFmt_eq] at h ⊢; apply Fx.s_it <;> assumption)
theorem s_for {it : AI} {g : AG} (J : Sta → Prop) (h : (it δ).sat (fun ds δ1 => J δ1 ∧ ∀ d ∈ ds, ∀ δ, J δ → ∃ δ', g (.im d) δ = some δ' ∧ (p δ').sat { Φ with nx := J, ct := J, bk := Φ.nx }) Φ.ex) (h2 : ∀ δ, J δ → Φ.nx δ) : (aFor it g p δ).sat Φ := by first | (walk_at "ix"; apply Fx.s_for <;> assumption) | (simp only [dOp_eq, pairsA_eq, aMake_eq] at h; walk_at "ix"; apply Fx.s_for <;> assumption) | (simp only [dCB1_eq, aJoins_eq, aFstr_eq, aFmt_eq] at h ⊢; apply Fx.s_for <;> assumption)
theorem s_forC {it : AI} {g : AG} (J : Sta → Prop) (h : (it δ).sat (fun ds δ1 => J δ1 ∧ ∀ d ∈ ds, ∀ δ, J δ → ∃ δ', g (.im d) δ = some δ' ∧ (p δ').sat { Φ with nx := fun δ2 => J (cutTurn δ1.ce δ2), ct := fun δ2 => J (cutTurn δ1.ce δ2), bk := Φ.nx }) Φ.ex) (h2 : ∀ δ, J δ → Φ.nx δ) : (aForC it g p δ).sat Φ := by first | (walk_at "ix"; apply Fx.s_forC <;> assumption) | (simp only [dOp_eq, pairsA_eq, aMake_eq] at h; walk_at "ix"; apply Fx.s_forC <;> assumption) | (simp only [dCB1_eq, aJoins_eq, aFstr_eq, aFmt_eq] at h ⊢; apply Fx.s_forC <;> assumption)
theorem s_lc {it : AI} {g : AG} {vs : List Nat} (J : List D → List CO → Prop) (h : (it δ).sat (fun ds δ1 => ds.length ≤ 100000 ∧ J [] δ1.ce ∧ (∀ d ∈ ds, ∀ acc ce, J acc ce → ∃ δ2, g (.im d) ⟨wipeS δ1.sl vs, ce⟩ = some δ2 ∧ (t δ2).sat (fun b δ2 => (b = true → (e δ2).sat (fun s δ3 => ∃ y ce3, toIm δ3.ce s = some (y, ce3) ∧ J (acc ++ [y]) (cutOr ce ce3)) fun _ _ => False) ∧ (b = false → J acc (cutOr ce δ2.ce))) fun _ _ => False) ∧ ∀ acc ce, J acc ce → acc.length ≤ ds.length → Ψ (.im (.lst acc)) ⟨δ1.sl, ce⟩) Ξ) : (aLc it g t e vs δ).sat Ψ Ξ := by first | (walk_at "ix"; apply Fx.s_lc <;> assumption) | (simp only [dOp_eq, pairsA_eq, aMake_eq] at h; walk_at "ix"; apply Fx.s_lc <;> assumption) | (simp only [dCB1_eq, aJoins_eq, aFstr_eq, aFmt_eq] at h ⊢; apply Fx.s_lc <;> assumption)
theorem s_def (h : (p ⟨ss ++ List.replicate (n - ss.length) .no, ce⟩).sat (defP ce Ψf Ξf)) : (aDef n p ss ce).sat Ψf Ξf := by first | (walk_at "ix"; apply Fx.s_def <;> assumption) | (simp only [dOp_eq, pairsA_eq, aMake_eq] at h; walk_at "ix"; apply Fx.s_def <;> assumption) | (simp only [dCB1_eq, aJoins_eq, aFstr_eq, aFmt_eq] at h ⊢; apply Fx.s_def <;> assumption)
theorem s_defC (h : (p ⟨ss ++ List.replicate (n - ss.length) .no, ce⟩).sat (defPC ce Ψf Ξf)) : (aDefC n p ss ce).sat Ψf Ξf := by first | (walk_at "ix"; apply Fx.s_defC <;> assumption) | (simp only [dOp_eq, pairsA_eq, aMake_eq] at h; walk_at "ix"; apply Fx.s_defC <;> assumption) | (simp only [dCB1_eq, aJoins_eq, aFstr_eq, aFmt_eq] at h ⊢; apply Fx.s_defC <;> assumption)
theorem s_make {x : Str} {F : Fn} {dds : List D} (h : (r δ).sat (fun ss δ1 => (SV.cl δ1.ce.length :: (ss ++ dds.map SV.im)).length = n ∧ ∃ ce, F (.cl δ1.ce.length :: (ss ++ dds.map SV.im)) (δ1.ce ++ [.ins x []]) = .ok (.im .non) ce ∧ ∃ d ce1 ce2, frz ce δ1.ce.length = some (d, ce1) ∧ cutTo δ1.ce ce1 = some ce2 ∧ Ψ (.im d) ⟨δ1.sl, ce2⟩) Ξ) : (aMake x n F dds r δ).sat Ψ Ξ := by first | (walk_at "ix"; apply Fx.s_make <;> assumption) | (simp only [dOp_eq, pairsA_eq, aMake_eq] at h; walk_at "ix"; apply Fx.s_make <;> assumption) | (simp only [dCB1_eq, aJoins_eq, aFstr_eq, aFmt_eq] at h ⊢; apply Fx.s_make <;> assumption)
theorem s_varB {i c : Nat} (hs : δ.sl[i]? = some (.cl c)) (hn : notFz δ.ce c = true) (h : Ψ (.cl c) δ) : (aVar i δ).sat Ψ Ξ := by first | (walk_at "ix"; apply Fx.s_varB <;> assumption) | (simp only [dOp_eq, pairsA_eq, aMake_eq] at h; walk_at "ix"; apply Fx.s_varB <;> assumption) | (simp only [dCB1_eq, aJoins_eq, aFstr_eq, aFmt_eq] at h ⊢; apply Fx.s_varB <;> assumption)
theorem s_varF {i c : Nat} {d : D} (hs : δ.sl[i]? = some (.cl c)) (hn : δ.ce[c]? = some (.fz d)) (h : Ψ (.im d) δ) : (aVar i δ).sat Ψ Ξ := by first | (walk_at "ix"; apply Fx.s_varF <;> assumption) | (simp only [dOp_eq, pairsA_eq, aMake_eq] at h; walk_at "ix"; apply Fx.s_varF <;> assumption) | (simp only [dCB1_eq, aJoins_eq, aFstr_eq, aFmt_eq] at h ⊢; apply Fx.s_varF <;> assumption)
theorem s_addI {i j : Int} (h : Ψ (.im (.int (i + j))) δ) : (addA (.im (.int i)) (.im (.int j)) δ).sat Ψ Ξ := by first | (walk_at "ix"; apply Fx.s_addI <;> assumption) | (simp only [dOp_eq, pairsA_eq, aMake_eq] at h; walk_at "ix"; apply Fx.s_addI <;> assumption) | (simp only [dCB1_eq, aJoins_eq, aFstr_eq, aFmt_eq] at h ⊢; apply Fx.s_addI <;> assumption)
theorem s_addS {i j : Str} (hl : i.length + j.length ≤ 1000000) (h : Ψ (.im (.str (i ++ j))) δ) : (addA (.im (.str i)) (.im (.str j)) δ).sat Ψ Ξ := by first | (walk_at "ix"; apply Fx.s_addS <;> assumption) | (simp only [dOp_eq, pairsA_eq, aMake_eq] at h; walk_at "ix"; apply Fx.s_addS <;> assumption) | (simp only [dCB1_eq, aJoins_eq, aFstr_eq, aFmt_eq] at h ⊢; apply Fx.s_addS <;> assumption)
theorem s_addL {i j : List D} (hl : i.length + j.length ≤ 1000000) (h : Ψ (.im (.lst (i ++ j))) δ) : (addA (.im (.lst i)) (.im (.lst j)) δ).sat Ψ Ξ := by first | (walk_at "ix"; apply Fx.s_addL <;> assumption) | (simp only [dOp_eq, pairsA_eq, aMake_eq] at h; walk_at "ix"; apply Fx.s_addL <;> assumption) | (simp only [dCB1_eq, aJoins_eq, aFstr_eq, aFmt_eq] at h ⊢; apply Fx.s_addL <;> assumption)
theorem s_addT {i j : List D} (hl : i.length + j.length ≤ 1000000) (h : Ψ (.im (.tup (i ++ j))) δ) : (addA (.im (.tup i)) (.im (.tup j)) δ).sat Ψ Ξ := by first | (walk_at "ix"; apply Fx.s_addT <;> assumption) | (simp only [dOp_eq, pairsA_eq, aMake_eq] at h; walk_at "ix"; apply Fx.s_addT <;> assumption) | (simp only [dCB1_eq, aJoins_eq, aFstr_eq, aFmt_eq] at h ⊢; apply Fx.s_addT <;> assumption)
theorem s_subI {i j : Int} (h : Ψ (.im (.int (i - j))) δ) : (dOp subD (.im (.int i)) (.im (.int j)) δ).sat Ψ Ξ := by first | (walk_at "ix"; apply Fx.s_subI <;> assumption) | (simp only [dOp_eq, pairsA_eq, aMake_eq] at h; walk_at "ix"; apply Fx.s_subI <;> assumption) | (simp only [dCB1_eq, aJoins_eq, aFstr_eq, aFmt_eq] at h ⊢; apply Fx.s_subI <;> assumption)
theorem s_mulI {i j : Int} (hc : (-18446744073709551616 < i ∧ i < 18446744073709551616) ∨ (-18446744073709551616 < j ∧ j < 18446744073709551616)) (h : Ψ (.im (.int (i * j))) δ) : (dOp mulD (.im (.int i)) (.im (.int j)) δ).sat Ψ Ξ := by first | (walk_at "ix"; apply Fx.s_mulI <;> assumption) | (simp only [dOp_eq, pairsA_eq, aMake_eq] at h; walk_at "ix"; apply Fx.s_mulI <;> assumption) | (simp only [dCB1_eq, aJoins_eq, aFstr_eq, aFmt_eq] at h ⊢; apply Fx.s_mulI <;> assumption)
theorem s_mulS {a : Str} {n : Int} (hc : a.length ≤ 1000 ∧ -1000 ≤ n ∧ n ≤ 1000) (h : Ψ (.im (.str (Txt.mul a n))) δ) : (dOp mulD (.im (.str a)) (.im (.int n)) δ).sat Ψ Ξ := by first | (walk_at "ix"; apply Fx.s_mulS <;> assumption) | (simp only [dOp_eq, pairsA_eq, aMake_eq] at h; walk_at "ix"; apply Fx.s_mulS <;> assumption) | (simp only [dCB1_eq, aJoins_eq, aFstr_eq, aFmt_eq] at h ⊢; apply Fx.s_mulS <;> assumption)
theorem s_fdivI {i j : Int} (hc : 0 < j ∧ j < 1073741824) (h : Ψ (.im (.int (i / j))) δ) : (dOp fdivD (.im (.int i)) (.im (.int j)) δ).sat Ψ Ξ := by first | (walk_at "ix"; apply Fx.s_fdivI <;> assumption) | (simp only [dOp_eq, pairsA_eq, aMake_eq] at h; walk_at "ix"; apply Fx.s_fdivI <;> assumption) | (simp only [dCB1_eq, aJoins_eq, aFstr_eq, aFmt_eq] at h ⊢; apply Fx.s_fdivI <;> assumption)
theorem s_modI {i j : Int} (hc : 0 < j) (h : Ψ (.im (.int (i % j))) δ) : (dOp modD (.im (.int i)) (.im (.int j)) δ).sat Ψ Ξ := by first | (walk_at "ix"; apply Fx.s_modI <;> assumption) | (simp only [dOp_eq, pairsA_eq, aMake_eq] at h; walk_at "ix"; apply Fx.s_modI <;> assumption) | (simp only [dCB1_eq, aJoins_eq, aFstr_eq, aFmt_eq] at h ⊢; apply Fx.s_modI <;> assumption)
theorem s_powI {i j : Int} (hc : 0 ≤ j ∧ j ≤ 1000000 ∧ i.natAbs < 18446744073709551616) (h : Ψ (.im (.int (i ^ j.toNat))) δ) : (dOp powD (.im (.int i)) (.im (.int j)) δ).sat Ψ Ξ := by first | (walk_at "ix"; apply Fx.s_powI <;> assumption) | (simp only [dOp_eq, pairsA_eq, aMake_eq] at h; walk_at "ix"; apply Fx.s_powI <;> assumption) | (simp only [dCB1_eq, aJoins_eq, aFstr_eq, aFmt_eq] at h ⊢; apply Fx.s_powI <;> assumption)
theorem s_ltI {i j : Int} (h : Ψ (.im (.bl (decide (i < j)))) δ) : (dOp ltD (.im (.int i)) (.im (.int j)) δ).sat Ψ Ξ := by first | (walk_at "ix"; apply Fx.s_ltI <;> assumption) | (simp only [dOp_eq, pairsA_eq, aMake_eq] at h; walk_at "ix"; apply Fx.s_ltI <;> assumption) | (simp only [dCB1_eq, aJoins_eq, aFstr_eq, aFmt_eq] at h ⊢; apply Fx.s_ltI <;> assumption)
theorem s_leI {i j : Int} (h : Ψ (.im (.bl (decide (i ≤ j)))) δ) : (dOp leD (.im (.int i)) (.im (.int j)) δ).sat Ψ Ξ := by first | (walk_at "ix"; apply Fx.s_leI <;> assumption) | (simp only [dOp_eq, pairsA_eq, aMake_eq] at h; walk_at "ix"; apply Fx.s_leI <;> assumption) | (simp only [dCB1_eq, aJoins_eq, aFstr_eq, aFmt_eq] at h ⊢; apply Fx.s_leI <;> assumption)
theorem s_gtI {i j : Int} (h : Ψ (.im (.bl (decide (j < i)))) δ) : (dOp gtD (.im (.int i)) (.im (.int j)) δ).sat Ψ Ξ := by first | (walk_at "ix"; apply Fx.s_gtI <;> assumption) | (simp only [dOp_eq, pairsA_eq, aMake_eq] at h; walk_at "ix"; apply Fx.s_gtI <;> assumption) | (simp only [dCB1_eq, aJoins_eq, aFstr_eq, aFmt_eq] at h ⊢; apply Fx.s_gtI <;> assumption)
theorem s_geI {i j : Int} (h : Ψ (.im (.bl (decide (j ≤ i)))) δ) : (dOp geD (.im (.int i)) (.im (.int j)) δ).sat Ψ Ξ := by first | (walk_at "ix"; apply Fx.s_geI <;> assumption) | (simp only [dOp_eq, pairsA_eq, aMake_eq] at h; walk_at "ix"; apply Fx.s_geI <;> assumption) | (simp only [dCB1_eq, aJoins_eq, aFstr_eq, aFmt_eq] at h ⊢; apply Fx.s_geI <;> assumption)
theorem s_ltS {i j : Str} (h : Ψ (.im (.bl (decide (i.cps.toList < j.cps.toList)))) δ) : (dOp ltD (.im (.str i)) (.im (.str j)) δ).sat Ψ Ξ := by first | (walk_at "ix"; apply Fx.s_ltS <;> assumption) | (simp only [dOp_eq, pairsA_eq, aMake_eq] at h; walk_at "ix"; apply Fx.s_ltS <;> assumption) | (simp only [dCB1_eq, aJoins_eq, aFstr_eq, aFmt_eq] at h ⊢; apply Fx.s_ltS <;> assumption)
theorem s_eqI {i j : Int} (h : Ψ (.im (.bl (decide (i = j)))) δ) : (dOp eqD (.im (.int i)) (.im (.int j)) δ).sat Ψ Ξ := by first | (walk_at "ix"; apply Fx.s_eqI <;> assumption) | (simp only [dOp_eq, pairsA_eq, aMake_eq] at h; walk_at "ix"; apply Fx.s_eqI <;> assumption) | (simp only [dCB1_eq, aJoins_eq, aFstr_eq, aFmt_eq] at h ⊢; apply Fx.s_eqI <;> assumption)
theorem s_eqS {i j : Str} (h : Ψ (.im (.bl (decide (i = j)))) δ) : (dOp eqD (.im (.str i)) (.im (.str j)) δ).sat Ψ Ξ := by first | (walk_at "ix"; apply Fx.s_eqS <;> assumption) | (simp only [dOp_eq, pairsA_eq, aMake_eq] at h; walk_at "ix"; apply Fx.s_eqS <;> assumption) | (simp only [dCB1_eq, aJoins_eq, aFstr_eq, aFmt_eq] at h ⊢; apply Fx.s_eqS <;> assumption)
theorem s_neI {i j : Int} (h : Ψ (.im (.bl (!decide (i = j)))) δ) : (dOp neD (.im (.int i)) (.im (.int j)) δ).sat Ψ Ξ := by first | (walk_at "ix"; apply Fx.s_neI <;> assumption) | (simp only [dOp_eq, pairsA_eq, aMake_eq] at h; walk_at "ix"; apply Fx.s_neI <;> assumption) | (simp only [dCB1_eq, aJoins_eq, aFstr_eq, aFmt_eq] at h ⊢; apply Fx.s_neI <;> assumption)
theorem s_neS {i j : Str} (h : Ψ (.im (.bl (!decide (i = j)))) δ) : (dOp neD (.im (.str i)) (.im (.str j)) δ).sat Ψ Ξ := by first | (walk_at "ix"; apply Fx.s_neS <;> assumption) | (simp only [dOp_eq, pairsA_eq, aMake_eq] at h; walk_at "ix"; apply Fx.s_neS <;> assumption) | (simp only [dCB1_eq, aJoins_eq, aFstr_eq, aFmt_eq] at h ⊢; apply Fx.s_neS <;> assumption)
theorem s_eqB' {i j : Bool} (h : Ψ (.im (.bl (i == j))) δ) : (dOp eqD (.im (.bl i)) (.im (.bl j)) δ).sat Ψ Ξ := by first | (walk_at "ix"; apply Fx.s_eqB' <;> assumption) | (simp only [dOp_eq, pairsA_eq, aMake_eq] at h; walk_at "ix"; apply Fx.s_eqB' <;> assumption) | (simp only [dCB1_eq, aJoins_eq, aFstr_eq, aFmt_eq] at h ⊢; apply Fx.s_eqB' <;> assumption)
theorem s_neB {i j : Bool} (h : Ψ (.im (.bl (!(i == j)))) δ) : (dOp neD (.im (.bl i)) (.im (.bl j)) δ).sat Ψ Ξ := by first | (walk_at "ix"; apply Fx.s_neB <;> assumption) | (simp only [dOp_eq, pairsA_eq, aMake_eq] at h; walk_at "ix"; apply Fx.s_neB <;> assumption) | (simp only [dCB1_eq, aJoins_eq, aFstr_eq, aFmt_eq] at h ⊢; apply Fx.s_neB <;> assumption)
theorem s_isN {d : D} (h : Ψ (.im (.bl (isNon d))) δ) : (dOp isD (.im d) (.im .non) δ).sat Ψ Ξ := by first | (walk_at "ix"; apply Fx.s_isN <;> assumption) | (simp only [dOp_eq, pairsA_eq, aMake_eq] at h; walk_at "ix"; apply Fx.s_isN <;> assumption) | (simp only [dCB1_eq, aJoins_eq, aFstr_eq, aFmt_eq] at h ⊢; apply Fx.s_isN <;> assumption)
theorem s_isnotN {d : D} (h : Ψ (.im (.bl (!isNon d))) δ) : (dOp isnotD (.im d) (.im .non) δ).sat Ψ Ξ := by first | (walk_at "ix"; apply Fx.s_isnotN <;> assumption) | (simp only [dOp_eq, pairsA_eq, aMake_eq] at h; walk_at "ix"; apply Fx.s_isnotN <;> assumption) | (simp only [dCB1_eq, aJoins_eq, aFstr_eq, aFmt_eq] at h ⊢; apply Fx.s_isnotN <;> assumption)
theorem s_isB {a b : Bool} (h : Ψ (.im (.bl (decide (a = b)))) δ) : (dOp isD (.im (.bl a)) (.im (.bl b)) δ).sat Ψ Ξ := by first | (walk_at "ix"; apply Fx.s_isB <;> assumption) | (simp only [dOp_eq, pairsA_eq, aMake_eq] at h; walk_at "ix"; apply Fx.s_isB <;> assumption) | (simp only [dCB1_eq, aJoins_eq, aFstr_eq, aFmt_eq] at h ⊢; apply Fx.s_isB <;> assumption)
theorem s_isnotB {a b : Bool} (h : Ψ (.im (.bl (!decide (a = b)))) δ) : (dOp isnotD (.im (.bl a)) (.im (.bl b)) δ).sat Ψ Ξ := by first | (walk_at "ix"; apply Fx.s_isnotB <;> assumption) | (simp only [dOp_eq, pairsA_eq, aMake_eq] at h; walk_at "ix"; apply Fx.s_isnotB <;> assumption) | (simp only [dCB1_eq, aJoins_eq, aFstr_eq, aFmt_eq] at h ⊢; apply Fx.s_isnotB <;> assumption)
theorem s_absI {i : Int} (h : Ψ (.im (.int (if i < 0 then -i else i))) δ) : (dCB1 absD [.im (.int i)] δ).sat Ψ Ξ := by first | (walk_at "ix"; apply Fx.s_absI <;> assumption) | (simp only [dOp_eq, pairsA_eq, aMake_eq] at h; walk_at "ix"; apply Fx.s_absI <;> assumption) | (simp only [dCB1_eq, aJoins_eq, aFstr_eq, aFmt_eq] at h ⊢; apply Fx.s_absI <;> assumption)
theorem s_intI {i : Int} (h : Ψ (.im (.int i)) δ) : (dCB1 intD [.im (.int i)] δ).sat Ψ Ξ := by first | (walk_at "ix"; apply Fx.s_intI <;> assumption) | (simp only [dOp_eq, pairsA_eq, aMake_eq] at h; walk_at "ix"; apply Fx.s_intI <;> assumption) | (simp only [dCB1_eq, aJoins_eq, aFstr_eq, aFmt_eq] at h ⊢; apply Fx.s_intI <;> assumption)
theorem s_intB {b : Bool} (h : Ψ (.im (.int (if b then 1 else 0))) δ) : (dCB1 intD [.im (.bl b)] δ).sat Ψ Ξ := by first | (walk_at "ix"; apply Fx.s_intB <;> assumption) | (simp only [dOp_eq, pairsA_eq, aMake_eq] at h; walk_at "ix"; apply Fx.s_intB <;> assumption) | (simp only [dCB1_eq, aJoins_eq, aFstr_eq, aFmt_eq] at h ⊢; apply Fx.s_intB <;> assumption)
theorem s_lenL {l : List D} (h : Ψ (.im (.int l.length)) δ) : (dCB1 lenD [.im (.lst l)] δ).sat Ψ Ξ := by first | (walk_at "ix"; apply Fx.s_lenL <;> assumption) | (simp only [dOp_eq, pairsA_eq, aMake_eq] at h; walk_at "ix"; apply Fx.s_lenL <;> assumption) | (simp only [dCB1_eq, aJoins_eq, aFstr_eq, aFmt_eq] at h ⊢; apply Fx.s_lenL <;> assumption)
theorem s_lenT {l : List D} (h : Ψ (.im (.int l.length)) δ) : (dCB1 lenD [.im (.tup l)] δ).sat Ψ Ξ := by first | (walk_at "ix"; apply Fx.s_lenT <;> assumption) | (simp only [dOp_eq, pairsA_eq, aMake_eq] at h; walk_at "ix"; apply Fx.s_lenT <;> assumption) | (simp only [dCB1_eq, aJoins_eq, aFstr_eq, aFmt_eq] at h ⊢; apply Fx.s_lenT <;> assumption)
theorem s_lenR {l : List Int} (h : Ψ (.im (.int l.length)) δ) : (dCB1 lenD [.im (.scr l)] δ).sat Ψ Ξ := by first | (walk_at "ix"; apply Fx.s_lenR <;> assumption) | (simp only [dOp_eq, pairsA_eq, aMake_eq] at h; walk_at "ix"; apply Fx.s_lenR <;> assumption) | (simp only [dCB1_eq, aJoins_eq, aFstr_eq, aFmt_eq] at h ⊢; apply Fx.s_lenR <;> assumption)
theorem s_lenS {z : Str} (hz : z.length ≤ 1000000) (h : Ψ (.im (.int z.length)) δ) : (dCB1 lenD [.im (.str z)] δ).sat Ψ Ξ := by first | (walk_at "ix"; apply Fx.s_lenS <;> assumption) | (simp only [dOp_eq, pairsA_eq, aMake_eq] at h; walk_at "ix"; apply Fx.s_lenS <;> assumption) | (simp only [dCB1_eq, aJoins_eq, aFstr_eq, aFmt_eq] at h ⊢; apply Fx.s_lenS <;> assumption)
theorem s_ixC {tabs : Tabs} {c : Nat} {us : List SV} {i : Int} {d : D} (hc : δ.ce[c]? = some (.lst us)) (hi : atI us i = some (.im d)) (h : Ψ (.im d) δ) : (ixA tabs (.cl c) (.im (.int i)) δ).sat Ψ Ξ := by first | (walk_at "ix"; apply Fx.s_ixC <;> assumption) | (simp only [dOp_eq, pairsA_eq, aMake_eq] at h; walk_at "ix"; apply Fx.s_ixC <;> assumption) | (simp only [dCB1_eq, aJoins_eq, aFstr_eq, aFmt_eq] at h ⊢; apply Fx.s_ixC <;> assumption)
theorem s_ixL {tabs : Tabs} {ds : List D} {i : Int} {d : D} (hi : atI ds i = some d) (h : Ψ (.im d) δ) : (ixA tabs (.im (.lst ds)) (.im (.int i)) δ).sat Ψ Ξ := by first | (walk_at "ix"; apply Fx.s_ixL <;> assumption) | (simp only [dOp_eq, pairsA_eq, aMake_eq] at h; walk_at "ix"; apply Fx.s_ixL <;> assumption) | (simp only [dCB1_eq, aJoins_eq, aFstr_eq, aFmt_eq] at h ⊢; apply Fx.s_ixL <;> assumption)
theorem s_ixT {tabs : Tabs} {ds : List D} {i : Int} {d : D} (hi : atI ds i = some d) (h : Ψ (.im d) δ) : (ixA tabs (.im (.tup ds)) (.im (.int i)) δ).sat Ψ Ξ := by first | (walk_at "ix"; apply Fx.s_ixT <;> assumption) | (simp only [dOp_eq, pairsA_eq, aMake_eq] at h; walk_at "ix"; apply Fx.s_ixT <;> assumption) | (simp only [dCB1_eq, aJoins_eq, aFstr_eq, aFmt_eq] at h ⊢; apply Fx.s_ixT <;> assumption)
theorem s_ixR {tabs : Tabs} {ds : List Int} {i d : Int} (hi : atI ds i = some d) (h : Ψ (.im (.int d)) δ) : (ixA tabs (.im (.scr ds)) (.im (.int i)) δ).sat Ψ Ξ := by first | (walk_at "ix"; apply Fx.s_ixR <;> assumption) | (simp only [dOp_eq, pairsA_eq, aMake_eq] at h; walk_at "ix"; apply Fx.s_ixR <;> assumption) | (simp only [dCB1_eq, aJoins_eq, aFstr_eq, aFmt_eq] at h ⊢; apply Fx.s_ixR <;> assumption)
theorem s_ixS {tabs : Tabs} {z : Str} {i : Int} {c : Nat} (hz : z.length ≤ 1000000) (hi : atI z.cps.toList i = some c) (h : Ψ (.im (.str ⟨#[c]⟩)) δ) : (ixA tabs (.im (.str z)) (.im (.int i)) δ).sat Ψ Ξ := by first | (walk_at "ix"; apply Fx.s_ixS <;> assumption) | (simp only [dOp_eq, pairsA_eq, aMake_eq] at h; walk_at "ix"; apply Fx.s_ixS <;> assumption) | (simp only [dCB1_eq, aJoins_eq, aFstr_eq, aFmt_eq] at h ⊢; apply Fx.s_ixS <;> assumption)
theorem s_ixD {tabs : Tabs} {kvs : List (Key × D)} {y d : D} {k : Key} (hk : keyOf y = some k) (hi : lookD kvs k = some d) (h : Ψ (.im d) δ) : (ixA tabs (.im (.dic kvs)) (.im y) δ).sat Ψ Ξ := by first | (walk_at "ix"; apply Fx.s_ixD <;> assumption) | (simp only [dOp_eq, pairsA_eq, aMake_eq] at h; walk_at "ix"; apply Fx.s_ixD <;> assumption) | (simp only [dCB1_eq, aJoins_eq, aFstr_eq, aFmt_eq] at h ⊢; apply Fx.s_ixD <;> assumption)
theorem s_ixG {tabs : Tabs} {x z : Str} {d : D} (hi : tabAt tabs x z = some d) (h : Ψ (.im d) δ) : (ixA tabs (.im (.glo x)) (.im (.str z)) δ).sat Ψ Ξ := by first | (walk_at "ix"; apply Fx.s_ixG <;> assumption) | (simp only [dOp_eq, pairsA_eq, aMake_eq] at h; walk_at "ix"; apply Fx.s_ixG <;> assumption) | (simp only [dCB1_eq, aJoins_eq, aFstr_eq, aFmt_eq] at h ⊢; apply Fx.s_ixG <;> assumption)
theorem s_asgIx {e : AE} {i : Nat} {k : Int} {Φ : Post} (h : (e δ).sat (fun s δ1 => ∃ c us j, δ1.sl[i]? = some (.cl c) ∧ δ1.ce[c]? = some (.lst us) ∧ ixN us.length k = some j ∧ Φ.nx ⟨δ1.sl, δ1.ce.set c (.lst (us.set j s))⟩) Φ.ex) : (aAsg e (gIx (aVar i) (aC (.int k))) δ).sat Φ := by first | (walk_at "ix"; apply Fx.s_asgIx <;> assumption) | (simp only [dOp_eq, pairsA_eq, aMake_eq] at h; walk_at "ix"; apply Fx.s_asgIx <;> assumption) | (simp only [dCB1_eq, aJoins_eq, aFstr_eq, aFmt_eq] at h ⊢; apply Fx.s_asgIx <;> assumption)
theorem s_intB2 {b : Bool} (h : (b = true → Ψ (.im (.int 1)) δ) ∧ (b = false → Ψ (.im (.int 0)) δ)) : (dCB1 intD [.im (.bl b)] δ).sat Ψ Ξ := by first | (walk_at "ix"; apply Fx.s_intB2 <;> assumption) | (simp only [dOp_eq, pairsA_eq, aMake_eq] at h; walk_at "ix"; apply Fx.s_intB2 <;> assumption) | (simp only [dCB1_eq, aJoins_eq, aFstr_eq, aFmt_eq] at h ⊢; apply Fx.s_intB2 <;> assumption)
theorem s_ixR2 {tabs : Tabs} {ds : List Int} {i : Int} (h0 : 0 ≤ i) (h1 : i < ds.length) (h : ∀ d : Int, Ψ (.im (.int d)) δ) : (ixA tabs (.im (.scr ds)) (.im (.int i)) δ).sat Ψ Ξ := by first | (walk_at "ix"; apply Fx.s_ixR2 <;> assumption) | (simp only [dOp_eq, pairsA_eq, aMake_eq] at h; walk_at "ix"; apply Fx.s_ixR2 <;> assumption) | (simp only [dCB1_eq, aJoins_eq, aFstr_eq, aFmt_eq] at h ⊢; apply Fx.s_ixR2 <;> assumption)
theorem s_ixL2 {tabs : Tabs} {ds : List D} {i : Int} (h0 : 0 ≤ i) (h1 : i < ds.length) (h : ∀ d ∈ ds, Ψ (.im d) δ) : (ixA tabs (.im (.lst ds)) (.im (.int i)) δ).sat Ψ Ξ := by first | (walk_at "ix"; apply Fx.s_ixL2 <;> assumption) | (simp only [dOp_eq, pairsA_eq, aMake_eq] at h; walk_at "ix"; apply Fx.s_ixL2 <;> assumption) | (simp only [dCB1_eq, aJoins_eq, aFstr_eq, aFmt_eq] at h ⊢; apply Fx.s_ixL2 <;> assumption)
theorem s_make2 {x : Str} {n : Nat} {r : AA} {F : Fn} {dds : List D} (h : (r δ).sat (fun ss δ1 => (SV.cl δ1.ce.length :: (ss ++ dds.map SV.im)).length = n ∧ (F (.cl δ1.ce.length :: (ss ++ dds.map SV.im)) (δ1.ce ++ [.ins x []])).sat (fun s ce => s = .im .non ∧ ∃ d ce1 ce2, frz ce δ1.ce.length = some (d, ce1) ∧ cutTo δ1.ce ce1 = some ce2 ∧ Ψ (.im d) ⟨δ1.sl, ce2⟩) fun _ _ => False) Ξ) : (aMake x n F dds r δ).sat Ψ Ξ := by first | (walk_at "ix"; apply Fx.s_make2 <;> assumption) | (simp only [dOp_eq, pairsA_eq, aMake_eq] at h; walk_at "ix"; apply Fx.s_make2 <;> assumption) | (simp only [dCB1_eq, aJoins_eq, aFstr_eq, aFmt_eq] at h ⊢; apply Fx.s_make2 <;> assumption)
theorem s_forU {it : AI} {g : AG} {p : AS} {Φ : Post} (h : (it δ).sat (fun ds δ1 => (forL g p ds δ1).sat Φ) Φ.ex) : (aFor it g p δ).sat Φ := by first | (walk_at "ix"; apply Fx.s_forU <;> assumption) | (simp only [dOp_eq, pairsA_eq, aMake_eq] at h; walk_at "ix"; apply Fx.s_forU <;> assumption) | (simp only [dCB1_eq, aJoins_eq, aFstr_eq, aFmt_eq] at h ⊢; apply Fx.s_forU <;> assumption)
theorem s_items {a : AE} {Ψi : List D → Sta → Prop} (h : (a δ).sat (fun s δ1 => ∃ c kvs kds, s = .cl c ∧ δ1.ce[c]? = some (.dic kvs) ∧ imK δ1.ce kvs = some kds ∧ Ψi (pairsD kds) ⟨δ1.sl, δ1.ce.set c (.fz (.dic kds))⟩) Ξ) : (aItems a δ).sat Ψi Ξ := by first | (walk_at "ix"; apply Fx.s_items <;> assumption) | (simp only [dOp_eq, pairsA_eq, aMake_eq] at h; walk_at "ix"; apply Fx.s_items <;> assumption) | (simp only [dCB1_eq, aJoins_eq, aFstr_eq, aFmt_eq] at h ⊢; apply Fx.s_items <;> assumption)
theorem s_inT {x : D} {xs : List D} (hf : flatD x = true ∧ xs.all flatD = true) (h : Ψ (.im (.bl (inF x xs))) δ) : (dOp inD (.im x) (.im (.tup xs)) δ).sat Ψ Ξ := by first | (walk_at "ix"; apply Fx.s_inT <;> assumption) | (simp only [dOp_eq, pairsA_eq, aMake_eq] at h; walk_at "ix"; apply Fx.s_inT <;> assumption) | (simp only [dCB1_eq, aJoins_eq, aFstr_eq, aFmt_eq] at h ⊢; apply Fx.s_inT <;> assumption)
theorem s_inL {x : D} {xs : List D} (hf : flatD x = true ∧ xs.all flatD = true) (h : Ψ (.im (.bl (inF x xs))) δ) : (dOp inD (.im x) (.im (.lst xs)) δ).sat Ψ Ξ := by first | (walk_at "ix"; apply Fx.s_inL <;> assumption) | (simp only [dOp_eq, pairsA_eq, aMake_eq] at h; walk_at "ix"; apply Fx.s_inL <;> assumption) | (simp only [dCB1_eq, aJoins_eq, aFstr_eq, aFmt_eq] at h ⊢; apply Fx.s_inL <;> assumption)
theorem s_dispS {d : AE} {l : List (AE × AE)} (h : (d ⟨δ.sl, δ.ce ++ [.dic []]⟩).sat (fun s δ1 => ∃ kds, dv δ1.ce s = some (.dic kds) ∧ δ1.ce[δ.ce.length]? = some (.dic []) ∧ (kds.length ≤ 1000 ∧ notCl s δ.ce.length = true) ∧
    (pairsA l ⟨δ1.sl, δ1.ce.set δ.ce.length (.dic (mergeS [] (kds.map fun p => (p.1, .im p.2)))) ++ [.dic []]⟩).sat (fun kvs δ2 => ∃ kvs3, δ2.ce[δ.ce.length]? = some (.dic kvs3) ∧ δ2.ce[δ1.ce.length]? = some (.dic []) ∧ (kvs.length ≤ 15 ∧ kvs3 = mergeS [] (kds.map fun p => (p.1, .im p.2))) ∧ Ψ (.cl δ.ce.length) ⟨δ2.sl, (δ2.ce.set δ1.ce.length (.dic (mergeS [] kvs))).set δ.ce.length (.dic (mergeS kvs3 (mergeS [] kvs)))⟩) Ξ) Ξ) : (aDispS d l δ).sat Ψ Ξ := by first | (walk_at "ix"; apply Fx.s_dispS <;> assumption) | (simp only [dOp_eq, pairsA_eq, aMake_eq] at h; walk_at "ix"; apply Fx.s_dispS <;> assumption) | (simp only [dCB1_eq, aJoins_eq, aFstr_eq, aFmt_eq] at h ⊢; apply Fx.s_dispS <;> assumption)
theorem s_fld2 {ct : CT} {a : AE} {f : Str} (h : (a δ).sat (fun s δ1 => ∃ t, fldS ct f δ1 s = some t ∧ Ψ t δ1) Ξ) : (aFld ct a f δ).sat Ψ Ξ := by first | (walk_at "ix"; apply Fx.s_fld2 <;> assumption) | (simp only [dOp_eq, pairsA_eq, aMake_eq] at h; walk_at "ix"; apply Fx.s_fld2 <;> assumption) | (simp only [dCB1_eq, aJoins_eq, aFstr_eq, aFmt_eq] at h ⊢; apply Fx.s_fld2 <;> assumption)
theorem s_bare {s : Str} {ce : List CO} {Φ : Post} (hl : s.length ≤ 100) (h : Φ.nx ⟨[.im (.str (bare s))], ce⟩) : (aWhile 1000 (aTest (aOp (dOp eqD) (aSl (aVar 0) (aPart (aNeg (aC (.int 1)))) aNoPart) (aC (.str " ")))) (aAsg (aSl (aVar 0) aNoPart (aPart (aNeg (aC (.int 1))))) (gNm 0)) ⟨[.im (.str s)], ce⟩).sat Φ := by first | (walk_at "ix"; apply Fx.s_bare <;> assumption) | (simp only [dOp_eq, pairsA_eq, aMake_eq] at h; walk_at "ix"; apply Fx.s_bare <;> assumption) | (simp only [dCB1_eq, aJoins_eq, aFstr_eq, aFmt_eq] at h ⊢; apply Fx.s_bare <;> assumption)
theorem s_lcM {δ : Sta} {Ψ : SV → Sta → Prop} {Ξ : Xn → Sta → Prop} {e : AE} {it : AI} {g : AG} {vs : List Nat} (f : D → D) (h : (it δ).sat (fun ds δ1 => ds.length ≤ 100000 ∧ (∀ d ∈ ds, ∃ δ2, g (.im d) ⟨wipeS δ1.sl vs, δ1.ce⟩ = some δ2 ∧ (e δ2).sat (fun s δ3 => s = .im (f d) ∧ δ3.ce = δ1.ce) fun _ _ => False) ∧ Ψ (.im (.lst (ds.map f))) δ1) Ξ) : (aLc it g aYes e vs δ).sat Ψ Ξ := by first | (walk_at "ix"; apply Fx.s_lcM <;> assumption) | (simp only [dOp_eq, pairsA_eq, aMake_eq] at h; walk_at "ix"; apply Fx.s_lcM <;> assumption) | (simp only [dCB1_eq, aJoins_eq, aFstr_eq, aFmt_eq] at h ⊢; apply Fx.s_lcM <;> assumption)
theorem s_methKW {tab : MTab} {m : Str} {ks : List Str} (h : (a δ).sat (fun s δ1 => ∃ C F, clsS δ1 m s = some C ∧ tab.lookup C = some (2, F) ∧ (r δ1).sat (fun ss δ2 => ss.length = ks.length ∧
    (F [s, .cl δ2.ce.length] (δ2.ce ++ [.dic (mergeS [] (inrs (ks.zip ss)))])).sat (fun s2 ce => ∃ d ce2, s2 = .im d ∧ cutTo δ2.ce ce = some ce2 ∧ Ψ (.im d) ⟨δ2.sl, ce2⟩) (fun x ce => Ξ x ⟨δ2.sl, ce⟩)) Ξ) Ξ) : (aMethKW tab m ks a r δ).sat Ψ Ξ := by first | (walk_at "ix"; apply Fx.s_methKW <;> assumption) | (simp only [dOp_eq, pairsA_eq, aMake_eq] at h; walk_at "ix"; apply Fx.s_methKW <;> assumption) | (simp only [dCB1_eq, aJoins_eq, aFstr_eq, aFmt_eq] at h ⊢; apply Fx.s_methKW <;> assumption)
theorem s_makeKW {x : Str} {n : Nat} {F : Fn} {ks : List Str} (h : (e ⟨δ.sl, δ.ce ++ [.dic []]⟩).sat (fun s δ1 => ∃ kds, dv δ1.ce s = some (.dic kds) ∧ δ1.ce[δ.ce.length]? = some (.dic []) ∧ (kds.length ≤ 1000 ∧ notCl s δ.ce.length = true ∧ kds.map (·.1) = ks.map .inr ∧ kds.length + 1 = n) ∧
    (F (.cl δ1.ce.length :: (kds.map (·.2)).map SV.im) (δ1.ce.set δ.ce.length (.dic (kds.map fun p => (p.1, .im p.2))) ++ [.ins x []])).sat (fun s2 ce => s2 = .im .non ∧ ∃ d ce2, frz ce δ1.ce.length = some (d, ce2) ∧ Ψ (.im d) ⟨δ1.sl, ce2⟩) (fun y ce => Ξ y ⟨δ1.sl, ce⟩)) Ξ) : (aMakeKW x n F ks e δ).sat Ψ Ξ := by first | (walk_at "ix"; apply Fx.s_makeKW <;> assumption) | (simp only [dOp_eq, pairsA_eq, aMake_eq] at h; walk_at "ix"; apply Fx.s_makeKW <;> assumption) | (simp only [dCB1_eq, aJoins_eq, aFstr_eq, aFmt_eq] at h ⊢; apply Fx.s_makeKW <;> assumption)
theorem s_bmd {f : ABM} (h : (a δ).sat (fun s δ1 => tyC δ1 s = true ∧ (r δ1).sat (fun ss δ2 => (f s ss δ2).sat Ψ Ξ) Ξ) Ξ) : (aBMd f a r δ).sat Ψ Ξ := by first | (walk_at "ix"; apply Fx.s_bmd <;> assumption) | (simp only [dOp_eq, pairsA_eq, aMake_eq] at h; walk_at "ix"; apply Fx.s_bmd <;> assumption) | (simp only [dCB1_eq, aJoins_eq, aFstr_eq, aFmt_eq] at h ⊢; apply Fx.s_bmd <;> assumption)
theorem s_update {c : Nat} {t : SV} {kvs : List (Key × SV)} {kds : List (Key × D)} (h1 : δ.ce[c]? = some (.dic kvs)) (h2 : dv δ.ce t = some (.dic kds)) (h3 : kvs.length + kds.length ≤ 1000 ∧ notCl t c = true)
    (h : Ψ (.im .non) ⟨δ.sl, δ.ce.set c (.dic (mergeS kvs (kds.map fun p => (p.1, .im p.2))))⟩) : (updateA (.cl c) [t] δ).sat Ψ Ξ := by first | (walk_at "ix"; apply Fx.s_update <;> assumption) | (simp only [dOp_eq, pairsA_eq, aMake_eq] at h; walk_at "ix"; apply Fx.s_update <;> assumption) | (simp only [dCB1_eq, aJoins_eq, aFstr_eq, aFmt_eq] at h ⊢; apply Fx.s_update <;> assumption)
theorem s_zip {Ψi : List D → Sta → Prop} (h : (r δ).sat (fun ss δ1 => ∃ s t ds ce1 es ce2, ss = [s, t] ∧ toIm δ1.ce s = some (.lst ds, ce1) ∧ toIm ce1 t = some (.lst es, ce2) ∧ Ψi (zipD ds es) ⟨δ1.sl, ce2⟩) Ξ) : (aZip r δ).sat Ψi Ξ := by first | (walk_at "ix"; apply Fx.s_zip <;> assumption) | (simp only [dOp_eq, pairsA_eq, aMake_eq] at h; walk_at "ix"; apply Fx.s_zip <;> assumption) | (simp only [dCB1_eq, aJoins_eq, aFstr_eq, aFmt_eq] at h ⊢; apply Fx.s_zip <;> assumption)
theorem s_raise {x fld : Str} (h : (e δ).sat (fun s δ1 => Φ.ex ⟨.own x, [(fld, s)]⟩ δ1) Φ.ex) : (aRaise x fld e δ).sat Φ := by first | (walk_at "ix"; apply Fx.s_raise <;> assumption) | (simp only [dOp_eq, pairsA_eq, aMake_eq] at h; walk_at "ix"; apply Fx.s_raise <;> assumption) | (simp only [dCB1_eq, aJoins_eq, aFstr_eq, aFmt_eq] at h ⊢; apply Fx.s_raise <;> assumption)
theorem s_try {tab : List (XC × Bool)} {i : Nat} (h : (p δ).sat { Φ with ex := fun x δ1 => (tryX tab i q x δ1).sat Φ }) : (aTry tab i p q δ).sat Φ := by first | (walk_at "ix"; apply Fx.s_try <;> assumption) | (simp only [dOp_eq, pairsA_eq, aMake_eq] at h; walk_at "ix"; apply Fx.s_try <;> assumption) | (simp only [dCB1_eq, aJoins_eq, aFstr_eq, aFmt_eq] at h ⊢; apply Fx.s_try <;> assumption)
theorem s_xf {x fld : Str} (h : (a δ).sat (fun s δ1 => ∃ c t, s = .cl c ∧ δ1.ce[c]? = some (.exc (.own x) [(fld, t)]) ∧ Ψ t δ1) Ξ) : (aXF x fld a δ).sat Ψ Ξ := by first | (walk_at "ix"; apply Fx.s_xf <;> assumption) | (simp only [dOp_eq, pairsA_eq, aMake_eq] at h; walk_at "ix"; apply Fx.s_xf <;> assumption) | (simp only [dCB1_eq, aJoins_eq, aFstr_eq, aFmt_eq] at h ⊢; apply Fx.s_xf <;> assumption)
theorem s_isx {tab : Isi} {c : Nat} {t : SV} {k cc : XC} {p : Str × SV} {fs : List (Str × SV)} {d : D} {b : Bool} (h1 : δ.ce[c]? = some (.exc k (p :: fs))) (h2 : dv δ.ce t = some d) (h3 : clsD d = some cc) (h4 : tab.lookup (k, cc) = some b) (h : Ψ (.im (.bl b)) δ) : (isxA tab [.cl c, t] δ).sat Ψ Ξ := by first | (walk_at "ix"; apply Fx.s_isx <;> assumption) | (simp only [dOp_eq, pairsA_eq, aMake_eq] at h; walk_at "ix"; apply Fx.s_isx <;> assumption) | (simp only [dCB1_eq, aJoins_eq, aFstr_eq, aFmt_eq] at h ⊢; apply Fx.s_isx <;> assumption)
theorem s_lcC {it : AI} {g : AG} {vs : List Nat} (J : List D → List CO → Prop) (h : (it δ).sat (fun ds δ1 => ds.length ≤ 100000 ∧ J [] δ1.ce ∧ (∀ d ∈ ds, ∀ acc ce, J acc ce → ∃ δ2, g (.im d) ⟨wipeS δ1.sl vs, ce⟩ = some δ2 ∧ (t δ2).sat (fun b δ2 => (b = true → (e δ2).sat (fun s δ3 => ∃ y ce3, toIm δ3.ce s = some (y, ce3) ∧ J (acc ++ [y]) (cutOr ce ce3)) fun _ _ => False) ∧ (b = false → J acc (cutOr ce δ2.ce))) fun _ _ => False) ∧ ∀ acc ce, J acc ce → acc.length ≤ ds.length → Ψ (.cl ce.length) ⟨δ1.sl, ce ++ [.lst (acc.map SV.im)]⟩) Ξ) : (aLcC it g t e vs δ).sat Ψ Ξ := by first | (walk_at "ix"; apply Fx.s_lcC <;> assumption) | (simp only [dOp_eq, pairsA_eq, aMake_eq] at h; walk_at "ix"; apply Fx.s_lcC <;> assumption) | (simp only [dCB1_eq, aJoins_eq, aFstr_eq, aFmt_eq] at h ⊢; apply Fx.s_lcC <;> assumption)
theorem s_asgIxG (h : (e δ).sat (fun s δ1 => (a δ1).sat (fun z δ2 => (b δ2).sat (fun t δ3 => ∃ c us k j, z = .cl c ∧ δ3.ce[c]? = some (.lst us) ∧ dv δ3.ce t = some (.int k) ∧ ixN us.length k = some j ∧ Φ.nx ⟨δ3.sl, δ3.ce.set c (.lst (us.set j s))⟩) fun _ _ => False) fun _ _ => False) Φ.ex) : (aAsg e (gIx a b) δ).sat Φ := by first | (walk_at "ix"; apply Fx.s_asgIxG <;> assumption) | (simp only [dOp_eq, pairsA_eq, aMake_eq] at h; walk_at "ix"; apply Fx.s_asgIxG <;> assumption) | (simp only [dCB1_eq, aJoins_eq, aFstr_eq, aFmt_eq] at h ⊢; apply Fx.s_asgIxG <;> assumption)
theorem s_makeX {x : Str} {F : Fn} {dds : List D} (h : (r δ).sat (fun ss δ1 => (SV.cl δ1.ce.length :: (ss ++ dds.map SV.im)).length = n ∧ (F (.cl δ1.ce.length :: (ss ++ dds.map SV.im)) (δ1.ce ++ [.ins x []])).sat (fun s ce => s = .im .non ∧ ∃ d ce1 ce2, frz ce δ1.ce.length = some (d, ce1) ∧ cutTo δ1.ce ce1 = some ce2 ∧ Ψ (.im d) ⟨δ1.sl, ce2⟩) fun y ce => ∃ ce2, cutTo δ1.ce ce = some ce2 ∧ (y.fs.all fun p => p.2.bnd ce2.length) = true ∧ Ξ y ⟨δ1.sl, ce2⟩) Ξ) : (aMake x n F dds r δ).sat Ψ Ξ := by first | (walk_at "ix"; apply Fx.s_makeX <;> assumption) | (simp only [dOp_eq, pairsA_eq, aMake_eq] at h; walk_at "ix"; apply Fx.s_makeX <;> assumption) | (simp only [dCB1_eq, aJoins_eq, aFstr_eq, aFmt_eq] at h ⊢; apply Fx.s_makeX <;> assumption)
theorem s_ixK {tabs : Tabs} {c : Nat} {z : Str} {kvs : List (Key × SV)} {d : D} (hc : δ.ce[c]? = some (.dic kvs)) (hi : lookC kvs (.inr z) = some (.im d)) (h : Ψ (.im d) δ) : (ixA tabs (.cl c) (.im (.str z)) δ).sat Ψ Ξ := by first | (walk_at "ix"; apply Fx.s_ixK <;> assumption) | (simp only [dOp_eq, pairsA_eq, aMake_eq] at h; walk_at "ix"; apply Fx.s_ixK <;> assumption) | (simp only [dCB1_eq, aJoins_eq, aFstr_eq, aFmt_eq] at h ⊢; apply Fx.s_ixK <;> assumption)
theorem s_lcF {it : AI} {g : AG} {t : AT} {vs : List Nat} (p : D → Bool) (f : D → D) (h : (it δ).sat (fun ds δ1 => ds.length ≤ 100000 ∧ (∀ d ∈ ds, ∃ δ2, g (.im d) ⟨wipeS δ1.sl vs, δ1.ce⟩ = some δ2 ∧ (t δ2).sat (fun b δ3 => b = p d ∧ δ3.ce = δ1.ce ∧ (b = true → (e δ3).sat (fun s δ4 => s = .im (f d) ∧ δ4.ce = δ1.ce) fun _ _ => False)) fun _ _ => False) ∧ Ψ (.im (.lst ((ds.filter p).map f))) δ1) Ξ) : (aLc it g t e vs δ).sat Ψ Ξ := by first | (walk_at "ix"; apply Fx.s_lcF <;> assumption) | (simp only [dOp_eq, pairsA_eq, aMake_eq] at h; walk_at "ix"; apply Fx.s_lcF <;> assumption) | (simp only [dCB1_eq, aJoins_eq, aFstr_eq, aFmt_eq] at h ⊢; apply Fx.s_lcF <;> assumption)
theorem s_lcCM {it : AI} {g : AG} {vs : List Nat} (f : D → D) (h : (it δ).sat (fun ds δ1 => ds.length ≤ 100000 ∧ (∀ d ∈ ds, ∃ δ2, g (.im d) ⟨wipeS δ1.sl vs, δ1.ce⟩ = some δ2 ∧ (e δ2).sat (fun s δ3 => s = .im (f d) ∧ δ3.ce = δ1.ce) fun _ _ => False) ∧ Ψ (.cl δ1.ce.length) ⟨δ1.sl, δ1.ce ++ [.lst ((ds.map f).map SV.im)]⟩) Ξ) : (aLcC it g aYes e vs δ).sat Ψ Ξ := by first | (walk_at "ix"; apply Fx.s_lcCM <;> assumption) | (simp only [dOp_eq, pairsA_eq, aMake_eq] at h; walk_at "ix"; apply Fx.s_lcCM <;> assumption) | (simp only [dCB1_eq, aJoins_eq, aFstr_eq, aFmt_eq] at h ⊢; apply Fx.s_lcCM <;> assumption)
theorem s_call0 {F : Fn} {dds : List D} (h : (r δ).sat (fun ss δ1 => (ss ++ dds.map SV.im).length = n ∧ (F (ss ++ dds.map SV.im) δ1.ce).sat (fun s ce => Ψ s ⟨δ1.sl, ce⟩) (fun _ _ => False)) Ξ) : (aCall0 n F dds r δ).sat Ψ Ξ := by first | (walk_at "ix"; apply Fx.s_call0 <;> assumption) | (simp only [dOp_eq, pairsA_eq, aMake_eq] at h; walk_at "ix"; apply Fx.s_call0 <;> assumption) | (simp only [dCB1_eq, aJoins_eq, aFstr_eq, aFmt_eq] at h ⊢; apply Fx.s_call0 <;> assumption)
theorem s_meth0 {tab : MTab} {m : Str} (h : (a δ).sat (fun s δ1 => ∃ C n F, clsS δ1 m s = some C ∧ tab.lookup C = some (n, F) ∧ (r δ1).sat (fun ss δ2 => (s :: ss).length = n ∧ (F (s :: ss) δ2.ce).sat (fun s ce => Ψ s ⟨δ2.sl, ce⟩) (fun _ _ => False)) Ξ) Ξ) : (aMeth0 tab m a r δ).sat Ψ Ξ := by first | (walk_at "ix"; apply Fx.s_meth0 <;> assumption) | (simp only [dOp_eq, pairsA_eq, aMake_eq] at h; walk_at "ix"; apply Fx.s_meth0 <;> assumption) | (simp only [dCB1_eq, aJoins_eq, aFstr_eq, aFmt_eq] at h ⊢; apply Fx.s_meth0 <;> assumption)
theorem s_cm {C : Str} {F : Fn} (h : (r δ).sat (fun ss δ1 => (SV.im (.glo C) :: ss).length = n ∧ (F (.im (.glo C) :: ss) δ1.ce).sat (fun s ce => Ψ s ⟨δ1.sl, ce⟩) (fun x ce => Ξ x ⟨δ1.sl, ce⟩)) Ξ) : (aCM C n F r δ).sat Ψ Ξ := by first | (walk_at "ix"; apply Fx.s_cm <;> assumption) | (simp only [dOp_eq, pairsA_eq, aMake_eq] at h; walk_at "ix"; apply Fx.s_cm <;> assumption) | (simp only [dCB1_eq, aJoins_eq, aFstr_eq, aFmt_eq] at h ⊢; apply Fx.s_cm <;> assumption)
theorem s_makeL {i : Nat} {x : Str} {F : Fn} {dds : List D} (hi : δ.sl[i]? = some (.im (.glo x))) (h : (aMake x n F dds r δ).sat Ψ Ξ) : (aMakeL i x n F dds r δ).sat Ψ Ξ := by first | (walk_at "ix"; apply Fx.s_makeL <;> assumption) | (simp only [dOp_eq, pairsA_eq, aMake_eq] at h; walk_at "ix"; apply Fx.s_makeL <;> assumption) | (simp only [dCB1_eq, aJoins_eq, aFstr_eq, aFmt_eq] at h ⊢; apply Fx.s_makeL <;> assumption)
theorem s_tryF {tab : List (XC × Bool)} {Y fld : Str} {dc : D} (h : (p δ).sat { Φ with ex := fun x δ1 => (tab.lookup x.cls = some true ∧ Φ.ex ⟨.own Y, [(fld, .im dc)]⟩ δ1) ∨ (tab.lookup x.cls = some false ∧ Φ.ex x δ1) }) : (aTryF tab Y fld dc p δ).sat Φ := by first | (walk_at "ix"; apply Fx.s_tryF <;> assumption) | (simp only [dOp_eq, pairsA_eq, aMake_eq] at h; walk_at "ix"; apply Fx.s_tryF <;> assumption) | (simp only [dCB1_eq, aJoins_eq, aFstr_eq, aFmt_eq] at h ⊢; apply Fx.s_tryF <;> assumption)
theorem s_eqXo {tab : MTab} {isi : Isi} {nf : List XC} {neg : Bool} {f : D → D → Option D} {s t : SV} {C : Str} {F : Fn} {k : XC} (h1 : clsS δ "__eq__" s = some C) (h2 : tab.lookup C = some (2, F)) (h3 : kindS δ t = some k) (h4 : nf.contains k = true) (h5 : (isi.lookup (k, .blt "int")).isSome = true)
    (h : (F [s, t] δ.ce).sat (fun z ce => ∃ c, z = .im (.bl c) ∧ Ψ (.im (.bl (c != neg))) ⟨δ.sl, ce⟩) fun _ _ => False) : (eqX tab isi nf neg f s t δ).sat Ψ Ξ := by first | (walk_at "ix"; apply Fx.s_eqXo <;> assumption) | (simp only [dOp_eq, pairsA_eq, aMake_eq] at h; walk_at "ix"; apply Fx.s_eqXo <;> assumption) | (simp only [dCB1_eq, aJoins_eq, aFstr_eq, aFmt_eq] at h ⊢; apply Fx.s_eqXo <;> assumption)
theorem s_eqXd {tab : MTab} {isi : Isi} {nf : List XC} {neg : Bool} {f : D → D → Option D} {s t : SV} (h1 : clsS δ "__eq__" s = none) (h : (dOp f s t δ).sat Ψ Ξ) : (eqX tab isi nf neg f s t δ).sat Ψ Ξ := by first | (walk_at "ix"; apply Fx.s_eqXd <;> assumption) | (simp only [dOp_eq, pairsA_eq, aMake_eq] at h; walk_at "ix"; apply Fx.s_eqXd <;> assumption) | (simp only [dCB1_eq, aJoins_eq, aFstr_eq, aFmt_eq] at h ⊢; apply Fx.s_eqXd <;> assumption)
theorem s_strXo {tab : MTab} {s : SV} {C : Str} {F : Fn} (h1 : clsS δ "__str__" s = some C) (h2 : tab.lookup C = some (1, F)) (h : (F [s] δ.ce).sat (fun z ce => ∃ c, z = .im (.str c) ∧ Ψ (.im (.str c)) ⟨δ.sl, ce⟩) fun _ _ => False) : (strX tab [s] δ).sat Ψ Ξ := by first | (walk_at "ix"; apply Fx.s_strXo <;> assumption) | (simp only [dOp_eq, pairsA_eq, aMake_eq] at h; walk_at "ix"; apply Fx.s_strXo <;> assumption) | (simp only [dCB1_eq, aJoins_eq, aFstr_eq, aFmt_eq] at h ⊢; apply Fx.s_strXo <;> assumption)
theorem s_star (h : (a δ).sat (fun s δ1 => ∃ ds, (s = .im (.lst ds) ∨ s = .im (.tup ds)) ∧ (r δ1).sat (fun ss δ2 => Ψl (ds.map SV.im ++ ss) δ2) Ξ) Ξ) : (aStar a r δ).sat Ψl Ξ := by first | (walk_at "ix"; apply Fx.s_star <;> assumption) | (simp only [dOp_eq, pairsA_eq, aMake_eq] at h; walk_at "ix"; apply Fx.s_star <;> assumption) | (simp only [dCB1_eq, aJoins_eq, aFstr_eq, aFmt_eq] at h ⊢; apply Fx.s_star <;> assumption)
theorem s_inG {tabs : Tabs} {neg : Bool} {f : D → D → Option D} {x z : Str} {kvs : List (Str × D)} (h1 : tabs.lookup x = some kvs) (h : Ψ (.im (.bl ((kvs.lookup z).isSome != neg))) δ) : (inG tabs neg f (.im (.str z)) (.im (.glo x)) δ).sat Ψ Ξ := by first | (walk_at "ix"; apply Fx.s_inG <;> assumption) | (simp only [dOp_eq, pairsA_eq, aMake_eq] at h; walk_at "ix"; apply Fx.s_inG <;> assumption) | (simp only [dCB1_eq, aJoins_eq, aFstr_eq, aFmt_eq] at h ⊢; apply Fx.s_inG <;> assumption)
theorem s_pop {c : Nat} {us : List SV} {i : Int} {u : SV} (hc : δ.ce[c]? = some (.lst us)) (hi : 0 ≤ i ∧ i < us.length ∧ us.length < 1000000) (hu : us[i.toNat]? = some u) (h : Ψ (nrm δ.ce u) ⟨δ.sl, δ.ce.set c (.lst (us.eraseIdx i.toNat))⟩) : (popA (.cl c) [.im (.int i)] δ).sat Ψ Ξ := by first | (walk_at "ix"; apply Fx.s_pop <;> assumption) | (simp only [dOp_eq, pairsA_eq, aMake_eq] at h; walk_at "ix"; apply Fx.s_pop <;> assumption) | (simp only [dCB1_eq, aJoins_eq, aFstr_eq, aFmt_eq] at h ⊢; apply Fx.s_pop <;> assumption)
theorem s_insert {c : Nat} {us : List SV} {i : Int} {u : SV} (hc : δ.ce[c]? = some (.lst us)) (hi : 0 ≤ i ∧ i < 1000000 ∧ us.length < 100000) (h : Ψ (.im .non) ⟨δ.sl, δ.ce.set c (.lst (us.take i.toNat ++ [u] ++ us.drop i.toNat))⟩) : (insertA (.cl c) [.im (.int i), u] δ).sat Ψ Ξ := by first | (walk_at "ix"; apply Fx.s_insert <;> assumption) | (simp only [dOp_eq, pairsA_eq, aMake_eq] at h; walk_at "ix"; apply Fx.s_insert <;> assumption) | (simp only [dCB1_eq, aJoins_eq, aFstr_eq, aFmt_eq] at h ⊢; apply Fx.s_insert <;> assumption)
theorem s_splitC {x y : Str} (hx : x.length ≤ 1000000) (hy : (y.length == 0) = false) (h : Ψ (.cl δ.ce.length) ⟨δ.sl, δ.ce ++ [.lst ((Txt.split x y).map fun z => .im (.str z))]⟩) : (splitC (.im (.str x)) [.im (.str y)] δ).sat Ψ Ξ := by first | (walk_at "ix"; apply Fx.s_splitC <;> assumption) | (simp only [dOp_eq, pairsA_eq, aMake_eq] at h; walk_at "ix"; apply Fx.s_splitC <;> assumption) | (simp only [dCB1_eq, aJoins_eq, aFstr_eq, aFmt_eq] at h ⊢; apply Fx.s_splitC <;> assumption)
theorem s_eqK {neg : Bool} {f : D → D → Option D} {s t : SV} {ks ls : List (Key × D)} (h1 : dv δ.ce s = some (.dic ks)) (h2 : dv δ.ce t = some (.dic ls)) (h3 : ks.length = ls.length ∧ flatK ls ks = true) (h : Ψ (.im (.bl (allD' ls ks != neg))) δ) : (eqK neg f s t δ).sat Ψ Ξ := by first | (walk_at "ix"; apply Fx.s_eqK <;> assumption) | (simp only [dOp_eq, pairsA_eq, aMake_eq] at h; walk_at "ix"; apply Fx.s_eqK <;> assumption) | (simp only [dCB1_eq, aJoins_eq, aFstr_eq, aFmt_eq] at h ⊢; apply Fx.s_eqK <;> assumption)
theorem s_isiT {isi : Isi} {s : SV} {k : XC} {d : D} {ds : List D} {c : Bool} (h1 : kindS δ s = some k) (h2 : isiL isi k (d :: ds) = some c) (h : Ψ (.im (.bl c)) δ) : (isiT isi [s, .im (.tup (d :: ds))] δ).sat Ψ Ξ := by first | (walk_at "ix"; apply Fx.s_isiT <;> assumption) | (simp only [dOp_eq, pairsA_eq, aMake_eq] at h; walk_at "ix"; apply Fx.s_isiT <;> assumption) | (simp only [dCB1_eq, aJoins_eq, aFstr_eq, aFmt_eq] at h ⊢; apply Fx.s_isiT <;> assumption)
theorem s_own {isi : Isi} {tab : MTab} {m : Str} {f : AOp} (h : (a δ).sat (fun s δ1 => (b δ1).sat (fun t δ2 => (∃ C F, clsS δ2 m s = some C ∧ tab.lookup C = some (2, F) ∧ kindS δ2 t = some (.own C) ∧ (isi.lookup (.own C, .blt "int")).isSome = true ∧ (F [s, t] δ2.ce).sat (fun z ce => Ψ z ⟨δ2.sl, ce⟩) fun x ce => Ξ x ⟨δ2.sl, ce⟩) ∨ (clsS δ2 m s = none ∧ (f s t δ2).sat Ψ Ξ)) Ξ) Ξ) : (aOwn isi tab m f a b δ).sat Ψ Ξ := by first | (walk_at "ix"; apply Fx.s_own <;> assumption) | (simp only [dOp_eq, pairsA_eq, aMake_eq] at h; walk_at "ix"; apply Fx.s_own <;> assumption) | (simp only [dCB1_eq, aJoins_eq, aFstr_eq, aFmt_eq] at h ⊢; apply Fx.s_own <;> assumption)
theorem s_augO {isi : Isi} {tab : MTab} {m : Str} {i : Nat} {s : SV} (hs : δ.sl[i]? = some s) (hn : s ≠ .no) (h : (e δ).sat (fun t δ1 => ∃ C F, clsS δ1 m s = some C ∧ tab.lookup C = some (2, F) ∧ kindS δ1 t = some (.own C) ∧ (isi.lookup (.own C, .blt "int")).isSome = true ∧ (F [s, t] δ1.ce).sat (fun z ce => Φ.nx ⟨δ1.sl.set i z, ce⟩) fun _ _ => False) fun _ _ => False) : (aAugO isi tab m i e δ).sat Φ := by first | (walk_at "ix"; apply Fx.s_augO <;> assumption) | (simp only [dOp_eq, pairsA_eq, aMake_eq] at h; walk_at "ix"; apply Fx.s_augO <;> assumption) | (simp only [dCB1_eq, aJoins_eq, aFstr_eq, aFmt_eq] at h ⊢; apply Fx.s_augO <;> assumption)
theorem s_raise0 {x : Str} (h : Φ.ex ⟨.own x, []⟩ δ) : (aRaise0 x δ).sat Φ := by first | (walk_at "ix"; apply Fx.s_raise0 <;> assumption) | (simp only [dOp_eq, pairsA_eq, aMake_eq] at h; walk_at "ix"; apply Fx.s_raise0 <;> assumption) | (simp only [dCB1_eq, aJoins_eq, aFstr_eq, aFmt_eq] at h ⊢; apply Fx.s_raise0 <;> assumption)
theorem s_isz {tab : Isi} {c : Nat} {t : SV} {k cc : XC} {fs : List (Str × SV)} {d : D} {z : Bool} (h1 : δ.ce[c]? = some (.exc k fs)) (h2 : dv δ.ce t = some d) (h3 : clsD d = some cc) (h4 : tab.lookup (k, cc) = some z) (h : Ψ (.im (.bl z)) δ) : (isxZ tab [.cl c, t] δ).sat Ψ Ξ := by first | (walk_at "ix"; apply Fx.s_isz <;> assumption) | (simp only [dOp_eq, pairsA_eq, aMake_eq] at h; walk_at "ix"; apply Fx.s_isz <;> assumption) | (simp only [dCB1_eq, aJoins_eq, aFstr_eq, aFmt_eq] at h ⊢; apply Fx.s_isz <;> assumption)
theorem s_rev (h : (a δ).sat (fun s δ1 => ∃ ds, dv δ1.ce s = some (.lst ds) ∧ Ψ (.im (.lst ds.reverse)) δ1) Ξ) : (aRev a δ).sat Ψ Ξ := by first | (walk_at "ix"; apply Fx.s_rev <;> assumption) | (simp only [dOp_eq, pairsA_eq, aMake_eq] at h; walk_at "ix"; apply Fx.s_rev <;> assumption) | (simp only [dCB1_eq, aJoins_eq, aFstr_eq, aFmt_eq] at h ⊢; apply Fx.s_rev <;> assumption)
theorem s_append {c : Nat} {us : List SV} {t : SV} (hc : δ.ce[c]? = some (.lst us)) (hl : us.length < 100000) (h : Ψ (.im .non) ⟨δ.sl, δ.ce.set c (.lst (us ++ [t]))⟩) : (appendA (.cl c) [t] δ).sat Ψ Ξ := by first | (walk_at "ix"; apply Fx.s_append <;> assumption) | (simp only [dOp_eq, pairsA_eq, aMake_eq] at h; walk_at "ix"; apply Fx.s_append <;> assumption) | (simp only [dCB1_eq, aJoins_eq, aFstr_eq, aFmt_eq] at h ⊢; apply Fx.s_append <;> assumption)
theorem s_zipM {Ψi : List D → Sta → Prop} (h : (r δ).sat (fun ss δ1 => ∃ s t x ce1 y ce2 k ds j es, ss = [s, t] ∧ toIm δ1.ce s = some (x, ce1) ∧ toIm ce1 t = some (y, ce2) ∧ seqD x = some (k, ds) ∧ seqD y = some (j, es) ∧ Ψi (zipD ds es) ⟨δ1.sl, ce2⟩) Ξ) : (aZipM r δ).sat Ψi Ξ := by first | (walk_at "ix"; apply Fx.s_zipM <;> assumption) | (simp only [dOp_eq, pairsA_eq, aMake_eq] at h; walk_at "ix"; apply Fx.s_zipM <;> assumption) | (simp only [dCB1_eq, aJoins_eq, aFstr_eq, aFmt_eq] at h ⊢; apply Fx.s_zipM <;> assumption)
theorem s_chain {o o' : AOp} (h : (a δ).sat (fun s δ1 => (b δ1).sat (fun t δ2 => (o s t δ2).sat (fun z δ3 => ∃ k, dv δ3.ce z = some (.bl k) ∧ (k = true → (c δ3).sat (fun u δ4 => (o' t u δ4).sat Ψ Ξ) Ξ) ∧ (k = false → Ψ (.im (.bl false)) δ3)) Ξ) Ξ) Ξ) : (aChain o o' a b c δ).sat Ψ Ξ := by first | (walk_at "ix"; apply Fx.s_chain <;> assumption) | (simp only [dOp_eq, pairsA_eq, aMake_eq] at h; walk_at "ix"; apply Fx.s_chain <;> assumption) | (simp only [dCB1_eq, aJoins_eq, aFstr_eq, aFmt_eq] at h ⊢; apply Fx.s_chain <;> assumption)
theorem s_lcP {it : AI} {g : AG} {vs : List Nat} (f : D → D) (h : (it δ).sat (fun ds δ1 => ds.length ≤ 100000 ∧ (∀ d ∈ ds, ∃ δ2, g (.im d) ⟨wipeS δ1.sl vs, δ1.ce⟩ = some δ2 ∧ (e δ2).sat (fun s δ4 => s = .im (f d) ∧ δ4.ce = δ2.ce) (fun _ _ => False) ∧ δ2.ce = δ1.ce) ∧ Ψ (.im (.lst (ds.map f))) δ1) Ξ) : (aLc it g aYes e vs δ).sat Ψ Ξ := by first | (walk_at "ix"; apply Fx.s_lcP <;> assumption) | (simp only [dOp_eq, pairsA_eq, aMake_eq] at h; walk_at "ix"; apply Fx.s_lcP <;> assumption) | (simp only [dCB1_eq, aJoins_eq, aFstr_eq, aFmt_eq] at h ⊢; apply Fx.s_lcP <;> assumption)
theorem s_tupI {d : D} {k : Bool} {ds : List D} (e : seqD d = some (k, ds)) (h : Ψ (.im (.tup ds)) δ) : (tupleA [.im d] δ).sat Ψ Ξ := by first | (walk_at "ix"; apply Fx.s_tupI <;> assumption) | (simp only [dOp_eq, pairsA_eq, aMake_eq] at h; walk_at "ix"; apply Fx.s_tupI <;> assumption) | (simp only [dCB1_eq, aJoins_eq, aFstr_eq, aFmt_eq] at h ⊢; apply Fx.s_tupI <;> assumption)
theorem s_lcR {it : AI} {g : AG} {vs : List Nat} (J : List D → List D → List CO → Prop) (h : (it δ).sat (fun ds δ1 => ds.length ≤ 100000 ∧ J ds [] δ1.ce ∧ (∀ d ds acc ce, J (d :: ds) acc ce → ∃ δ2, g (.im d) ⟨wipeS δ1.sl vs, ce⟩ = some δ2 ∧ (t δ2).sat (fun b δ2 => (b = true → (e δ2).sat (fun s δ3 => ∃ y ce3, toIm δ3.ce s = some (y, ce3) ∧ J ds (acc ++ [y]) (cutOr ce ce3)) fun _ _ => False) ∧ (b = false → J ds acc (cutOr ce δ2.ce))) fun _ _ => False) ∧ ∀ acc ce, J [] acc ce → Ψ (.im (.lst acc)) ⟨δ1.sl, ce⟩) Ξ) : (aLc it g t e vs δ).sat Ψ Ξ := by first | (walk_at "ix"; apply Fx.s_lcR <;> assumption) | (simp only [dOp_eq, pairsA_eq, aMake_eq] at h; walk_at "ix"; apply Fx.s_lcR <;> assumption) | (simp only [dCB1_eq, aJoins_eq, aFstr_eq, aFmt_eq] at h ⊢; apply Fx.s_lcR <;> assumption)
theorem s_enum {Ψi : List D → Sta → Prop} (h : (r δ).sat (fun ss δ1 => ∃ s x ce1 k ds, ss = [s] ∧ toIm δ1.ce s = some (x, ce1) ∧ seqD x = some (k, ds) ∧ Ψi (enumD ds) ⟨δ1.sl, ce1⟩) Ξ) : (aEnum r δ).sat Ψi Ξ := by first | (walk_at "ix"; apply Fx.s_enum <;> assumption) | (simp only [dOp_eq, pairsA_eq, aMake_eq] at h; walk_at "ix"; apply Fx.s_enum <;> assumption) | (simp only [dCB1_eq, aJoins_eq, aFstr_eq, aFmt_eq] at h ⊢; apply Fx.s_enum <;> assumption)
theorem s_fmt (h : (a δ).sat (fun s δ1 => (dCB1 fmtD [s] δ1).sat Ψ Ξ) Ξ) : (aFmt a δ).sat Ψ Ξ := by first | (walk_at "ix"; apply Fx.s_fmt <;> assumption) | (simp only [dOp_eq, pairsA_eq, aMake_eq] at h; walk_at "ix"; apply Fx.s_fmt <;> assumption) | (simp only [dCB1_eq, aJoins_eq, aFstr_eq, aFmt_eq] at h ⊢; apply Fx.s_fmt <;> assumption)
theorem s_fmtS {y : Str} (hl : y.length ≤ 1000000) (h : Ψ (.im (.str y)) δ) : (dCB1 fmtD [.im (.str y)] δ).sat Ψ Ξ := by first | (walk_at "ix"; apply Fx.s_fmtS <;> assumption) | (simp only [dOp_eq, pairsA_eq, aMake_eq] at h; walk_at "ix"; apply Fx.s_fmtS <;> assumption) | (simp only [dCB1_eq, aJoins_eq, aFstr_eq, aFmt_eq] at h ⊢; apply Fx.s_fmtS <;> assumption)
theorem s_fmtI {i : Int} (hl : i.natAbs.log2 < 1920) (h : Ψ (.im (.str (Str.ofString (toString i)))) δ) : (dCB1 fmtD [.im (.int i)] δ).sat Ψ Ξ := by first | (walk_at "ix"; apply Fx.s_fmtI <;> assumption) | (simp only [dOp_eq, pairsA_eq, aMake_eq] at h; walk_at "ix"; apply Fx.s_fmtI <;> assumption) | (simp only [dCB1_eq, aJoins_eq, aFstr_eq, aFmt_eq] at h ⊢; apply Fx.s_fmtI <;> assumption)
theorem s_joins0 {acc : Str} (h : Ψ (.im (.str acc)) δ) : (aJoins [] acc δ).sat Ψ Ξ := by first | (walk_at "ix"; apply Fx.s_joins0 <;> assumption) | (simp only [dOp_eq, pairsA_eq, aMake_eq] at h; walk_at "ix"; apply Fx.s_joins0 <;> assumption) | (simp only [dCB1_eq, aJoins_eq, aFstr_eq, aFmt_eq] at h ⊢; apply Fx.s_joins0 <;> assumption)
theorem s_joins {as : List AE} {acc : Str} (h : (a δ).sat (fun s δ1 => ∃ y, imS δ1.ce s = some (.str y) ∧ (acc ++ y).length ≤ 1000000 ∧ (aJoins as (acc ++ y) δ1).sat Ψ Ξ) Ξ) : (aJoins (a :: as) acc δ).sat Ψ Ξ := by first | (walk_at "ix"; apply Fx.s_joins <;> assumption) | (simp only [dOp_eq, pairsA_eq, aMake_eq] at h; walk_at "ix"; apply Fx.s_joins <;> assumption) | (simp only [dCB1_eq, aJoins_eq, aFstr_eq, aFmt_eq] at h ⊢; apply Fx.s_joins <;> assumption)
theorem s_fstr {as : List AE} (h : (aJoins as Str.empty δ).sat Ψ Ξ) : (aFstr as δ).sat Ψ Ξ := by first | (walk_at "ix"; apply Fx.s_fstr <;> assumption) | (simp only [dOp_eq, pairsA_eq, aMake_eq] at h; walk_at "ix"; apply Fx.s_fstr <;> assumption) | (simp only [dCB1_eq, aJoins_eq, aFstr_eq, aFmt_eq] at h ⊢; apply Fx.s_fstr <;> assumption)
theorem s_lcKP {g : AG} {vs : List Nat} (f : SV → D) (h : (a δ).sat (fun s δ1 => ∃ c us, s = .cl c ∧ δ1.ce[c]? = some (.lst us) ∧ us.length ≤ 100000 ∧ (∀ u ∈ us, ∃ δ2, g u ⟨wipeS δ1.sl vs, δ1.ce⟩ = some δ2 ∧ (e δ2).sat (fun s δ4 => s = .im (f u) ∧ δ4.ce = δ1.ce) (fun _ _ => False) ∧ δ2.ce = δ1.ce) ∧ Ψ (.im (.lst (us.map f))) δ1) Ξ) : (aLcK a g aYes e vs δ).sat Ψ Ξ := by first | (walk_at "ix"; apply Fx.s_lcKP <;> assumption) | (simp only [dOp_eq, pairsA_eq, aMake_eq] at h; walk_at "ix"; apply Fx.s_lcKP <;> assumption) | (simp only [dCB1_eq, aJoins_eq, aFstr_eq, aFmt_eq] at h ⊢; apply Fx.s_lcKP <;> assumption)
theorem s_bareW {s : Str} {ce : List CO} {Φ : Post} (hl : s.length ≤ 999) (h : Φ.nx ⟨[.im (.str (bare s))], ce⟩) : (aWhile 1000 (aTest (aOp (dOp eqD) (aSl (aVar 0) (aPart (aNeg (aC (.int 1)))) aNoPart) (aC (.str " ")))) (aAsg (aSl (aVar 0) aNoPart (aPart (aNeg (aC (.int 1))))) (gNm 0)) ⟨[.im (.str s)], ce⟩).sat Φ := by first | (walk_at "ix"; apply Fx.s_bareW <;> assumption) | (simp only [dOp_eq, pairsA_eq, aMake_eq] at h; walk_at "ix"; apply Fx.s_bareW <;> assumption) | (simp only [dCB1_eq, aJoins_eq, aFstr_eq, aFmt_eq] at h ⊢; apply Fx.s_bareW <;> assumption)
theorem s_listS {δ : Sta} {Ψ : SV → Sta → Prop} {Ξ : Xn → Sta → Prop} {z : Str} (hl : z.length ≤ 100000) (h : Ψ (.im (.lst (chsD z))) δ) : (listB [.im (.str z)] δ).sat Ψ Ξ := by first | (walk_at "ix"; apply Fx.s_listS <;> assumption) | (simp only [dOp_eq, pairsA_eq, aMake_eq] at h; walk_at "ix"; apply Fx.s_listS <;> assumption) | (simp only [dCB1_eq, aJoins_eq, aFstr_eq, aFmt_eq] at h ⊢; apply Fx.s_listS <;> assumption)
theorem s_listT {δ : Sta} {Ψ : SV → Sta → Prop} {Ξ : Xn → Sta → Prop} {x : D} {k : Bool} {ds : List D} (e : seqD x = some (k, ds)) (h : Ψ (.im (.lst ds)) δ) : (listB [.im x] δ).sat Ψ Ξ := by first | (walk_at "ix"; apply Fx.s_listT <;> assumption) | (simp only [dOp_eq, pairsA_eq, aMake_eq] at h; walk_at "ix"; apply Fx.s_listT <;> assumption) | (simp only [dCB1_eq, aJoins_eq, aFstr_eq, aFmt_eq] at h ⊢; apply Fx.s_listT <;> assumption)
theorem s_thaw0 {is : List Nat} (hn : noCl is δ.sl = true) (h : (a δ).sat Ψ Ξ) : (aThaw is a δ).sat Ψ Ξ := by first | (walk_at "ix"; apply Fx.s_thaw0 <;> assumption) | (simp only [dOp_eq, pairsA_eq, aMake_eq] at h; walk_at "ix"; apply Fx.s_thaw0 <;> assumption) | (simp only [dCB1_eq, aJoins_eq, aFstr_eq, aFmt_eq] at h ⊢; apply Fx.s_thaw0 <;> assumption)
theorem s_thaw {is : List Nat} (hn : noCl is δ.sl = false) (h : ∃ ce1, frzV is δ.sl δ.ce = some ce1 ∧ (a ⟨δ.sl, ce1⟩).sat (fun s δ2 => scalS s = true ∧ thawL δ.ce ce1 δ2.ce = true ∧ Ψ s δ) fun _ _ => False) : (aThaw is a δ).sat Ψ Ξ := by first | (walk_at "ix"; apply Fx.s_thaw <;> assumption) | (simp only [dOp_eq, pairsA_eq, aMake_eq] at h; walk_at "ix"; apply Fx.s_thaw <;> assumption) | (simp only [dCB1_eq, aJoins_eq, aFstr_eq, aFmt_eq] at h ⊢; apply Fx.s_thaw <;> assumption)
theorem s_lcV {it : AI} {g : AG} {e : AE} {vs : List Nat} (J : List D → List SV → List CO → Prop) (h : (it δ).sat (fun ds δ1 => ds.length ≤ 100000 ∧ J ds [] δ1.ce ∧ (∀ d ds acc ce, J (d :: ds) acc ce → ∃ δ2, g (.im d) ⟨wipeS δ1.sl vs, ce⟩ = some δ2 ∧ (e δ2).sat (fun s δ3 => J ds (acc ++ [s]) δ3.ce) fun _ _ => False) ∧ ∀ acc ce, J [] acc ce → Ψ (.cl ce.length) ⟨δ1.sl, ce ++ [.lst acc]⟩) Ξ) : (aLcV it g aYes e vs δ).sat Ψ Ξ := by first | (walk_at "ix"; apply Fx.s_lcV <;> assumption) | (simp only [dOp_eq, pairsA_eq, aMake_eq] at h; walk_at "ix"; apply Fx.s_lcV <;> assumption) | (simp only [dCB1_eq, aJoins_eq, aFstr_eq, aFmt_eq] at h ⊢; apply Fx.s_lcV <;> assumption)
theorem s_mulL {xs : List D} {n : Int} (hc : xs.length ≤ 1000 ∧ -1000 ≤ n ∧ n ≤ 1000) (h : Ψ (.im (.lst (repD n.toNat xs))) δ) : (mulA (.im (.lst xs)) (.im (.int n)) δ).sat Ψ Ξ := by first | (walk_at "ix"; apply Fx.s_mulL <;> assumption) | (simp only [dOp_eq, pairsA_eq, aMake_eq] at h; walk_at "ix"; apply Fx.s_mulL <;> assumption) | (simp only [dCB1_eq, aJoins_eq, aFstr_eq, aFmt_eq] at h ⊢; apply Fx.s_mulL <;> assumption)
theorem s_refu {c : Nat} {x : Str} {tab : List (XC × Bool)} {xn fld : Str} (hc : δ.ce[c]? = some (.tbl x)) (h : (e δ).sat (fun _ δ1 => ∃ ce2, cutTo δ.ce δ1.ce = some ce2 ∧ Ψ (.im .non) ⟨δ.sl, ce2⟩) (fun y δ1 => ∃ d ce2, y = ⟨.own xn, [(fld, .im d)]⟩ ∧ tab.lookup (.own xn) = some true ∧ cutTo δ.ce δ1.ce = some ce2 ∧ Ψ (.im d) ⟨δ.sl, ce2⟩)) : (aRefu c x tab xn fld e δ).sat Ψ Ξ := by first | (walk_at "ix"; apply Fx.s_refu <;> assumption) | (simp only [dOp_eq, pairsA_eq, aMake_eq] at h; walk_at "ix"; apply Fx.s_refu <;> assumption) | (simp only [dCB1_eq, aJoins_eq, aFstr_eq, aFmt_eq] at h ⊢; apply Fx.s_refu <;> assumption)
end
end Ix

set_option Elab.async false
set_option linter.all false
set_option autoImplicit false
set_option maxRecDepth 100000
set_option maxHeartbeats 0
namespace K07.G
open PySem L2
open Fx hiding aC aVar aOp aNil aCons aTest aAnd aOr aNot aYes aAndV aOrV aNotV aNeg aIf aChain aLst aLstC aTup aCB aFld aCall aMake aMakeC aMeth aBM aBM0 aBMd aSl aPart aNoPart aNext aSeq aAsg aRet aRetN aExpr aIfS aPar aBreak aCont aNever aDput aFor aForC aWhile aIt aRg1 aRg2 aItems aLstRg aLc aDisp aDispS aDef aDefC dOp addA ixA dCB1 dCB2 dBM0 dBM1 isiA listA listC tupleA dictC appendA updateA aDnew pairsA aMethKW aMakeKW aRaise aTry aXF isxA aZip aLcC aCall0 aMeth0 eqX strX aCM aMakeL aTryF aStar inG popA insertA splitC eqK aOwn aAugO isiT aRaise0 isxZ aRev aZipM aEnum aFmt aJoins aFstr aLcK listB aThaw aLcV mulA aRefu s_c s_var s_varI s_varC s_op s_dop s_nil s_cons s_test s_and s_or s_not s_yes s_andV s_orV s_notV s_neg s_if s_lst s_lstC s_tup s_cb s_cb1 s_cb2 s_fld s_call s_meth s_bm s_bm0 s_bm1 s_bmz s_isi s_sl s_nopart s_part s_next s_seq s_asg s_set s_ret s_retN s_expr s_ifS s_par s_dput s_pairs0 s_pairs s_disp s_rg1 s_rg2 s_it s_for s_forC s_lc s_def s_defC s_make s_varB s_varF s_addI s_addS s_addL s_addT s_subI s_mulI s_mulS s_fdivI s_modI s_powI s_ltI s_leI s_gtI s_geI s_ltS s_eqI s_eqS s_neI s_neS s_eqB' s_neB s_isN s_isnotN s_isB s_isnotB s_absI s_intI s_intB s_lenL s_lenT s_lenR s_lenS s_ixC s_ixL s_ixT s_ixR s_ixS s_ixD s_ixG s_asgIx s_intB2 s_ixR2 s_ixL2 s_make2 s_forU s_items s_inT s_inL s_dispS s_fld2 s_bare s_lcM s_methKW s_makeKW s_bmd s_update s_zip s_raise s_try s_xf s_isx s_lcC s_asgIxG s_makeX s_ixK s_lcF s_lcCM s_call0 s_meth0 s_cm s_makeL s_tryF s_eqXo s_eqXd s_strXo s_star s_inG s_pop s_insert s_splitC s_eqK s_isiT s_own s_augO s_raise0 s_isz s_rev s_append s_zipM s_chain s_lcP s_tupI s_lcR s_enum s_fmt s_fmtS s_fmtI s_joins0 s_joins s_fstr s_lcKP s_bareW s_listS s_listT s_thaw0 s_thaw s_lcV s_mulL s_refu
open Ix
local macro_rules | `(tactic| walk_at "ix") => `(tactic| simp only [Ix.aC_eq, Ix.aVar_eq, Ix.aOp_eq, Ix.aNil_eq, Ix.aCons_eq, Ix.aTest_eq, Ix.aAnd_eq, Ix.aOr_eq, Ix.aNot_eq, Ix.aYes_eq, Ix.aAndV_eq, Ix.aOrV_eq, Ix.aNotV_eq, Ix.aNeg_eq, Ix.aIf_eq, Ix.aChain_eq, Ix.aLst_eq, Ix.aLstC_eq, Ix.aTup_eq, Ix.aCB_eq, Ix.aFld_eq, Ix.aCall_eq, Ix.aMake_eq, Ix.aMakeC_eq, Ix.aMeth_eq, Ix.aBM_eq, Ix.aBM0_eq, Ix.aBMd_eq, Ix.aSl_eq, Ix.aPart_eq, Ix.aNoPart_eq, Ix.aNext_eq, Ix.aSeq_eq, Ix.aAsg_eq, Ix.aRet_eq, Ix.aRetN_eq, Ix.aExpr_eq, Ix.aIfS_eq, Ix.aPar_eq, Ix.aBreak_eq, Ix.aCont_eq, Ix.aNever_eq, Ix.aDput_eq, Ix.aFor_eq, Ix.aForC_eq, Ix.aWhile_eq, Ix.aIt_eq, Ix.aRg1_eq, Ix.aRg2_eq, Ix.aItems_eq, Ix.aLstRg_eq, Ix.aLc_eq, Ix.aDisp_eq, Ix.aDispS_eq, Ix.aDef_eq, Ix.aDefC_eq, Ix.dOp_eq, Ix.addA_eq, Ix.ixA_eq, Ix.dCB1_eq, Ix.dCB2_eq, Ix.dBM0_eq, Ix.dBM1_eq, Ix.isiA_eq, Ix.listA_eq, Ix.listC_eq, Ix.tupleA_eq, Ix.dictC_eq, Ix.appendA_eq, Ix.updateA_eq, Ix.aDnew_eq, Ix.pairsA_eq, Ix.aMethKW_eq, Ix.aMakeKW_eq, Ix.aRaise_eq, Ix.aTry_eq, Ix.aXF_eq, Ix.isxA_eq, Ix.aZip_eq, Ix.aLcC_eq, Ix.aCall0_eq, Ix.aMeth0_eq, Ix.eqX_eq, Ix.strX_eq, Ix.aCM_eq, Ix.aMakeL_eq, Ix.aTryF_eq, Ix.aStar_eq, Ix.inG_eq, Ix.popA_eq, Ix.insertA_eq, Ix.splitC_eq, Ix.eqK_eq, Ix.aOwn_eq, Ix.aAugO_eq, Ix.isiT_eq, Ix.aRaise0_eq, Ix.isxZ_eq, Ix.aRev_eq, Ix.aZipM_eq, Ix.aEnum_eq, Ix.aFmt_eq, Ix.aJoins_eq, Ix.aFstr_eq, Ix.aLcK_eq, Ix.listB_eq, Ix.aThaw_eq, Ix.aLcV_eq, Ix.mulA_eq, Ix.aRefu_eq])
def t__law_box : Fn := aDefC 4
    (aSeq (aAsg (aOp addA (aOp (dOp mulD) (aC (.int 6701)) (aVar 1)) (aC (.int 47))) (gNm 2))
    (aSeq (aIfS (aTest (aOp (dOp ltD) (aVar 1) (aCB (dCB1 lenD) (aCons (aVar 0) aNil)))) (aAsg (aCB (dCB1 absD) (aCons (aCB (dCB1 intD) (aCons (aOp (ixA tabs) (aVar 0) (aVar 1)) aNil)) aNil)) (gNm 2)) (aIfS (aTest (aOp (dOp gtD) (aCB (dCB1 lenD) (aCons (aVar 0) aNil)) (aC (.int 0)))) (aAsg (aOp addA (aVar 2) (aOp (dOp mulD) (aOp (dOp modD) (aCB (dCB1 intD) (aCons (aOp (ixA tabs) (aVar 0) (aOp (dOp modD) (aCB (dCB1 intD) (aCons (aVar 1) aNil)) (aCB (dCB1 lenD) (aCons (aVar 0) aNil)))) aNil)) (aC (.int 2147483629))) (aC (.int 69539)))) (gNm 2)) aNext))
    (aSeq (aAsg (aOp addA (aOp (dOp modD) (aCB (dCB1 intD) (aCons (aOp addA (aOp addA (aOp (dOp mulD) (aOp (dOp modD) (aCB (dCB1 intD) (aCons (aVar 2) aNil)) (aC (.int 2147483629))) (aC (.int 48281))) (aOp (dOp mulD) (aC (.int 40847)) (aVar 1))) (aC (.int 7))) aNil)) (aC (.int 2147483629))) (aC (.int 1))) (gNm 3))
    (aRet (aLstC (aCons (aOp (ixA tabs) (aLst (aCons (aC (.int 0)) (aCons (aVar 2) aNil))) (aCB (dCB1 intD) (aCons (aOp (dOp geD) (aVar 2) (aOp (dOp powD) (aC (.int 10)) (aC (.int 18)))) aNil))) (aCons (aVar 3) (aCons (aC (.int 0)) aNil))))))))
theorem t__law_box_eq : K07.G.t__law_box = K07.t__law_box := by
  unfold K07.G.t__law_box K07.t__law_box
  walk_at "ix"
@[reducible] def f__law_box : Fn := loc t__law_box
theorem f__law_box_eq : K07.G.f__law_box = K07.f__law_box := by
  unfold K07.G.f__law_box K07.f__law_box
  rw [t__law_box_eq]
def t_Ways_rules : Fn := aDefC 2
    (aSeq (aAsg (aDisp [((aC (.str "case")), (aFld ct (aVar 0) "case")), ((aC (.str "blanks")), (aFld ct (aVar 0) "blanks")), ((aC (.str "empty")), (aFld ct (aVar 0) "empty")), ((aC (.str "lacking")), (aFld ct (aVar 0) "lacking"))]) (gNm 1))
    (aRet (aDispS (aVar 1) [((aC (.str "last")), (aFld ct (aVar 0) "last")), ((aC (.str "unit")), (aFld ct (aVar 0) "unit")), ((aC (.str "halves")), (aFld ct (aVar 0) "halves"))])))
theorem t_Ways_rules_eq : K07.G.t_Ways_rules = K07.t_Ways_rules := by
  unfold K07.G.t_Ways_rules K07.t_Ways_rules
  walk_at "ix"
@[reducible] def f_Ways_rules : Fn := loc t_Ways_rules
theorem f_Ways_rules_eq : K07.G.f_Ways_rules = K07.f_Ways_rules := by
  unfold K07.G.f_Ways_rules K07.f_Ways_rules
  rw [t_Ways_rules_eq]
def t_is_integer : Fn := aDef 1
    (aRet (aAndV (aCB (isiA isi) (aCons (aVar 0) (aCons (aC (.ty "int")) aNil))) (aNotV (aCB (isiA isi) (aCons (aVar 0) (aCons (aC (.ty "bool")) aNil))))))
theorem t_is_integer_eq : K07.G.t_is_integer = K07.t_is_integer := by
  unfold K07.G.t_is_integer K07.t_is_integer
  walk_at "ix"
@[reducible] def f_is_integer : Fn := loc t_is_integer
theorem f_is_integer_eq : K07.G.f_is_integer = K07.f_is_integer := by
  unfold K07.G.f_is_integer K07.f_is_integer
  rw [t_is_integer_eq]
def t_is_rule : Fn := aDef 2
    (aSeq (aIfS (aTest (aOp (dOp eqD) (aVar 0) (aC (.str "last")))) (aRet (aCB (isiA isi) (aCons (aVar 1) (aCons (aC (.ty "bool")) aNil)))) aNext)
    (aSeq (aIfS (aTest (aOp (dOp eqD) (aVar 0) (aC (.str "unit")))) (aRet (aAndV (aCall 1 f_is_integer [] (aCons (aVar 1) aNil)) (aOp (dOp inD) (aVar 1) (aOp (ixA tabs) (aC (.glo "RULES")) (aVar 0))))) aNext)
    (aRet (aAndV (aCB (isiA isi) (aCons (aVar 1) (aCons (aC (.ty "str")) aNil))) (aOp (dOp inD) (aVar 1) (aOp (ixA tabs) (aC (.glo "RULES")) (aVar 0)))))))
theorem t_is_rule_eq : K07.G.t_is_rule = K07.t_is_rule := by
  unfold K07.G.t_is_rule K07.t_is_rule
  try simp only [f_is_integer_eq]
  walk_at "ix"
@[reducible] def f_is_rule : Fn := loc t_is_rule
theorem f_is_rule_eq : K07.G.f_is_rule = K07.f_is_rule := by
  unfold K07.G.f_is_rule K07.f_is_rule
  rw [t_is_rule_eq]
def mt_rules : MTab := [("Ways", (1, f_Ways_rules))]
theorem mt_rules_eq : K07.G.mt_rules = K07.mt_rules := by
  unfold K07.G.mt_rules K07.mt_rules
  rw [f_Ways_rules_eq]
def t_Ways___init__ : Fn := aDef 10
    (aSeq (aAsg (aTup (aCons (aVar 1) (aCons (aVar 2) (aCons (aVar 3) (aCons (aVar 4) aNil))))) (gTp [(gFl ct 0 "case"), (gFl ct 0 "blanks"), (gFl ct 0 "empty"), (gFl ct 0 "lacking")]))
    (aSeq (aAsg (aTup (aCons (aVar 5) (aCons (aVar 6) (aCons (aVar 7) aNil)))) (gTp [(gFl ct 0 "last"), (gFl ct 0 "unit"), (gFl ct 0 "halves")]))
    (aFor (aItems (aMeth mt_rules "rules" (aVar 0) aNil)) (gTp [(gNm 8), (gNm 9)]) (aIfS (aNot (aTest (aCall 2 f_is_rule [] (aCons (aVar 8) (aCons (aVar 9) aNil))))) (aRaise "InvalidWays" "word" (aVar 8)) aNext))))
theorem t_Ways___init___eq : K07.G.t_Ways___init__ = K07.t_Ways___init__ := by
  unfold K07.G.t_Ways___init__ K07.t_Ways___init__
  try simp only [f_is_rule_eq, mt_rules_eq]
  walk_at "ix"
@[reducible] def f_Ways___init__ : Fn := loc t_Ways___init__
theorem f_Ways___init___eq : K07.G.f_Ways___init__ = K07.f_Ways___init__ := by
  unfold K07.G.f_Ways___init__ K07.f_Ways___init__
  rw [t_Ways___init___eq]
def t_Ways_but : Fn := aDef 3
    (aSeq (aAsg (aMeth mt_rules "rules" (aVar 0) aNil) (gNm 2))
    (aSeq (aExpr (aBMd updateA (aVar 2) (aCons (aVar 1) aNil)))
    (aRet (aMakeKW "Ways" 8 f_Ways___init__ ["case", "blanks", "empty", "lacking", "last", "unit", "halves"] (aVar 2)))))
theorem t_Ways_but_eq : K07.G.t_Ways_but = K07.t_Ways_but := by
  unfold K07.G.t_Ways_but K07.t_Ways_but
  try simp only [mt_rules_eq, f_Ways___init___eq]
  walk_at "ix"
@[reducible] def f_Ways_but : Fn := loc t_Ways_but
theorem f_Ways_but_eq : K07.G.f_Ways_but = K07.f_Ways_but := by
  unfold K07.G.f_Ways_but K07.f_Ways_but
  rw [t_Ways_but_eq]
def t_Ways___eq__ : Fn := aDef 2
    (aRet (aAndV (aCB (isiA isi) (aCons (aVar 1) (aCons (aC (.glo "Ways")) aNil))) (aOp (eqK false eqD) (aMeth mt_rules "rules" (aVar 0) aNil) (aMeth mt_rules "rules" (aVar 1) aNil))))
theorem t_Ways___eq___eq : K07.G.t_Ways___eq__ = K07.t_Ways___eq__ := by
  unfold K07.G.t_Ways___eq__ K07.t_Ways___eq__
  try simp only [mt_rules_eq]
  walk_at "ix"
@[reducible] def f_Ways___eq__ : Fn := loc t_Ways___eq__
theorem f_Ways___eq___eq : K07.G.f_Ways___eq__ = K07.f_Ways___eq__ := by
  unfold K07.G.f_Ways___eq__ K07.f_Ways___eq__
  rw [t_Ways___eq___eq]
def t__law_take : Fn := aDef 4
    (aSeq (aIfS (aTest (aOp (dOp gtD) (aOp (ixA tabs) (aVar 0) (aC (.int 0))) (aC (.int 0)))) (aSeq (aAsg (aOp (dOp modD) (aCB (dCB1 intD) (aCons (aOp (ixA tabs) (aVar 0) (aC (.int 0))) aNil)) (aVar 1)) (gNm 2))
    (aSeq (aAsg (aOp (dOp fdivD) (aOp (ixA tabs) (aVar 0) (aC (.int 0))) (aVar 1)) (gIx (aVar 0) (aC (.int 0))))
    (aRet (aVar 2)))) aNext)
    (aSeq (aAsg (aOp addA (aOp (ixA tabs) (aVar 0) (aC (.int 2))) (aC (.int 1))) (gIx (aVar 0) (aC (.int 2))))
    (aSeq (aAsg (aOp (dOp modD) (aCB (dCB1 intD) (aCons (aOp (dOp mulD) (aOp addA (aOp (ixA tabs) (aVar 0) (aC (.int 1))) (aOp (dOp mulD) (aC (.int 104773)) (aOp (ixA tabs) (aVar 0) (aC (.int 2))))) (aC (.int 69661))) aNil)) (aC (.int 2147483647))) (gNm 3))
    (aSeq (aAsg (aOp addA (aOp (dOp modD) (aCB (dCB1 intD) (aCons (aOp addA (aOp (dOp mulD) (aVar 3) (aC (.int 48299))) (aC (.int 30137))) aNil)) (aC (.int 2147483629))) (aC (.int 1))) (gIx (aVar 0) (aC (.int 1))))
    (aRet (aOp (dOp modD) (aCB (dCB1 intD) (aCons (aOp (dOp fdivD) (aOp addA (aOp (dOp mulD) (aVar 3) (aC (.int 2147483647))) (aOp (ixA tabs) (aVar 0) (aC (.int 1)))) (aC (.int 8191))) aNil)) (aVar 1)))))))
theorem t__law_take_eq : K07.G.t__law_take = K07.t__law_take := by
  unfold K07.G.t__law_take K07.t__law_take
  walk_at "ix"
@[reducible] def f__law_take : Fn := loc t__law_take
theorem f__law_take_eq : K07.G.f__law_take = K07.f__law_take := by
  unfold K07.G.f__law_take K07.f__law_take
  rw [t__law_take_eq]
def t__law_pick : Fn := aDef 2
    (aRet (aOp (ixA tabs) (aVar 1) (aCall 2 f__law_take [] (aCons (aVar 0) (aCons (aCB (dCB1 lenD) (aCons (aVar 1) aNil)) aNil)))))
theorem t__law_pick_eq : K07.G.t__law_pick = K07.t__law_pick := by
  unfold K07.G.t__law_pick K07.t__law_pick
  try simp only [f__law_take_eq]
  walk_at "ix"
@[reducible] def f__law_pick : Fn := loc t__law_pick
theorem f__law_pick_eq : K07.G.f__law_pick = K07.f__law_pick := by
  unfold K07.G.f__law_pick K07.f__law_pick
  rw [t__law_pick_eq]
def t__law_rules : Fn := aDef 2
    (aSeq (aAsg (aDisp [((aC (.str "case")), (aCall 2 f__law_pick [] (aCons (aVar 0) (aCons (aLst (aCons (aC (.str "exact")) (aCons (aC (.str "folded")) aNil))) aNil)))), ((aC (.str "blanks")), (aCall 2 f__law_pick [] (aCons (aVar 0) (aCons (aLst (aCons (aC (.str "kept")) (aCons (aC (.str "dropped")) aNil))) aNil))))]) (gNm 1))
    (aSeq (aDput (aVar 1) (aC (.str "empty")) (aCall 2 f__law_pick [] (aCons (aVar 0) (aCons (aLst (aCons (aC (.str "text")) (aCons (aC (.str "lacks")) aNil))) aNil))))
    (aSeq (aDput (aVar 1) (aC (.str "lacking")) (aCall 2 f__law_pick [] (aCons (aVar 0) (aCons (aLst (aCons (aC (.str "unknown")) (aCons (aC (.str "unlike")) (aCons (aC (.str "alike")) aNil)))) aNil))))
    (aSeq (aDput (aVar 1) (aC (.str "last")) (aOp (dOp eqD) (aCall 2 f__law_take [] (aCons (aVar 0) (aCons (aC (.int 2)) aNil))) (aC (.int 0))))
    (aSeq (aDput (aVar 1) (aC (.str "unit")) (aCall 2 f__law_pick [] (aCons (aVar 0) (aCons (aLst (aCons (aC (.int 1)) (aCons (aC (.int 2)) (aCons (aC (.int 5)) (aCons (aC (.int 10)) aNil))))) aNil))))
    (aSeq (aDput (aVar 1) (aC (.str "halves")) (aCall 2 f__law_pick [] (aCons (aVar 0) (aCons (aLst (aCons (aC (.str "up")) (aCons (aC (.str "even")) (aCons (aC (.str "cut")) aNil)))) aNil))))
    (aRet (aVar 1))))))))
theorem t__law_rules_eq : K07.G.t__law_rules = K07.t__law_rules := by
  unfold K07.G.t__law_rules K07.t__law_rules
  try simp only [f__law_take_eq, f__law_pick_eq]
  walk_at "ix"
@[reducible] def f__law_rules : Fn := loc t__law_rules
theorem f__law_rules_eq : K07.G.f__law_rules = K07.f__law_rules := by
  unfold K07.G.f__law_rules K07.f__law_rules
  rw [t__law_rules_eq]
def t__law_ways : Fn := aDef 2
    (aSeq (aAsg (aLst (aCons (aOp (ixA tabs) (aVar 0) (aC (.str "case"))) (aCons (aOp (ixA tabs) (aVar 0) (aC (.str "blanks"))) (aCons (aOp (ixA tabs) (aVar 0) (aC (.str "empty"))) (aCons (aOp (ixA tabs) (aVar 0) (aC (.str "lacking"))) aNil))))) (gNm 1))
    (aRet (aMake "Ways" 8 f_Ways___init__ [] (aCons (aOp (ixA tabs) (aVar 1) (aC (.int 0))) (aCons (aOp (ixA tabs) (aVar 1) (aC (.int 1))) (aCons (aOp (ixA tabs) (aVar 1) (aC (.int 2))) (aCons (aOp (ixA tabs) (aVar 1) (aC (.int 3))) (aCons (aOp (ixA tabs) (aVar 0) (aC (.str "last"))) (aCons (aOp (ixA tabs) (aVar 0) (aC (.str "unit"))) (aCons (aOp (ixA tabs) (aVar 0) (aC (.str "halves"))) aNil))))))))))
theorem t__law_ways_eq : K07.G.t__law_ways = K07.t__law_ways := by
  unfold K07.G.t__law_ways K07.t__law_ways
  try simp only [f_Ways___init___eq]
  walk_at "ix"
@[reducible] def f__law_ways : Fn := loc t__law_ways
theorem f__law_ways_eq : K07.G.f__law_ways = K07.f__law_ways := by
  unfold K07.G.f__law_ways K07.f__law_ways
  rw [t__law_ways_eq]
def t_Ways___str__ : Fn := aDef 2
    (aSeq (aAsg (aLst (aCons (aFld ct (aVar 0) "case") (aCons (aFld ct (aVar 0) "blanks") (aCons (aFld ct (aVar 0) "empty") (aCons (aFld ct (aVar 0) "lacking") (aCons (aIf (aTest (aFld ct (aVar 0) "last")) (aC (.str "last")) (aC (.str "first"))) aNil)))))) (gNm 1))
    (aRet (aBM "str" (dBM1 joinD) (aC (.str " ")) (aCons (aLst (aStar (aVar 1) (aCons (aCB (dCB1 strD) (aCons (aFld ct (aVar 0) "unit") aNil)) (aCons (aFld ct (aVar 0) "halves") aNil)))) aNil))))
theorem t_Ways___str___eq : K07.G.t_Ways___str__ = K07.t_Ways___str__ := by
  unfold K07.G.t_Ways___str__ K07.t_Ways___str__
  walk_at "ix"
@[reducible] def f_Ways___str__ : Fn := loc t_Ways___str__
theorem f_Ways___str___eq : K07.G.f_Ways___str__ = K07.f_Ways___str__ := by
  unfold K07.G.f_Ways___str__ K07.f_Ways___str__
  rw [t_Ways___str___eq]
def mt_but : MTab := [("Ways", (2, f_Ways_but))]
theorem mt_but_eq : K07.G.mt_but = K07.mt_but := by
  unfold K07.G.mt_but K07.mt_but
  rw [f_Ways_but_eq]
def mt___eq__ : MTab := [("Ways", (2, f_Ways___eq__))]
theorem mt___eq___eq : K07.G.mt___eq__ = K07.mt___eq__ := by
  unfold K07.G.mt___eq__ K07.mt___eq__
  rw [f_Ways___eq___eq]
def mt___str__ : MTab := [("Ways", (1, f_Ways___str__))]
theorem mt___str___eq : K07.G.mt___str__ = K07.mt___str__ := by
  unfold K07.G.mt___str__ K07.mt___str__
  rw [f_Ways___str___eq]
def f_law : Fn := aDef 13
    (aSeq (aForC (aRg1 (aCons (aCB (dCB2 maxD) (aCons (aC (.int 1)) (aCons (aCB (dCB2 minD) (aCons (aC (.int 4)) (aCons (aCB (dCB1 lenD) (aCons (aVar 0) aNil)) aNil))) aNil))) aNil)) (gNm 1) (aSeq (aAsg (aCall 2 f__law_box [] (aCons (aVar 0) (aCons (aVar 1) aNil))) (gNm 2))
    (aForC (aRg1 (aCons (aC (.int 4)) aNil)) (gNm 3) (aSeq (aPar 4 5 (aCons (aCall 1 f__law_rules [] (aCons (aVar 2) aNil)) (aCons (aCall 1 f__law_rules [] (aCons (aVar 2) aNil)) aNil)))
    (aSeq (aAsg (aTup (aCons (aCall 1 f__law_ways [] (aCons (aVar 4) aNil)) (aCons (aCall 1 f__law_ways [] (aCons (aVar 5) aNil)) aNil))) (gTp [(gNm 6), (gNm 7)]))
    (aSeq (aForC (aIt (aTup (aCons (aC (.str "case")) (aCons (aC (.str "blanks")) (aCons (aC (.str "empty")) (aCons (aC (.str "lacking")) (aCons (aC (.str "last")) (aCons (aC (.str "unit")) (aCons (aC (.str "halves")) aNil))))))))) (gNm 8) (aSeq (aAsg (aCB dictC (aCons (aVar 4) aNil)) (gNm 9))
    (aSeq (aDput (aVar 9) (aVar 8) (aOp (ixA tabs) (aVar 5) (aVar 8)))
    (aSeq (aAsg (aLst (aCons (aMethKW mt_but "but" ["case"] (aVar 6) (aCons (aOp (ixA tabs) (aVar 5) (aC (.str "case"))) aNil)) (aCons (aMethKW mt_but "but" ["blanks"] (aVar 6) (aCons (aOp (ixA tabs) (aVar 5) (aC (.str "blanks"))) aNil)) (aCons (aMethKW mt_but "but" ["empty"] (aVar 6) (aCons (aOp (ixA tabs) (aVar 5) (aC (.str "empty"))) aNil)) aNil)))) (gNm 10))
    (aSeq (aAsg (aOp addA (aVar 10) (aLst (aCons (aMethKW mt_but "but" ["lacking"] (aVar 6) (aCons (aOp (ixA tabs) (aVar 5) (aC (.str "lacking"))) aNil)) (aCons (aMethKW mt_but "but" ["last"] (aVar 6) (aCons (aOp (ixA tabs) (aVar 5) (aC (.str "last"))) aNil)) aNil)))) (gNm 10))
    (aSeq (aAsg (aOp addA (aVar 10) (aLst (aCons (aMethKW mt_but "but" ["unit"] (aVar 6) (aCons (aOp (ixA tabs) (aVar 5) (aC (.str "unit"))) aNil)) (aCons (aMethKW mt_but "but" ["halves"] (aVar 6) (aCons (aOp (ixA tabs) (aVar 5) (aC (.str "halves"))) aNil)) aNil)))) (gNm 10))
    (aSeq (aAsg (aBM "list" (dBM1 indexD) (aLst (aCons (aC (.str "case")) (aCons (aC (.str "blanks")) (aCons (aC (.str "empty")) (aCons (aC (.str "lacking")) (aCons (aC (.str "last")) (aCons (aC (.str "unit")) (aCons (aC (.str "halves")) aNil)))))))) (aCons (aVar 8) aNil)) (gNm 11))
    (aIfS (aOr (aTest (aOp (eqX mt___eq__ isi nf true neD) (aOp (ixA tabs) (aVar 10) (aVar 11)) (aCall 1 f__law_ways [] (aCons (aVar 9) aNil)))) (aTest (aOp (eqX mt___eq__ isi nf true neD) (aOp (eqX mt___eq__ isi nf false eqD) (aOp (ixA tabs) (aVar 10) (aVar 11)) (aVar 6)) (aOp (eqK false eqD) (aVar 9) (aVar 4))))) (aRet (aC (.bl false))) aNext))))))))
    (aSeq (aIfS (aOr (aTest (aOp (eqX mt___eq__ isi nf true neD) (aMethKW mt_but "but" [] (aVar 6) aNil) (aVar 6))) (aOr (aTest (aOp (eqX mt___eq__ isi nf true neD) (aVar 6) (aCall 1 f__law_ways [] (aCons (aVar 4) aNil)))) (aTest (aOp (eqX mt___eq__ isi nf true neD) (aOp (eqX mt___eq__ isi nf false eqD) (aVar 6) (aVar 7)) (aOp (eqK false eqD) (aVar 4) (aVar 5)))))) (aRet (aC (.bl false))) aNext)
    (aSeq (aAsg (aMethKW mt_but "but" ["halves", "case", "unit"] (aVar 6) (aCons (aOp (ixA tabs) (aVar 5) (aC (.str "halves"))) (aCons (aOp (ixA tabs) (aVar 5) (aC (.str "case"))) (aCons (aOp (ixA tabs) (aVar 5) (aC (.str "unit"))) aNil)))) (gNm 12))
    (aSeq (aAsg (aMethKW mt_but "but" ["blanks", "empty", "last"] (aVar 12) (aCons (aOp (ixA tabs) (aVar 5) (aC (.str "blanks"))) (aCons (aOp (ixA tabs) (aVar 5) (aC (.str "empty"))) (aCons (aOp (ixA tabs) (aVar 5) (aC (.str "last"))) aNil)))) (gNm 12))
    (aSeq (aAsg (aMethKW mt_but "but" ["lacking"] (aVar 12) (aCons (aOp (ixA tabs) (aVar 5) (aC (.str "lacking"))) aNil)) (gNm 12))
    (aSeq (aIfS (aOr (aTest (aOp (eqX mt___eq__ isi nf true neD) (aVar 12) (aVar 7))) (aOr (aNot (aTest (aOp (eqX mt___eq__ isi nf false eqD) (aVar 12) (aVar 7)))) (aOr (aTest (aOp (eqX mt___eq__ isi nf false eqD) (aVar 6) (aCB (strX mt___str__) (aCons (aVar 6) aNil)))) (aTest (aOp (eqX mt___eq__ isi nf false eqD) (aVar 6) (aC (.int 1))))))) (aRet (aC (.bl false))) aNext)
    (aSeq (aIfS (aTest (aOp (eqX mt___eq__ isi nf true neD) (aRefu 0 "law" tabx_InvalidWays "InvalidWays" "word" (aMethKW mt_but "but" ["unit"] (aVar 6) (aCons (aC (.int 3)) aNil))) (aC (.str "unit")))) (aRet (aC (.bl false))) aNext)
    (aSeq (aIfS (aTest (aOp (eqX mt___eq__ isi nf true neD) (aRefu 0 "law" tabx_InvalidWays "InvalidWays" "word" (aMethKW mt_but "but" ["case"] (aVar 6) (aCons (aC .non) aNil))) (aC (.str "case")))) (aRet (aC (.bl false))) aNext)
    (aSeq (aIfS (aTest (aOp (eqX mt___eq__ isi nf true neD) (aRefu 0 "law" tabx_InvalidWays "InvalidWays" "word" (aMethKW mt_but "but" ["halves", "empty"] (aVar 6) (aCons (aC (.str "x")) (aCons (aC (.str "kept")) aNil)))) (aC (.str "empty")))) (aRet (aC (.bl false))) aNext)
    (aIfS (aTest (aOp (eqX mt___eq__ isi nf true neD) (aRefu 0 "law" tabx_InvalidWays "InvalidWays" "word" (aMethKW mt_but "but" ["last"] (aVar 6) (aCons (aC (.int 0)) aNil))) (aC (.str "last")))) (aRet (aC (.bl false))) aNext)))))))))))))))
    (aRet (aC (.bl true))))
theorem f_law_eq : K07.G.f_law = K07.f_law := by
  unfold K07.G.f_law K07.f_law
  try simp only [f__law_box_eq, f__law_rules_eq, f__law_ways_eq, mt_but_eq, mt___eq___eq, mt___str___eq]
  walk_at "ix"
end K07.G

set_option Elab.async false
set_option linter.all false
set_option autoImplicit false
set_option maxRecDepth 100000
set_option maxHeartbeats 2000000
namespace Fx
open PySem L2 PyProof.Rows
/-! ## what repr tells of cells -/
/-- what repr tells -/
def tx : D → Str
  | .non => "None"
  | .int i => Str.ofString (toString i)
  | .str s => reprText s
  | _ => ""
/-! ## ahead -/
/-! ## signs in both cases -/
end Fx

set_option Elab.async false
set_option linter.all false
set_option autoImplicit false
set_option maxRecDepth 100000
set_option maxHeartbeats 2000000
namespace Fx
open PySem PySem.Spec PyProof.Rows L2
/-! ## numbers as texts -/
end Fx

set_option Elab.async false
set_option linter.all false
set_option autoImplicit false
set_option maxRecDepth 100000
set_option maxHeartbeats 2000000
namespace Fx
open PySem PySem.Spec PyProof.Rows L2
/-! ## repr of nested data has a text -/
end Fx
namespace Fx
open PySem L2
end Fx

set_option Elab.async false
set_option linter.all false
set_option autoImplicit false
set_option maxRecDepth 100000
set_option maxHeartbeats 2000000
namespace Fx
open PySem PySem.Spec PyProof.Rows L2
/-! ## any text split and joined -/
/-! ## letters, then blanks -/
end Fx

set_option Elab.async false
set_option linter.all false
set_option autoImplicit false
set_option maxRecDepth 100000
set_option maxHeartbeats 0
namespace K07.G
open PySem L2
open Fx hiding aC aVar aOp aNil aCons aTest aAnd aOr aNot aYes aAndV aOrV aNotV aNeg aIf aChain aLst aLstC aTup aCB aFld aCall aMake aMakeC aMeth aBM aBM0 aBMd aSl aPart aNoPart aNext aSeq aAsg aRet aRetN aExpr aIfS aPar aBreak aCont aNever aDput aFor aForC aWhile aIt aRg1 aRg2 aItems aLstRg aLc aDisp aDispS aDef aDefC dOp addA ixA dCB1 dCB2 dBM0 dBM1 isiA listA listC tupleA dictC appendA updateA aDnew pairsA aMethKW aMakeKW aRaise aTry aXF isxA aZip aLcC aCall0 aMeth0 eqX strX aCM aMakeL aTryF aStar inG popA insertA splitC eqK aOwn aAugO isiT aRaise0 isxZ aRev aZipM aEnum aFmt aJoins aFstr aLcK listB aThaw aLcV mulA aRefu s_c s_var s_varI s_varC s_op s_dop s_nil s_cons s_test s_and s_or s_not s_yes s_andV s_orV s_notV s_neg s_if s_lst s_lstC s_tup s_cb s_cb1 s_cb2 s_fld s_call s_meth s_bm s_bm0 s_bm1 s_bmz s_isi s_sl s_nopart s_part s_next s_seq s_asg s_set s_ret s_retN s_expr s_ifS s_par s_dput s_pairs0 s_pairs s_disp s_rg1 s_rg2 s_it s_for s_forC s_lc s_def s_defC s_make s_varB s_varF s_addI s_addS s_addL s_addT s_subI s_mulI s_mulS s_fdivI s_modI s_powI s_ltI s_leI s_gtI s_geI s_ltS s_eqI s_eqS s_neI s_neS s_eqB' s_neB s_isN s_isnotN s_isB s_isnotB s_absI s_intI s_intB s_lenL s_lenT s_lenR s_lenS s_ixC s_ixL s_ixT s_ixR s_ixS s_ixD s_ixG s_asgIx s_intB2 s_ixR2 s_ixL2 s_make2 s_forU s_items s_inT s_inL s_dispS s_fld2 s_bare s_lcM s_methKW s_makeKW s_bmd s_update s_zip s_raise s_try s_xf s_isx s_lcC s_asgIxG s_makeX s_ixK s_lcF s_lcCM s_call0 s_meth0 s_cm s_makeL s_tryF s_eqXo s_eqXd s_strXo s_star s_inG s_pop s_insert s_splitC s_eqK s_isiT s_own s_augO s_raise0 s_isz s_rev s_append s_zipM s_chain s_lcP s_tupI s_lcR s_enum s_fmt s_fmtS s_fmtI s_joins0 s_joins s_fstr s_lcKP s_bareW s_listS s_listT s_thaw0 s_thaw s_lcV s_mulL s_refu
open Ix
theorem guardEx {α : Type} {p : α → Prop} (h : ∃ x, p x) : ∃ x, p x := h
theorem guardAnd {p q : Prop} (h : p ∧ q) : p ∧ q := h
theorem gVar {δ : Sta} {Ψ : SV → Sta → Prop} {Ξ : Xn → Sta → Prop} {i : Nat} (h : (aVar i δ).sat Ψ Ξ) : (aVar i δ).sat Ψ Ξ := h
theorem gInG {δ : Sta} {Ψ : SV → Sta → Prop} {Ξ : Xn → Sta → Prop} {tabs : Tabs} {neg : Bool} {f : D → D → Option D} {s u : SV} (h : (inG tabs neg f s u δ).sat Ψ Ξ) : (inG tabs neg f s u δ).sat Ψ Ξ := h
theorem gEqK {δ : Sta} {Ψ : SV → Sta → Prop} {Ξ : Xn → Sta → Prop} {neg : Bool} {f : D → D → Option D} {s u : SV} (h : (eqK neg f s u δ).sat Ψ Ξ) : (eqK neg f s u δ).sat Ψ Ξ := h
theorem gIsx {δ : Sta} {Ψ : SV → Sta → Prop} {Ξ : Xn → Sta → Prop} {tab : Isi} {ss : List SV} (h : (isxA tab ss δ).sat Ψ Ξ) : (isxA tab ss δ).sat Ψ Ξ := h
theorem gIxA {δ : Sta} {Ψ : SV → Sta → Prop} {Ξ : Xn → Sta → Prop} {tabs : Tabs} {s u : SV} (h : (ixA tabs s u δ).sat Ψ Ξ) : (ixA tabs s u δ).sat Ψ Ξ := h
theorem gIsi {δ : Sta} {Ψ : SV → Sta → Prop} {Ξ : Xn → Sta → Prop} {isi : Isi} {ss : List SV} (h : (isiA isi ss δ).sat Ψ Ξ) : (isiA isi ss δ).sat Ψ Ξ := h
theorem gDop {δ : Sta} {Ψ : SV → Sta → Prop} {Ξ : Xn → Sta → Prop} {f : D → D → Option D} {s u : SV} (h : (dOp f s u δ).sat Ψ Ξ) : (dOp f s u δ).sat Ψ Ξ := h
theorem gBmz {δ : Sta} {Ψ : SV → Sta → Prop} {Ξ : Xn → Sta → Prop} {f : D → Option D} {s : SV} {ss : List SV} (h : (dBM0 f s ss δ).sat Ψ Ξ) : (dBM0 f s ss δ).sat Ψ Ξ := h
theorem gCb1 {δ : Sta} {Ψ : SV → Sta → Prop} {Ξ : Xn → Sta → Prop} {f : D → Option D} {ss : List SV} (h : (dCB1 f ss δ).sat Ψ Ξ) : (dCB1 f ss δ).sat Ψ Ξ := h
theorem gIsT {δ : Sta} {Ψ : SV → Sta → Prop} {Ξ : Xn → Sta → Prop} {isi : Isi} {ss : List SV} (h : (isiT isi ss δ).sat Ψ Ξ) : (isiT isi ss δ).sat Ψ Ξ := h
theorem gIsZ {δ : Sta} {Ψ : SV → Sta → Prop} {Ξ : Xn → Sta → Prop} {tab : Isi} {ss : List SV} (h : (isxZ tab ss δ).sat Ψ Ξ) : (isxZ tab ss δ).sat Ψ Ξ := h
theorem bool_and {b : Bool} {P Q : Prop} (h1 : b = true → P) (h2 : b = false → Q) : (b = true → P) ∧ (b = false → Q) := ⟨h1, h2⟩
theorem gRetF {ce c : List CO} {s : SV} {Ψ : SV → List CO → Prop} {Ξ : Xn → List CO → Prop} (h : (retF ce s c).sat Ψ Ξ) : (retF ce s c).sat Ψ Ξ := h
local macro_rules | `(tactic| walk_at "nm") => `(tactic| try (conv => arg 1; arg -1; dsimp only [List.set, List.cons_append, List.nil_append, List.append, List.replicate, List.length_cons, List.length_nil, Nat.reduceAdd, Nat.reduceSub, List.map]))
local macro_rules | `(tactic| walk_at "nc") => `(tactic| try (conv => arg 1; dsimp only [List.set, List.cons_append, List.nil_append, List.append, List.replicate, List.length_cons, List.length_nil, Nat.reduceAdd, Nat.reduceSub, List.map]))
local macro_rules | `(tactic| walk_at "s") => `(tactic| first
  | with_reducible refine s_c ?_
  | ((with_reducible refine gVar ?_); (with_reducible apply s_varI); rfl)
  | ((with_reducible refine gVar ?_); (with_reducible apply s_varB); rfl; rfl)
  | ((with_reducible refine gVar ?_); (with_reducible apply s_varF); rfl; rfl)
  | with_reducible refine s_op ?_
  | with_reducible refine s_nil ?_
  | ((with_reducible refine s_thaw0 ?_ ?_); rfl)
  | with_reducible refine s_chain ?_
  | with_reducible refine s_raise0 ?_
  | with_reducible refine s_rev ?_
  | with_reducible refine s_zipM ?_
  | with_reducible refine s_enum ?_
  | with_reducible refine s_fmt ?_
  | with_reducible refine s_fstr ?_
  | with_reducible refine s_joins0 ?_
  | with_reducible refine s_joins ?_
  | ((with_reducible refine gIsT ?_); (with_reducible apply s_isiT); rfl; rfl)
  | ((with_reducible refine gIsZ ?_); (with_reducible apply s_isz); rfl; rfl; rfl; rfl)
  | with_reducible refine s_cons ?_
  | with_reducible refine s_star ?_
  | with_reducible refine s_test ?_
  | with_reducible refine s_and ?_
  | with_reducible refine s_or ?_
  | with_reducible refine s_not ?_
  | with_reducible refine s_yes ?_
  | with_reducible refine s_andV ?_
  | with_reducible refine s_orV ?_
  | with_reducible refine s_notV ?_
  | with_reducible refine s_neg ?_
  | with_reducible refine s_if ?_
  | with_reducible refine s_lst ?_
  | with_reducible refine s_lstC ?_
  | with_reducible refine s_tup ?_
  | with_reducible refine s_cb ?_
  | with_reducible refine s_fld2 ?_
  | with_reducible refine s_call ?_
  | with_reducible refine s_meth ?_
  | with_reducible refine s_bm ?_
  | with_reducible refine s_bm0 ?_
  | with_reducible refine s_bmd ?_
  | with_reducible refine s_methKW ?_
  | with_reducible refine s_makeKW ?_
  | with_reducible refine s_bm1 ?_
  | with_reducible refine s_sl ?_
  | with_reducible refine s_part ?_
  | with_reducible refine s_nopart ?_
  | with_reducible refine s_next ?_
  | ((with_reducible refine s_seq ?_); walk_at "nm")
  | ((with_reducible refine s_set ?_); walk_at "nm")
  | ((with_reducible refine s_ret ?_); walk_at "nm")
  | ((with_reducible refine s_ifS ?_); walk_at "nm")
  | with_reducible refine s_asgIx ?_
  | with_reducible refine s_call0 ?_
  | with_reducible refine s_meth0 ?_
  | with_reducible refine s_cm ?_
  | ((with_reducible refine s_makeL ?_ ?_); rfl)
  | ((with_reducible refine s_eqXd ?_ ?_); rfl)
  | ((with_reducible refine gInG ?_); (with_reducible apply s_inG); rfl)
  | ((with_reducible refine gEqK ?_); (with_reducible apply s_eqK); rfl; rfl; exact ⟨rfl, rfl⟩)
  | with_reducible refine s_asgIxG ?_
  | with_reducible refine s_raise ?_
  | with_reducible refine s_try ?_
  | with_reducible refine s_tryF ?_
  | with_reducible refine s_xf ?_
  | with_reducible refine s_zip ?_
  | ((with_reducible refine s_addL ?_ ?_); exact Nat.le_of_ble_eq_true rfl)
  | ((with_reducible refine gIsx ?_); (with_reducible apply s_isx); rfl; rfl; rfl; rfl)
  | ((with_reducible refine s_asg ?_); walk_at "nm")
  | with_reducible refine s_retN ?_
  | with_reducible refine s_expr ?_
  | with_reducible refine s_par ?_
  | with_reducible refine s_dput ?_
  | with_reducible refine s_disp ?_
  | with_reducible refine s_pairs ?_
  | with_reducible refine s_pairs0 ?_
  | with_reducible refine s_rg1 ?_
  | with_reducible refine s_rg2 ?_
  | with_reducible refine s_it ?_
  | with_reducible refine s_addI ?_
  | with_reducible refine s_subI ?_
  | with_reducible refine s_ltI ?_
  | with_reducible refine s_leI ?_
  | with_reducible refine s_gtI ?_
  | with_reducible refine s_geI ?_
  | with_reducible refine s_eqI ?_
  | with_reducible refine s_eqS ?_
  | with_reducible refine s_neI ?_
  | with_reducible refine s_neS ?_
  | with_reducible refine s_eqB' ?_
  | with_reducible refine s_neB ?_
  | with_reducible refine s_isN ?_
  | with_reducible refine s_isnotN ?_
  | with_reducible refine s_isB ?_
  | with_reducible refine s_isnotB ?_
  | with_reducible refine s_absI ?_
  | with_reducible refine s_intI ?_
  | with_reducible refine s_intB2 ?_
  | with_reducible refine s_lenL ?_
  | with_reducible refine s_lenT ?_
  | with_reducible refine s_lenR ?_
  | with_reducible refine s_cb2 ?_
  | with_reducible refine s_dispS ?_
  | with_reducible refine s_items ?_
  | with_reducible refine s_makeX ?_
  | ((with_reducible refine s_mulI ?_ ?_); first | exact .inr (by decide) | exact .inl (by decide) | omega)
  | ((with_reducible refine s_fdivI ?_ ?_); first | decide | omega | assumption)
  | ((with_reducible refine s_modI ?_ ?_); first | decide | omega)
  | ((with_reducible refine s_powI ?_ ?_); decide)
  | ((with_reducible refine gIxA ?_); (with_reducible apply s_ixC); rfl; rfl)
  | ((with_reducible refine gIxA ?_); (with_reducible apply s_ixK); rfl; rfl)
  | ((with_reducible refine s_ixR2 ?_ ?_ (fun _ => ?_)); (first | omega | exact Int.emod_nonneg _ (by omega)); (first | omega | exact Int.emod_lt_of_pos _ (by omega)))
  | ((with_reducible refine gIxA ?_); (with_reducible apply s_ixL); rfl)
  | ((with_reducible refine gIxA ?_); (with_reducible apply s_ixT); rfl)
  | ((with_reducible refine gIxA ?_); (with_reducible apply s_ixD); rfl; rfl)
  | ((with_reducible refine gIxA ?_); (with_reducible apply s_ixG); rfl)
  | ((with_reducible refine guardEx ?_); first | refine ⟨_, rfl, ?_⟩ | refine ⟨_, _, _, _, _, _, _, _, _, _, rfl, rfl, rfl, rfl, rfl, ?_⟩ | refine ⟨_, .inl rfl, ?_⟩ | refine ⟨_, .inr rfl, ?_⟩ | refine ⟨_, _, rfl, ?_⟩ | refine ⟨_, _, rfl, rfl, ?_⟩ | refine ⟨_, _, _, rfl, rfl, rfl, Nat.le_of_ble_eq_true rfl, ?_⟩ | refine ⟨_, _, _, rfl, rfl, rfl, ?_⟩ | refine ⟨_, _, rfl, rfl, by decide, ?_⟩ | refine ⟨_, _, _, rfl, rfl, ?_⟩)
  | ((with_reducible refine guardAnd ?_); first | refine ⟨rfl, ?_⟩ | refine ⟨rfl, Nat.le_of_ble_eq_true rfl, ?_⟩ | refine ⟨Nat.le_of_ble_eq_true rfl, _, rfl, ?_⟩ | refine ⟨Nat.le_of_ble_eq_true rfl, ?_⟩ | refine ⟨⟨Nat.le_of_ble_eq_true rfl, rfl⟩, ?_⟩ | refine ⟨fun _ z => D.noConfusion z, ?_⟩ | refine ⟨⟨by omega, by omega⟩, ?_⟩)
  | ((with_reducible refine gIsi ?_); (with_reducible apply s_isi); rfl; rfl; rfl; rfl)
  | ((with_reducible refine s_inT ?_ ?_); exact ⟨rfl, rfl⟩)
  | ((with_reducible refine s_inL ?_ ?_); exact ⟨rfl, rfl⟩)
  | ((with_reducible refine gDop ?_); (with_reducible apply s_dop); rfl; rfl; assumption)
  | ((with_reducible refine gBmz ?_); (with_reducible apply s_bmz); rfl; assumption)
  | ((with_reducible refine gCb1 ?_); (with_reducible apply s_cb1); rfl; assumption)
  | ((with_reducible refine gRetF ?_); (with_reducible apply s_retFz); exact Nat.lt_irrefl _; rfl; first | exact cutTo_box (fun _ => rfl) | exact cutTo_last (pre := [_]) (fun _ => rfl))
  | ((with_reducible refine gRetF ?_); (with_reducible apply s_retF); exact cutTo_same (Nat.le_of_ble_eq_true rfl))
  | ((with_reducible refine gRetF ?_); (with_reducible apply s_retF); exact cutTo_same (Nat.le_refl _)))
local macro_rules | `(tactic| walk_at "b") => `(tactic| first | ((with_reducible refine tr_and ?_ ?_); assumption) | ((with_reducible refine fl_and ?_ ?_); assumption) | ((with_reducible refine ntr_and ?_ ?_); assumption) | ((with_reducible refine nfl_and ?_ ?_); assumption) | with_reducible refine dec_andN (fun hno => absurd rfl hno) (fun _ => ?_) | ((with_reducible refine tr_and ?_ ?_); rfl) | ((with_reducible refine fl_and ?_ ?_); rfl) | with_reducible refine dec_and (fun hyes => ?_) (fun hno => ?_) | with_reducible refine dec_andN (fun hno => ?_) (fun hyes => ?_) | with_reducible refine bool_and (fun hyes => ?_) (fun hno => ?_))
local macro_rules | `(tactic| walk_at "w") => `(tactic| try dsimp only [outS, wrB, setAll, outO, outK, bkI, List.set, List.cons_append, List.nil_append, List.append, List.replicate, List.length_cons, List.length_nil, Nat.reduceAdd, Nat.reduceSub, List.map, List.getElem?_cons_zero, List.getElem?_cons_succ, List.getElem?_nil, Nat.add_zero, Nat.zero_add])
local macro_rules | `(tactic| walk_at "go") => `(tactic| (walk_at "w"; (repeat' (first | walk_at "s" | walk_at "b")) <;> walk_at "nc"))
/-- rules -/
structure Rl where
  case : Str
  blanks : Str
  empty : Str
  lacking : Str
  last : Bool
  unit : Int
  halves : Str
@[reducible] def rD (r : Rl) : D := .dic [(.inr "case", .str r.case), (.inr "blanks", .str r.blanks), (.inr "empty", .str r.empty), (.inr "lacking", .str r.lacking), (.inr "last", .bl r.last), (.inr "unit", .int r.unit), (.inr "halves", .str r.halves)]
structure Rl.ok (r : Rl) : Prop where
  case : r.case = "exact" ∨ r.case = "folded"
  blanks : r.blanks = "kept" ∨ r.blanks = "dropped"
  empty : r.empty = "text" ∨ r.empty = "lacks"
  lacking : r.lacking = "unknown" ∨ r.lacking = "unlike" ∨ r.lacking = "alike"
  unit : r.unit = 1 ∨ r.unit = 2 ∨ r.unit = 5 ∨ r.unit = 10
  halves : r.halves = "up" ∨ r.halves = "even" ∨ r.halves = "cut"
/-- the box -/
abbrev bx (a b n : Int) : CO := .lst [.im (.int a), .im (.int b), .im (.int n)]
theorem p_take {a b n m : Int} {Ψ : SV → List CO → Prop} {Ξ : Xn → List CO → Prop} (h0 : 0 < m) (h1 : m < 1073741824)
    (h : ∀ k a' b' n' : Int, 0 ≤ k → k < m → Ψ (.im (.int k)) [bx a' b' n']) : (t__law_take [.cl 0, .im (.int m)] [bx a b n]).sat Ψ Ξ := by
  refine s_def ?_
  walk_at "go"
  all_goals exact h _ _ _ _ (Int.emod_nonneg _ (by omega)) (Int.emod_lt_of_pos _ h0)
theorem p_pick {a b n : Int} {ds : List D} {Ψ : SV → List CO → Prop} {Ξ : Xn → List CO → Prop} (h0 : 0 < ds.length) (h1 : ds.length < 1000)
    (h : ∀ (d : D) (a' b' n' : Int), d ∈ ds → Ψ (.im d) [bx a' b' n']) : (t__law_pick [.cl 0, .im (.lst ds)] [bx a b n]).sat Ψ Ξ := by
  refine s_def ?_
  walk_at "go"
  refine lq [0] rfl rfl rfl (p_take (by omega) (by omega) fun k a' b' n' k0 k1 => ?_)
  obtain ⟨x, hx, hm⟩ := atI_get k0 k1
  walk_at "go"
  refine s_ixL hx ?_
  walk_at "go"
  exact h _ _ _ _ hm
theorem p_box {ns : List Int} {k : Int} {Ψ : SV → List CO → Prop} {Ξ : Xn → List CO → Prop} (hk : 0 ≤ k)
    (h : ∀ a' b' n' : Int, Ψ (.cl 0) [bx a' b' n']) : (t__law_box [.im (.scr ns), .im (.int k)] []).sat Ψ Ξ := by
  refine s_defC ?_
  walk_at "go"
  all_goals (show (retC [] (SV.cl 0) [bx _ _ _]).sat Ψ Ξ; exact s_retC (Nat.le_refl 0) rfl rfl rfl (h _ _ _))
theorem mem_s2 {d : D} {a b : Str} (h : d ∈ [D.str a, D.str b]) : ∃ x, d = .str x ∧ (x = a ∨ x = b) := by
  rcases List.mem_cons.mp h with rfl | h
  · exact ⟨_, rfl, .inl rfl⟩
  · rcases List.mem_cons.mp h with rfl | h
    · exact ⟨_, rfl, .inr rfl⟩
    · cases h
theorem mem_s3 {d : D} {a b c : Str} (h : d ∈ [D.str a, D.str b, D.str c]) : ∃ x, d = .str x ∧ (x = a ∨ x = b ∨ x = c) := by
  rcases List.mem_cons.mp h with rfl | h
  · exact ⟨_, rfl, .inl rfl⟩
  · obtain ⟨x, e, hx⟩ := mem_s2 h
    exact ⟨x, e, .inr hx⟩
theorem mem_i4 {d : D} {a b c e : Int} (h : d ∈ [D.int a, D.int b, D.int c, D.int e]) : ∃ x, d = .int x ∧ (x = a ∨ x = b ∨ x = c ∨ x = e) := by
  simp only [List.mem_cons, List.not_mem_nil, or_false] at h
  rcases h with rfl | rfl | rfl | rfl
  · exact ⟨_, rfl, .inl rfl⟩
  · exact ⟨_, rfl, .inr (.inl rfl)⟩
  · exact ⟨_, rfl, .inr (.inr (.inl rfl))⟩
  · exact ⟨_, rfl, .inr (.inr (.inr rfl))⟩
theorem p_rules {a b n : Int} {Ψ : SV → List CO → Prop} {Ξ : Xn → List CO → Prop}
    (h : ∀ (r : Rl) (a' b' n' : Int), r.ok → Ψ (.im (rD r)) [bx a' b' n']) : (t__law_rules [.cl 0] [bx a b n]).sat Ψ Ξ := by
  refine s_def ?_
  walk_at "go"
  refine lq [0] rfl rfl rfl (p_pick (by decide) (by decide) fun d1 _ _ _ h1 => ?_)
  walk_at "go"
  refine lq [0] rfl rfl rfl (p_pick (by decide) (by decide) fun d2 _ _ _ h2 => ?_)
  walk_at "go"
  refine lq [0] rfl rfl rfl (p_pick (by decide) (by decide) fun d3 _ _ _ h3 => ?_)
  walk_at "go"
  refine lq [0] rfl rfl rfl (p_pick (by decide) (by decide) fun d4 _ _ _ h4 => ?_)
  walk_at "go"
  refine lq [0] rfl rfl rfl (p_take (by decide) (by decide) fun k _ _ _ _ _ => ?_)
  walk_at "go"
  refine lq [0] rfl rfl rfl (p_pick (by decide) (by decide) fun d5 _ _ _ h5 => ?_)
  walk_at "go"
  refine lq [0] rfl rfl rfl (p_pick (by decide) (by decide) fun d6 _ _ _ h6 => ?_)
  walk_at "go"
  obtain ⟨x1, rfl, g1⟩ := mem_s2 h1
  obtain ⟨x2, rfl, g2⟩ := mem_s2 h2
  obtain ⟨x3, rfl, g3⟩ := mem_s2 h3
  obtain ⟨x4, rfl, g4⟩ := mem_s3 h4
  obtain ⟨x5, rfl, g5⟩ := mem_i4 h5
  obtain ⟨x6, rfl, g6⟩ := mem_s3 h6
  exact h ⟨x1, x2, x3, x4, decide (k = 0), x5, x6⟩ _ _ _ ⟨g1, g2, g3, g4, g5, g6⟩
theorem eq_sat {F : Fn} {ss : List SV} {ce : List CO} {v : SV} (h : (F ss ce).sat (fun s c => s = v ∧ c = ce) fun _ _ => False) : F ss ce = .ok v ce := by
  obtain ⟨c, e, rfl⟩ := eq_of_sat h
  exact e
theorem eq_satC {F : Fn} {ss : List SV} {ce ce' : List CO} {v : SV} (h : (F ss ce).sat (fun s c => s = v ∧ c = ce') fun _ _ => False) : F ss ce = .ok v ce' := by
  obtain ⟨c, e, rfl⟩ := eq_of_sat h
  exact e
/-- the seven words and what they take -/
def W7 : List Str := ["case", "blanks", "empty", "lacking", "last", "unit", "halves"]
def rowD (w : Str) : List D := match tabAt tabs "RULES" w with
  | some (.tup l) => l
  | _ => []
def right (w : Str) (v : D) : Bool := if w = "last" then (match v with | .bl _ => true | _ => false) else if w = "unit" then (match v with | .int _ => inF v (rowD w) | _ => false) else (match v with | .str _ => inF v (rowD w) | _ => false)
/-- one of the kinds of values at hand -/
def kindV : D → Bool
  | .non => true | .bl _ => true | .int _ => true | .str _ => true | .lst _ => true | .tup _ => true | _ => false
def isIntV : D → Bool
  | .int _ => true
  | _ => false
theorem is_integer_eq {v : D} (hv : kindV v = true) (ce : List CO) : f_is_integer [.im v] ce = .ok (.im (.bl (isIntV v))) ce := loc_im (eq_sat (by
  cases v <;> first | exact Bool.noConfusion (show false = true from hv) | (refine s_def ?_; walk_at "go"; try rfl)))
theorem is_rule_eq {w : Str} (hw : w ∈ W7) {v : D} (hv : kindV v = true) (ce : List CO) : f_is_rule [.im (.str w), .im v] ce = .ok (.im (.bl (right w v))) ce := loc_im (eq_sat (by
  simp only [W7, List.mem_cons, List.not_mem_nil, or_false] at hw
  rcases hw with rfl | rfl | rfl | rfl | rfl | rfl | rfl
  all_goals (refine s_def ?_; cases v <;> first | exact Bool.noConfusion (show false = true from hv) | (walk_at "go"; first | done | rfl | (refine sat_of_eq (is_integer_eq rfl _) ?_; walk_at "go"; first | done | rfl | exact ⟨rfl, rfl⟩)))))
/-- the first word whose value is wrong -/
def fw : List Str → List D → Option Str
  | w :: ws, v :: vs => if right w v = true then fw ws vs else some w
  | _, _ => none
theorem rule_step {w : Str} {v : D} (hw : w ∈ W7) (hv : kindV v = true) {ce : List CO} {Ψ : SV → List CO → Prop} {Ξ : Xn → List CO → Prop} (h1 : right w v = true → Ψ (.im (.bl true)) ce) (h2 : right w v = false → Ψ (.im (.bl false)) ce) : (f_is_rule [.im (.str w), .im v] ce).sat Ψ Ξ := by
  refine sat_of_eq (is_rule_eq hw hv ce) ?_
  cases e : right w v
  · exact h2 e
  · exact h1 e
abbrev wV (v0 v1 v2 v3 v4 v5 v6 : D) : CO := .ins "Ways" [("case", .im v0), ("blanks", .im v1), ("empty", .im v2), ("lacking", .im v3), ("last", .im v4), ("unit", .im v5), ("halves", .im v6)]
abbrev wF (v0 v1 v2 v3 v4 v5 v6 : D) : D := .ins "Ways" [("case", v0), ("blanks", v1), ("empty", v2), ("lacking", v3), ("last", v4), ("unit", v5), ("halves", v6)]
abbrev dV (v0 v1 v2 v3 v4 v5 v6 : D) : CO := .dic [(.inr "case", .im v0), (.inr "blanks", .im v1), (.inr "empty", .im v2), (.inr "lacking", .im v3), (.inr "last", .im v4), (.inr "unit", .im v5), (.inr "halves", .im v6)]
theorem d_rulesC {v0 v1 v2 v3 v4 v5 v6 : D} : t_Ways_rules [.cl 0] [wV v0 v1 v2 v3 v4 v5 v6] = .ok (.cl 1) [wV v0 v1 v2 v3 v4 v5 v6, dV v0 v1 v2 v3 v4 v5 v6] := eq_satC (by
  refine s_defC ?_
  walk_at "go"
  refine s_retC (ce := [wV v0 v1 v2 v3 v4 v5 v6]) (Nat.le_of_ble_eq_true rfl) (by rfl) (by rfl) (okAll_pre (by rfl)) ⟨rfl, rfl⟩)
theorem d_rulesF {v0 v1 v2 v3 v4 v5 v6 : D} {ce : List CO} : f_Ways_rules [.im (wF v0 v1 v2 v3 v4 v5 v6)] ce = .ok (.cl ce.length) (ce ++ [dV v0 v1 v2 v3 v4 v5 v6]) := loc_cl (eq_satC (by
  refine s_defC ?_
  walk_at "go"
  dsimp only
  exact s_retC (Nat.le_of_ble_eq_true rfl) (by rfl) (by rfl) (okAll_pre (by rfl)) ⟨rfl, rfl⟩))
def tupP (p : Str × D) : D := .tup [.str p.1, p.2]
def fwP : List (Str × D) → Option Str
  | [] => none
  | p :: r => if right p.1 p.2 = true then fwP r else some p.1
theorem p_initV {v0 v1 v2 v3 v4 v5 v6 : D} (k0 : kindV v0 = true) (k1 : kindV v1 = true) (k2 : kindV v2 = true) (k3 : kindV v3 = true) (k4 : kindV v4 = true) (k5 : kindV v5 = true) (k6 : kindV v6 = true) {Ψ : SV → List CO → Prop} {Ξ : Xn → List CO → Prop}
    (h1 : fw W7 [v0, v1, v2, v3, v4, v5, v6] = none → Ψ (.im .non) [wV v0 v1 v2 v3 v4 v5 v6])
    (h2 : ∀ w, fw W7 [v0, v1, v2, v3, v4, v5, v6] = some w → Ξ ⟨.own "InvalidWays", [("word", .im (.str w))]⟩ [wV v0 v1 v2 v3 v4 v5 v6]) :
    (t_Ways___init__ [.cl 0, .im v0, .im v1, .im v2, .im v3, .im v4, .im v5, .im v6] [.ins "Ways" []]).sat Ψ Ξ := by
  refine s_def ?_
  walk_at "go"
  refine s_forU ?_
  walk_at "go"
  refine lq [0] rfl rfl rfl (sat_of_eq d_rulesC ?_)
  walk_at "go"
  refine s_forLR (fun rest δ => ∃ (x y : SV) (l : List (Str × D)), rest = l.map tupP ∧ (∀ p ∈ l, p.1 ∈ W7 ∧ kindV p.2 = true) ∧ fwP l = fw W7 [v0, v1, v2, v3, v4, v5, v6] ∧ δ = ⟨[.cl 0, .im v0, .im v1, .im v2, .im v3, .im v4, .im v5, .im v6, x, y], [wV v0 v1 v2 v3 v4 v5 v6, .fz (.dic [(.inr "case", v0), (.inr "blanks", v1), (.inr "empty", v2), (.inr "lacking", v3), (.inr "last", v4), (.inr "unit", v5), (.inr "halves", v6)])]⟩) _ _ ⟨_, _, [("case", v0), ("blanks", v1), ("empty", v2), ("lacking", v3), ("last", v4), ("unit", v5), ("halves", v6)], rfl, ?_, rfl, rfl⟩ ?_ ?_
  · intro p hp
    simp only [List.mem_cons, List.not_mem_nil, or_false] at hp
    rcases hp with rfl | rfl | rfl | rfl | rfl | rfl | rfl <;> refine ⟨by simp [W7], ?_⟩ <;> assumption
  · rintro d ds δ ⟨x, y, l, e, hl, hf, rfl⟩
    cases l with
    | nil => cases e
    | cons p l =>
      obtain ⟨w, v⟩ := p
      obtain ⟨rfl, rfl⟩ := List.cons.inj e
      have hw := hl _ List.mem_cons_self
      refine ⟨_, rfl, ?_⟩
      walk_at "go"
      refine rule_step hw.1 hw.2 (fun e0 => ?_) (fun e0 => ?_)
      · walk_at "go"
        exact ⟨_, _, l, rfl, fun p hp => hl p (List.mem_cons_of_mem _ hp), by rw [← hf]; show _ = if right w v = true then _ else _; rw [if_pos e0], rfl⟩
      · walk_at "go"
        dsimp only
        exact exF_sat (cutTo_last (pre := []) fun _ => rfl) rfl (h2 w (by rw [← hf]; show (if right w v = true then _ else _) = _; rw [e0]; rfl))
  · rintro δ ⟨x, y, l, e, hl, hf, rfl⟩
    cases l with
    | cons p l => cases e
    | nil =>
      dsimp only
      exact s_retF (cutTo_last (pre := []) fun _ => rfl) (h1 hf.symm)
theorem p_eqW {v0 v1 v2 v3 v4 v5 v6 u0 u1 u2 u3 u4 u5 u6 : D} (h : flatK [(.inr "case", u0), (.inr "blanks", u1), (.inr "empty", u2), (.inr "lacking", u3), (.inr "last", u4), (.inr "unit", u5), (.inr "halves", u6)] [(.inr "case", v0), (.inr "blanks", v1), (.inr "empty", v2), (.inr "lacking", v3), (.inr "last", v4), (.inr "unit", v5), (.inr "halves", v6)] = true) {ce : List CO} :
    f_Ways___eq__ [.im (wF v0 v1 v2 v3 v4 v5 v6), .im (wF u0 u1 u2 u3 u4 u5 u6)] ce = .ok (.im (.bl (allD' [(.inr "case", u0), (.inr "blanks", u1), (.inr "empty", u2), (.inr "lacking", u3), (.inr "last", u4), (.inr "unit", u5), (.inr "halves", u6)] [(.inr "case", v0), (.inr "blanks", v1), (.inr "empty", v2), (.inr "lacking", v3), (.inr "last", v4), (.inr "unit", v5), (.inr "halves", v6)]))) ce := loc_im (eq_sat (by
  refine s_def ?_
  walk_at "go"
  refine sat_of_eq d_rulesF ?_
  walk_at "go"
  refine sat_of_eq d_rulesF ?_
  walk_at "go"
  refine s_eqK (ks := [(.inr "case", v0), (.inr "blanks", v1), (.inr "empty", v2), (.inr "lacking", v3), (.inr "last", v4), (.inr "unit", v5), (.inr "halves", v6)]) (ls := [(.inr "case", u0), (.inr "blanks", u1), (.inr "empty", u2), (.inr "lacking", u3), (.inr "last", u4), (.inr "unit", u5), (.inr "halves", u6)]) rfl rfl ⟨rfl, h⟩ ?_
  walk_at "go"
  first | done | exact ⟨by simp only [Bool.bne_false], rfl⟩))
theorem rl_fw {r : Rl} (hr : r.ok) : fw W7 [.str r.case, .str r.blanks, .str r.empty, .str r.lacking, .bl r.last, .int r.unit, .str r.halves] = none := by
  have h0 : right "case" (.str r.case) = true := by rcases hr.case with e | e <;> rw [e] <;> decide +kernel
  have h1 : right "blanks" (.str r.blanks) = true := by rcases hr.blanks with e | e <;> rw [e] <;> decide +kernel
  have h2 : right "empty" (.str r.empty) = true := by rcases hr.empty with e | e <;> rw [e] <;> decide +kernel
  have h3 : right "lacking" (.str r.lacking) = true := by rcases hr.lacking with e | e | e <;> rw [e] <;> decide +kernel
  have h4 : right "last" (.bl r.last) = true := by cases r.last <;> decide +kernel
  have h5 : right "unit" (.int r.unit) = true := by rcases hr.unit with e | e | e | e <;> rw [e] <;> decide +kernel
  have h6 : right "halves" (.str r.halves) = true := by rcases hr.halves with e | e | e <;> rw [e] <;> decide +kernel
  simp only [fw, W7, h0, h1, h2, h3, h4, h5, h6, if_true]
theorem p_ways {r : Rl} (hr : r.ok) {ce : List CO} : f__law_ways [.im (rD r)] ce = .ok (.im (wF (.str r.case) (.str r.blanks) (.str r.empty) (.str r.lacking) (.bl r.last) (.int r.unit) (.str r.halves))) ce := loc_im (eq_sat (by
  refine s_def ?_
  walk_at "go"
  refine lq [0] rfl rfl rfl (p_initV rfl rfl rfl rfl rfl rfl rfl (fun hf => ?_) (fun w hf => ?_))
  · refine ⟨rfl, _, _, _, rfl, cutTo_pre rfl, ?_⟩
    walk_at "go"
    try exact ⟨rfl, rfl⟩
  · rw [rl_fw hr] at hf
    cases hf))
theorem p_str {a b c d e g : Str} {l : Bool} {i : Int} {u : Str} (hi : strD (.int i) = some (.str u)) (he : e = if l then "last" else "first") {y : Str} (hy : joinD (.str " ") (.lst [.str a, .str b, .str c, .str d, .str e, .str u, .str g]) = some (.str y)) {ce : List CO} :
    f_Ways___str__ [.im (wF (.str a) (.str b) (.str c) (.str d) (.bl l) (.int i) (.str g))] ce = .ok (.im (.str y)) ce := loc_im (eq_sat (by
  refine s_def ?_
  cases l <;> simp only [if_true, if_false, Bool.false_eq_true] at he <;> subst he
  all_goals walk_at "go"
  all_goals exact ⟨rfl, rfl⟩))
def uS (i : Int) : Str := if i = 1 then "1" else if i = 2 then "2" else if i = 5 then "5" else "10"
def w7 (r : Rl) : List Str := [r.case, r.blanks, r.empty, r.lacking, Str.ofString (if r.last = true then "last" else "first"), uS r.unit, r.halves]
theorem w7_small {r : Rl} (hr : r.ok) : ∀ w ∈ w7 r, w.length ≤ 8 := by
  intro w hw
  simp only [w7, List.mem_cons, List.not_mem_nil, or_false] at hw
  rcases hw with rfl | rfl | rfl | rfl | rfl | rfl | rfl
  · rcases hr.case with e | e <;> rw [e] <;> decide
  · rcases hr.blanks with e | e <;> rw [e] <;> decide
  · rcases hr.empty with e | e <;> rw [e] <;> decide
  · rcases hr.lacking with e | e | e <;> rw [e] <;> decide
  · cases r.last <;> decide
  · rcases hr.unit with e | e | e | e <;> rw [e] <;> decide +kernel
  · rcases hr.halves with e | e | e <;> rw [e] <;> decide
theorem w7_join {r : Rl} (hr : r.ok) : joinD (.str " ") (.lst ((w7 r).map .str)) = some (.str (Txt.join " " (w7 r))) := joinD_ok (w7_small hr) (by show 7 * 8 + 7 * 1 ≤ 1000000; decide)
theorem uS_str {r : Rl} (hr : r.ok) : strD (.int r.unit) = some (.str (uS r.unit)) := by
  rcases hr.unit with e | e | e | e <;> rw [e] <;> kernel_rfl
theorem imK_im {ce : List CO} : ∀ kds : List (Key × D), imK ce (kds.map fun p => (p.1, SV.im p.2)) = some kds
  | [] => rfl
  | (k, d) :: kds => by
    show (match some d, imK ce (kds.map fun p => (p.1, SV.im p.2)) with | some d, some ds => some ((k, d) :: ds) | _, _ => none) = _
    rw [imK_im kds]
/-- the rules with some of them put otherwise -/
theorem p_butV {v0 v1 v2 v3 v4 v5 v6 u0 u1 u2 u3 u4 u5 u6 : D} {kds : List (Key × D)} {kvs : List (Key × SV)} (hk : kvs = kds.map fun p => (p.1, SV.im p.2)) (hl : kds.length ≤ 7)
    (hm : mergeS [(.inr "case", .im v0), (.inr "blanks", .im v1), (.inr "empty", .im v2), (.inr "lacking", .im v3), (.inr "last", .im v4), (.inr "unit", .im v5), (.inr "halves", .im v6)] (kds.map fun p => (p.1, SV.im p.2)) = [(.inr "case", .im u0), (.inr "blanks", .im u1), (.inr "empty", .im u2), (.inr "lacking", .im u3), (.inr "last", .im u4), (.inr "unit", .im u5), (.inr "halves", .im u6)])
    (k0 : kindV u0 = true) (k1 : kindV u1 = true) (k2 : kindV u2 = true) (k3 : kindV u3 = true) (k4 : kindV u4 = true) (k5 : kindV u5 = true) (k6 : kindV u6 = true) {Ψ : SV → List CO → Prop} {Ξ : Xn → List CO → Prop}
    (h1 : fw W7 [u0, u1, u2, u3, u4, u5, u6] = none → Ψ (.im (wF u0 u1 u2 u3 u4 u5 u6)) [.dic kvs])
    (h2 : ∀ w, fw W7 [u0, u1, u2, u3, u4, u5, u6] = some w → Ξ ⟨.own "InvalidWays", [("word", .im (.str w))]⟩ [.dic kvs]) :
    (t_Ways_but [.im (wF v0 v1 v2 v3 v4 v5 v6), .cl 0] [.dic kvs]).sat Ψ Ξ := by
  refine s_def ?_
  walk_at "go"
  refine sat_of_eq d_rulesF ?_
  walk_at "go"
  subst hk
  refine s_update (kds := kds) rfl (show dv [CO.dic (kds.map fun p => (p.1, SV.im p.2)), dV v0 v1 v2 v3 v4 v5 v6] (.cl 0) = some (.dic kds) from ?_) ⟨?_, rfl⟩ ?_
  · show (imK _ (kds.map fun p => (p.1, SV.im p.2))).map D.dic = _
    rw [imK_im]; rfl
  · show 7 + kds.length ≤ 1000
    omega
  rw [hm]
  walk_at "go"
  refine ⟨⟨Nat.le_of_ble_eq_true rfl, rfl, rfl, rfl⟩, ?_⟩
  refine lq [3] rfl rfl rfl (p_initV k0 k1 k2 k3 k4 k5 k6 (fun hf => ?_) (fun w hf => ?_))
  · walk_at "w"
    refine ⟨rfl, _, _, rfl, ?_⟩
    exact s_retF (cutTo_pre rfl) (h1 hf)
  · walk_at "w"
    exact exF_sat (cutTo_pre rfl) rfl (h2 w hf)
/-- r with the j-th rule of z -/
def mixR (r z : Rl) : Nat → Rl
  | 0 => ⟨z.case, r.blanks, r.empty, r.lacking, r.last, r.unit, r.halves⟩
  | 1 => ⟨r.case, z.blanks, r.empty, r.lacking, r.last, r.unit, r.halves⟩
  | 2 => ⟨r.case, r.blanks, z.empty, r.lacking, r.last, r.unit, r.halves⟩
  | 3 => ⟨r.case, r.blanks, r.empty, z.lacking, r.last, r.unit, r.halves⟩
  | 4 => ⟨r.case, r.blanks, r.empty, r.lacking, z.last, r.unit, r.halves⟩
  | 5 => ⟨r.case, r.blanks, r.empty, r.lacking, r.last, z.unit, r.halves⟩
  | _ => ⟨r.case, r.blanks, r.empty, r.lacking, r.last, r.unit, z.halves⟩
theorem mix_ok {r z : Rl} (hr : r.ok) (hz : z.ok) (j : Nat) : (mixR r z j).ok := by
  unfold mixR
  split
  · exact ⟨hz.case, hr.blanks, hr.empty, hr.lacking, hr.unit, hr.halves⟩
  · exact ⟨hr.case, hz.blanks, hr.empty, hr.lacking, hr.unit, hr.halves⟩
  · exact ⟨hr.case, hr.blanks, hz.empty, hr.lacking, hr.unit, hr.halves⟩
  · exact ⟨hr.case, hr.blanks, hr.empty, hz.lacking, hr.unit, hr.halves⟩
  · exact ⟨hr.case, hr.blanks, hr.empty, hr.lacking, hr.unit, hr.halves⟩
  · exact ⟨hr.case, hr.blanks, hr.empty, hr.lacking, hz.unit, hr.halves⟩
  · exact ⟨hr.case, hr.blanks, hr.empty, hr.lacking, hr.unit, hz.halves⟩
abbrev wR (r : Rl) : D := wF (.str r.case) (.str r.blanks) (.str r.empty) (.str r.lacking) (.bl r.last) (.int r.unit) (.str r.halves)
abbrev dR (r : Rl) : CO := dV (.str r.case) (.str r.blanks) (.str r.empty) (.str r.lacking) (.bl r.last) (.int r.unit) (.str r.halves)
theorem p_waysC {r : Rl} (hr : r.ok) {Ψ : SV → List CO → Prop} {Ξ : Xn → List CO → Prop} (h : Ψ (.im (wR r)) [dR r]) : (t__law_ways [.cl 0] [dR r]).sat Ψ Ξ := by
  refine s_def ?_
  walk_at "go"
  refine lq [1] rfl rfl rfl (p_initV rfl rfl rfl rfl rfl rfl rfl (fun hf => ?_) (fun w hf => ?_))
  · refine ⟨rfl, _, _, _, rfl, cutTo_pre rfl, ?_⟩
    walk_at "go"
    exact h
  · rw [rl_fw hr] at hf
    cases hf
theorem eqW_flat {r z : Rl} : flatK [(.inr "case", .str z.case), (.inr "blanks", .str z.blanks), (.inr "empty", .str z.empty), (.inr "lacking", .str z.lacking), (.inr "last", .bl z.last), (.inr "unit", .int z.unit), (.inr "halves", .str z.halves)] [(.inr "case", .str r.case), (.inr "blanks", .str r.blanks), (.inr "empty", .str r.empty), (.inr "lacking", .str r.lacking), (.inr "last", .bl r.last), (.inr "unit", .int r.unit), (.inr "halves", .str r.halves)] = true := rfl
/-- whether two ways have the same rules -/
def sameR (r z : Rl) : Bool := allD' [(.inr "case", .str z.case), (.inr "blanks", .str z.blanks), (.inr "empty", .str z.empty), (.inr "lacking", .str z.lacking), (.inr "last", .bl z.last), (.inr "unit", .int z.unit), (.inr "halves", .str z.halves)] [(.inr "case", .str r.case), (.inr "blanks", .str r.blanks), (.inr "empty", .str r.empty), (.inr "lacking", .str r.lacking), (.inr "last", .bl r.last), (.inr "unit", .int r.unit), (.inr "halves", .str r.halves)]
theorem eqR {r z : Rl} {ce : List CO} : f_Ways___eq__ [.im (wR r), .im (wR z)] ce = .ok (.im (.bl (sameR r z))) ce := p_eqW eqW_flat
theorem same_self (r : Rl) : sameR r r = true := by
  show (eqF (.str r.case) (.str r.case) && (eqF (.str r.blanks) (.str r.blanks) && (eqF (.str r.empty) (.str r.empty) && (eqF (.str r.lacking) (.str r.lacking) && (eqF (.bl r.last) (.bl r.last) && (eqF (.int r.unit) (.int r.unit) && (eqF (.str r.halves) (.str r.halves) && true))))))) = true
  simp only [eqF, beq_self_eq_true, Bool.and_self]
theorem s_gen {o : OutS} {Φ : Post} (R : SV → Sta → Prop) (N : Sta → Prop) (h : ∀ Φ' : Post, (∀ s δ, R s δ → Φ'.rt s δ) → (∀ δ, N δ → Φ'.nx δ) → o.sat Φ') (h1 : ∀ s δ, R s δ → Φ.rt s δ) (h2 : ∀ δ, N δ → Φ.nx δ) : o.sat Φ := h Φ h1 h2
theorem cutTurn_boxT {t : CO} {a b n : Int} {sl : List SV} : cutTurn [t] ⟨sl, [t, bx a b n]⟩ = ⟨sl.map (cutS 1), [t]⟩ := by
  unfold cutTurn
  rw [show cutTo [t] [t, bx a b n] = some [t] from cutTo_pre rfl]
  rfl
theorem s_dictC {δ : Sta} {Ψ : SV → Sta → Prop} {Ξ : Xn → Sta → Prop} {kds : List (Key × D)} (h : Ψ (.cl δ.ce.length) ⟨δ.sl, δ.ce ++ [.dic (kds.map fun p => (p.1, SV.im p.2))]⟩) : (dictC [.im (.dic kds)] δ).sat Ψ Ξ := by
  rw [show @dictC = @Fx.dictC from dictC_eq]
  exact h
abbrev baseR (r : Rl) : List (Key × SV) := [(.inr "case", .im (.str r.case)), (.inr "blanks", .im (.str r.blanks)), (.inr "empty", .im (.str r.empty)), (.inr "lacking", .im (.str r.lacking)), (.inr "last", .im (.bl r.last)), (.inr "unit", .im (.int r.unit)), (.inr "halves", .im (.str r.halves))]
theorem p_butM {r m : Rl} {kds : List (Key × D)} (hm : m.ok) (hl : kds.length ≤ 7) (he : mergeS (baseR r) (kds.map fun p => (p.1, SV.im p.2)) = baseR m) {Ψ : SV → List CO → Prop} {Ξ : Xn → List CO → Prop} (h : Ψ (.im (wR m)) [.dic (kds.map fun p => (p.1, SV.im p.2))]) : (t_Ways_but [.im (wR r), .cl 0] [.dic (kds.map fun p => (p.1, SV.im p.2))]).sat Ψ Ξ :=
  p_butV rfl hl he rfl rfl rfl rfl rfl rfl rfl (fun _ => h) (fun w hf => by rw [rl_fw hm] at hf; cases hf)
theorem idx7 {j : Nat} (hj : j < 7) : indexD (.lst [.str "case", .str "blanks", .str "empty", .str "lacking", .str "last", .str "unit", .str "halves"]) (.str (W7.getD j "")) = some (.int (j : Nat)) := by
  match j, hj with
  | 0, _ => decide +kernel
  | 1, _ => decide +kernel
  | 2, _ => decide +kernel
  | 3, _ => decide +kernel
  | 4, _ => decide +kernel
  | 5, _ => decide +kernel
  | 6, _ => decide +kernel
theorem at7 {r z : Rl} {j : Nat} (hj : j < 7) : atI [wR (mixR r z 0), wR (mixR r z 1), wR (mixR r z 2), wR (mixR r z 3), wR (mixR r z 4), wR (mixR r z 5), wR (mixR r z 6)] ((j : Nat) : Int) = some (wR (mixR r z j)) := by
  match j, hj with
  | 0, _ => rfl
  | 1, _ => rfl
  | 2, _ => rfl
  | 3, _ => rfl
  | 4, _ => rfl
  | 5, _ => rfl
  | 6, _ => rfl
abbrev tL : CO := .tbl "law"
theorem cutTurn_T3 {a b n : Int} {o : CO} {sl : List SV} : cutTurn [tL, bx a b n] ⟨sl, [tL, bx a b n, o]⟩ = ⟨sl.map (cutS 2), [tL, bx a b n]⟩ := by
  unfold cutTurn
  rw [show cutTo [tL, bx a b n] [tL, bx a b n, o] = some [tL, bx a b n] from cutTo_pre rfl]
  rfl
theorem eqS {r : Rl} {x : Str} {ce : List CO} : f_Ways___eq__ [.im (wR r), .im (.str x)] ce = .ok (.im (.bl false)) ce := loc_im (eq_sat (by
  refine s_def ?_
  walk_at "go"
  try exact ⟨rfl, rfl⟩))
theorem eqI {r : Rl} {x : Int} {ce : List CO} : f_Ways___eq__ [.im (wR r), .im (.int x)] ce = .ok (.im (.bl false)) ce := loc_im (eq_sat (by
  refine s_def ?_
  walk_at "go"
  try exact ⟨rfl, rfl⟩))
theorem fw_facts {r : Rl} (hr : r.ok) : right "case" (.str r.case) = true ∧ right "blanks" (.str r.blanks) = true ∧ right "empty" (.str r.empty) = true ∧ right "lacking" (.str r.lacking) = true ∧ right "last" (.bl r.last) = true := by
  refine ⟨?_, ?_, ?_, ?_, ?_⟩
  · rcases hr.case with e | e <;> rw [e] <;> decide +kernel
  · rcases hr.blanks with e | e <;> rw [e] <;> decide +kernel
  · rcases hr.empty with e | e <;> rw [e] <;> decide +kernel
  · rcases hr.lacking with e | e | e <;> rw [e] <;> decide +kernel
  · cases r.last <;> decide +kernel
theorem fw_unit {r : Rl} (hr : r.ok) : fw W7 [.str r.case, .str r.blanks, .str r.empty, .str r.lacking, .bl r.last, .int 3, .str r.halves] = some ("unit" : Str) := by
  obtain ⟨h0, h1, h2, h3, h4⟩ := fw_facts hr
  have h5 : right "unit" (.int 3) = false := by decide +kernel
  simp only [fw, W7, h0, h1, h2, h3, h4, h5, if_true, Bool.false_eq_true, if_false]
theorem fw_case {r : Rl} (hr : r.ok) : fw W7 [.non, .str r.blanks, .str r.empty, .str r.lacking, .bl r.last, .int r.unit, .str r.halves] = some ("case" : Str) := by
  have h5 : right "case" .non = false := by decide +kernel
  simp only [fw, W7, h5, Bool.false_eq_true, if_false]
theorem fw_empty {r : Rl} (hr : r.ok) : fw W7 [.str r.case, .str r.blanks, .str "kept", .str r.lacking, .bl r.last, .int r.unit, .str "x"] = some ("empty" : Str) := by
  obtain ⟨h0, h1, h2, h3, h4⟩ := fw_facts hr
  have h5 : right "empty" (.str "kept") = false := by decide +kernel
  simp only [fw, W7, h0, h1, h5, if_true, Bool.false_eq_true, if_false]
theorem fw_last {r : Rl} (hr : r.ok) : fw W7 [.str r.case, .str r.blanks, .str r.empty, .str r.lacking, .int 0, .int r.unit, .str r.halves] = some ("last" : Str) := by
  obtain ⟨h0, h1, h2, h3, h4⟩ := fw_facts hr
  have h5 : right "last" (.int 0) = false := by decide +kernel
  simp only [fw, W7, h0, h1, h2, h3, h5, if_true, Bool.false_eq_true, if_false]
theorem cutTurn_T2 {a0 b0 n0 a b n : Int} {sl : List SV} : cutTurn [tL, bx a0 b0 n0] ⟨sl, [tL, bx a b n]⟩ = ⟨sl.map (cutS 2), [tL, bx a b n]⟩ := by
  unfold cutTurn
  rw [show cutTo [tL, bx a0 b0 n0] [tL, bx a b n] = some [tL, bx a b n] from cutTo_same (Nat.le_refl _)]
  rfl
theorem law_sat (ns : List Int) (hn : ns.length ≤ 63) : (f_law [.im (.scr ns)] [tL]).sat (fun s _ => s = .im (.bl true)) fun _ _ => False := by
  refine s_def ?_
  walk_at "go"
  refine s_forC (fun δ => ∃ (x1 x2 x3 x4 x5 x6 x7 x8 x9 x10 x11 x12 : SV), δ = ⟨[.im (.scr ns), x1, x2, x3, x4, x5, x6, x7, x8, x9, x10, x11, x12], [tL]⟩) ?_ ?_
  · walk_at "go"
    refine s_dop (d := .int (if ((ns.length : Nat) : Int) < 4 then ((ns.length : Nat) : Int) else 4)) rfl rfl rfl ?_
    walk_at "go"
    refine s_dop (d := .int (if (if ((ns.length : Nat) : Int) < 4 then ((ns.length : Nat) : Int) else 4) > 1 then (if ((ns.length : Nat) : Int) < 4 then ((ns.length : Nat) : Int) else 4) else 1)) rfl rfl rfl ?_
    walk_at "go"
    try refine ⟨by split <;> split <;> omega, ?_⟩
    try refine ⟨⟨_, _, _, _, _, _, _, _, _, _, _, _, rfl⟩, ?_⟩
    rintro d hd δ ⟨x1, x2, x3, x4, x5, x6, x7, x8, x9, x10, x11, x12, rfl⟩
    obtain ⟨i, _, rfl⟩ := rgD_mem hd
    refine ⟨_, rfl, ?_⟩
    walk_at "go"
    refine s_loc0 (p_box (by omega) fun a0 b0 n0 => ?_)
    walk_at "go"
    refine s_forC (fun δ => ∃ a b n : Int, ∃ (x1 x3 x4 x5 x6 x7 x8 x9 x10 x11 x12 : SV), δ = ⟨[.im (.scr ns), x1, .cl 1, x3, x4, x5, x6, x7, x8, x9, x10, x11, x12], [tL, bx a b n]⟩) ?_ ?_
    · walk_at "go"
      try refine ⟨⟨_, _, _, _, _, _, _, _, _, _, _, _, _, _, rfl⟩, ?_⟩
      rintro d hd δ ⟨a, b, n, x1, x3, x4, x5, x6, x7, x8, x9, x10, x11, x12, rfl⟩
      refine ⟨_, rfl, ?_⟩
      walk_at "go"
      refine lq [1] rfl rfl rfl (p_rules fun r a b n hr => ?_)
      walk_at "go"
      refine lq [1] rfl rfl rfl (p_rules fun z a b n hz => ?_)
      walk_at "go"
      refine sat_of_eq (p_ways hr) ?_
      walk_at "go"
      refine sat_of_eq (p_ways hz) ?_
      walk_at "go"
      refine s_forC (fun δ => ∃ (x1 x3 x8 x9 x10 x11 x12 : SV), δ = ⟨[.im (.scr ns), x1, .cl 1, x3, .im (rD r), .im (rD z), .im (wR r), .im (wR z), x8, x9, x10, x11, x12], [tL, bx a b n]⟩) ?_ ?_
      · walk_at "go"
        refine ⟨⟨_, _, _, _, _, _, _, rfl⟩, ?_⟩
        rintro d hd δ ⟨x1, x3, x8, x9, x10, x11, x12, rfl⟩
        refine ⟨_, rfl, ?_⟩
        refine s_seq ?_
        refine s_gen (fun _ _ => False) (fun δ => ∃ (x1 x3 x10 x11 x12 : SV), δ = ⟨[.im (.scr ns), x1, .cl 1, x3, .im (rD r), .im (rD z), .im (wR r), .im (wR z), .im d, .cl 2, x10, x11, x12], [tL, bx a b n, dR r]⟩) (fun Φ hR hN => ?_) (fun _ _ z => z.elim) ?_
        · walk_at "go"
          refine s_dictC ?_
          exact hN _ ⟨_, _, _, _, _, rfl⟩
        rintro δ ⟨x1, x3, x10, x11, x12, rfl⟩
        refine s_seq ?_
        refine s_gen (fun _ _ => False) (fun δ => ∃ j, j < 7 ∧ d = .str (W7.getD j "") ∧ ∃ (x1 x3 x10 x11 x12 : SV), δ = ⟨[.im (.scr ns), x1, .cl 1, x3, .im (rD r), .im (rD z), .im (wR r), .im (wR z), .im d, .cl 2, x10, x11, x12], [tL, bx a b n, dR (mixR r z j)]⟩) (fun Φ hR hN => ?_) (fun _ _ z => z.elim) ?_
        · simp only [List.mem_cons, List.not_mem_nil, or_false] at hd
          rcases hd with rfl | rfl | rfl | rfl | rfl | rfl | rfl
          · walk_at "go"
            exact hN _ ⟨0, by decide, rfl, _, _, _, _, _, rfl⟩
          · walk_at "go"
            exact hN _ ⟨1, by decide, rfl, _, _, _, _, _, rfl⟩
          · walk_at "go"
            exact hN _ ⟨2, by decide, rfl, _, _, _, _, _, rfl⟩
          · walk_at "go"
            exact hN _ ⟨3, by decide, rfl, _, _, _, _, _, rfl⟩
          · walk_at "go"
            exact hN _ ⟨4, by decide, rfl, _, _, _, _, _, rfl⟩
          · walk_at "go"
            exact hN _ ⟨5, by decide, rfl, _, _, _, _, _, rfl⟩
          · walk_at "go"
            exact hN _ ⟨6, by decide, rfl, _, _, _, _, _, rfl⟩
        rintro δ ⟨j, hj, rfl, x1, x3, x10, x11, x12, rfl⟩
        have hm := mix_ok hr hz j
        walk_at "go"
        refine lq [3] rfl rfl rfl (p_butM (r := r) (m := mixR r z 0) (kds := [(.inr "case", .str z.case)]) (mix_ok hr hz 0) (Nat.le_of_ble_eq_true rfl) rfl ?_)
        refine ⟨_, _, rfl, cutTo_pre rfl, ?_⟩
        walk_at "go"
        refine lq [3] rfl rfl rfl (p_butM (r := r) (m := mixR r z 1) (kds := [(.inr "blanks", .str z.blanks)]) (mix_ok hr hz 1) (Nat.le_of_ble_eq_true rfl) rfl ?_)
        refine ⟨_, _, rfl, cutTo_pre rfl, ?_⟩
        walk_at "go"
        refine lq [3] rfl rfl rfl (p_butM (r := r) (m := mixR r z 2) (kds := [(.inr "empty", .str z.empty)]) (mix_ok hr hz 2) (Nat.le_of_ble_eq_true rfl) rfl ?_)
        refine ⟨_, _, rfl, cutTo_pre rfl, ?_⟩
        walk_at "go"
        refine lq [3] rfl rfl rfl (p_butM (r := r) (m := mixR r z 3) (kds := [(.inr "lacking", .str z.lacking)]) (mix_ok hr hz 3) (Nat.le_of_ble_eq_true rfl) rfl ?_)
        refine ⟨_, _, rfl, cutTo_pre rfl, ?_⟩
        walk_at "go"
        refine lq [3] rfl rfl rfl (p_butM (r := r) (m := mixR r z 4) (kds := [(.inr "last", .bl z.last)]) (mix_ok hr hz 4) (Nat.le_of_ble_eq_true rfl) rfl ?_)
        refine ⟨_, _, rfl, cutTo_pre rfl, ?_⟩
        walk_at "go"
        refine lq [3] rfl rfl rfl (p_butM (r := r) (m := mixR r z 5) (kds := [(.inr "unit", .int z.unit)]) (mix_ok hr hz 5) (Nat.le_of_ble_eq_true rfl) rfl ?_)
        refine ⟨_, _, rfl, cutTo_pre rfl, ?_⟩
        walk_at "go"
        refine lq [3] rfl rfl rfl (p_butM (r := r) (m := mixR r z 6) (kds := [(.inr "halves", .str z.halves)]) (mix_ok hr hz 6) (Nat.le_of_ble_eq_true rfl) rfl ?_)
        refine ⟨_, _, rfl, cutTo_pre rfl, ?_⟩
        walk_at "go"
        refine s_dop rfl rfl (idx7 hj) ?_
        walk_at "go"
        refine s_ixL (at7 hj) ?_
        walk_at "go"
        refine lq [2] rfl rfl rfl (p_waysC hm ?_)
        walk_at "go"
        refine s_eqXo rfl rfl rfl rfl rfl (sat_of_eq eqR ⟨_, rfl, ?_⟩)
        rw [same_self]
        walk_at "go"
        refine s_ixL (at7 hj) ?_
        walk_at "go"
        refine s_eqXo rfl rfl rfl rfl rfl (sat_of_eq eqR ⟨_, rfl, ?_⟩)
        walk_at "go"
        · rename_i hyes
          exact absurd (show (!((sameR (mixR r z j) r != false) == (sameR (mixR r z j) r != false))) = true from hyes) (by simp)
        exact ⟨_, _, _, _, _, _, _, by rw [show cutTurn [tL, CO.lst [SV.im (D.int a), SV.im (D.int b), SV.im (D.int n)]] _ = _ from cutTurn_T3]; rfl⟩
      rintro δ ⟨x1, x3, x8, x9, x10, x11, x12, rfl⟩
      refine s_seq ?_
      refine s_gen (fun _ _ => False) (fun δ => ∃ (x1 x3 x8 x9 x10 x11 x12 : SV), δ = ⟨[.im (.scr ns), x1, .cl 1, x3, .im (rD r), .im (rD z), .im (wR r), .im (wR z), x8, x9, x10, x11, x12], [tL, bx a b n]⟩) (fun Φ hR hN => ?_) (fun _ _ z => z.elim) ?_
      · walk_at "go"
        refine lq [2] rfl rfl rfl (p_butM (r := r) (m := r) (kds := []) hr (Nat.le_of_ble_eq_true rfl) rfl ?_)
        refine ⟨_, _, rfl, cutTo_pre rfl, ?_⟩
        walk_at "go"
        refine s_eqXo rfl rfl rfl rfl rfl (sat_of_eq eqR ⟨_, rfl, ?_⟩)
        rw [same_self]
        walk_at "go"
        refine sat_of_eq (p_ways hr) ?_
        walk_at "go"
        refine s_eqXo rfl rfl rfl rfl rfl (sat_of_eq eqR ⟨_, rfl, ?_⟩)
        rw [same_self]
        walk_at "go"
        refine s_eqXo rfl rfl rfl rfl rfl (sat_of_eq eqR ⟨_, rfl, ?_⟩)
        walk_at "go"
        · rename_i hyes
          exact absurd (show (!((sameR r z != false) == (sameR r z != false))) = true from hyes) (by simp)
        exact hN _ ⟨_, _, _, _, _, _, _, rfl⟩
      rintro δ ⟨x1, x3, x8, x9, x10, x11, x12, rfl⟩
      walk_at "go"
      refine lq [2] rfl rfl rfl (p_butM (r := r) (m := ⟨z.case, r.blanks, r.empty, r.lacking, r.last, z.unit, z.halves⟩) (kds := [(.inr "halves", .str z.halves), (.inr "case", .str z.case), (.inr "unit", .int z.unit)]) ⟨hz.case, hr.blanks, hr.empty, hr.lacking, hz.unit, hz.halves⟩ (Nat.le_of_ble_eq_true rfl) rfl ?_)
      refine ⟨_, _, rfl, cutTo_pre rfl, ?_⟩
      walk_at "go"
      refine lq [2] rfl rfl rfl (p_butM (r := ⟨z.case, r.blanks, r.empty, r.lacking, r.last, z.unit, z.halves⟩) (m := ⟨z.case, z.blanks, z.empty, r.lacking, z.last, z.unit, z.halves⟩) (kds := [(.inr "blanks", .str z.blanks), (.inr "empty", .str z.empty), (.inr "last", .bl z.last)]) ⟨hz.case, hz.blanks, hz.empty, hr.lacking, hz.unit, hz.halves⟩ (Nat.le_of_ble_eq_true rfl) rfl ?_)
      refine ⟨_, _, rfl, cutTo_pre rfl, ?_⟩
      walk_at "go"
      refine lq [2] rfl rfl rfl (p_butM (r := ⟨z.case, z.blanks, z.empty, r.lacking, z.last, z.unit, z.halves⟩) (m := z) (kds := [(.inr "lacking", .str z.lacking)]) hz (Nat.le_of_ble_eq_true rfl) rfl ?_)
      refine ⟨_, _, rfl, cutTo_pre rfl, ?_⟩
      walk_at "go"
      refine s_eqXo rfl rfl rfl rfl rfl (sat_of_eq eqR ⟨_, rfl, ?_⟩)
      rw [same_self]
      walk_at "go"
      refine s_eqXo rfl rfl rfl rfl rfl (sat_of_eq eqR ⟨_, rfl, ?_⟩)
      rw [same_self]
      walk_at "go"
      refine s_strXo rfl rfl (sat_of_eq (p_str (uS_str hr) rfl (w7_join hr)) ⟨_, rfl, ?_⟩)
      walk_at "go"
      refine s_eqXo rfl rfl rfl rfl rfl (sat_of_eq eqS ⟨_, rfl, ?_⟩)
      walk_at "go"
      refine s_eqXo rfl rfl rfl rfl rfl (sat_of_eq eqI ⟨_, rfl, ?_⟩)
      walk_at "go"
      refine s_refu rfl ?_
      walk_at "go"
      refine lq [2] rfl rfl rfl (p_butV (u0 := .str r.case) (u1 := .str r.blanks) (u2 := .str r.empty) (u3 := .str r.lacking) (u4 := .bl r.last) (u5 := .int 3) (u6 := .str r.halves) (kds := [(.inr "unit", .int 3)]) rfl (Nat.le_of_ble_eq_true rfl) rfl rfl rfl rfl rfl rfl rfl rfl (fun hf => ?_) (fun w hf => ?_))
      · rw [fw_unit hr] at hf; cases hf
      rw [fw_unit hr] at hf
      cases hf
      walk_at "w"
      refine ⟨_, _, rfl, rfl, cutTo_pre rfl, ?_⟩
      walk_at "go"
      refine s_refu rfl ?_
      walk_at "go"
      refine lq [2] rfl rfl rfl (p_butV (u0 := .non) (u1 := .str r.blanks) (u2 := .str r.empty) (u3 := .str r.lacking) (u4 := .bl r.last) (u5 := .int r.unit) (u6 := .str r.halves) (kds := [(.inr "case", .non)]) rfl (Nat.le_of_ble_eq_true rfl) rfl rfl rfl rfl rfl rfl rfl rfl (fun hf => ?_) (fun w hf => ?_))
      · rw [fw_case hr] at hf; cases hf
      rw [fw_case hr] at hf
      cases hf
      walk_at "w"
      refine ⟨_, _, rfl, rfl, cutTo_pre rfl, ?_⟩
      walk_at "go"
      refine s_refu rfl ?_
      walk_at "go"
      refine lq [2] rfl rfl rfl (p_butV (u0 := .str r.case) (u1 := .str r.blanks) (u2 := .str "kept") (u3 := .str r.lacking) (u4 := .bl r.last) (u5 := .int r.unit) (u6 := .str "x") (kds := [(.inr "halves", .str "x"), (.inr "empty", .str "kept")]) rfl (Nat.le_of_ble_eq_true rfl) rfl rfl rfl rfl rfl rfl rfl rfl (fun hf => ?_) (fun w hf => ?_))
      · rw [fw_empty hr] at hf; cases hf
      rw [fw_empty hr] at hf
      cases hf
      walk_at "w"
      refine ⟨_, _, rfl, rfl, cutTo_pre rfl, ?_⟩
      walk_at "go"
      refine s_refu rfl ?_
      walk_at "go"
      refine lq [2] rfl rfl rfl (p_butV (u0 := .str r.case) (u1 := .str r.blanks) (u2 := .str r.empty) (u3 := .str r.lacking) (u4 := .int 0) (u5 := .int r.unit) (u6 := .str r.halves) (kds := [(.inr "last", .int 0)]) rfl (Nat.le_of_ble_eq_true rfl) rfl rfl rfl rfl rfl rfl rfl rfl (fun hf => ?_) (fun w hf => ?_))
      · rw [fw_last hr] at hf; cases hf
      rw [fw_last hr] at hf
      cases hf
      walk_at "w"
      refine ⟨_, _, rfl, rfl, cutTo_pre rfl, ?_⟩
      walk_at "go"
      exact ⟨_, _, _, _, _, _, _, _, _, _, _, _, _, _, by rw [show cutTurn [tL, CO.lst [SV.im (D.int a0), SV.im (D.int b0), SV.im (D.int n0)]] _ = _ from cutTurn_T2]; rfl⟩
    · rintro δ ⟨a, b, n, x1, x3, x4, x5, x6, x7, x8, x9, x10, x11, x12, rfl⟩
      exact ⟨_, _, _, _, _, _, _, _, _, _, _, _, by rw [cutTurn_boxT]; rfl⟩
  · rintro δ ⟨x1, x2, x3, x4, x5, x6, x7, x8, x9, x10, x11, x12, rfl⟩
    walk_at "go"
    try rfl
theorem law_true (ns : List Int) (h : ns.length ≤ 63) : ∃ ce, f_law [.im (.scr ns)] [.tbl "law"] = .ok (.im (.bl true)) ce := by
  obtain ⟨ce, e, _⟩ := eq_of_sat (P := fun _ => True) (Out.sat_mono (law_sat ns h) (fun _ _ z => ⟨z, trivial⟩) fun _ _ z => z)
  exact ⟨ce, e⟩
end K07.G
namespace K07
open PySem L2 Fx
theorem law_true (ns : List Int) (h : ns.length ≤ 63) : ∃ ce, f_law [.im (.scr ns)] [.tbl "law"] = .ok (.im (.bl true)) ce := by
  rw [← G.f_law_eq]
  exact G.law_true ns h
end K07

set_option Elab.async false
set_option linter.all false
set_option autoImplicit false
set_option maxRecDepth 100000
set_option maxHeartbeats 0
namespace K07
open PySem PySem.Spec PyProof.Rows L2 Fx
section
variable {P : Program} {w : World} {K : PySem.W.Frag} {mg : Str → Option Value} {base : Heap} {f : Addr} {fd : FuncData}
theorem b_abs (T : TX K w mg) : mg "abs" = none := T.free _ (by decide +kernel)
theorem b_bool (T : TX K w mg) : mg "bool" = none := T.free _ (by decide +kernel)
theorem b_dict (T : TX K w mg) : mg "dict" = none := T.free _ (by decide +kernel)
theorem b_int (T : TX K w mg) : mg "int" = none := T.free _ (by decide +kernel)
theorem b_isinstance (T : TX K w mg) : mg "isinstance" = none := T.free _ (by decide +kernel)
theorem b_len (T : TX K w mg) : mg "len" = none := T.free _ (by decide +kernel)
theorem b_max (T : TX K w mg) : mg "max" = none := T.free _ (by decide +kernel)
theorem b_min (T : TX K w mg) : mg "min" = none := T.free _ (by decide +kernel)
theorem b_range (T : TX K w mg) : mg "range" = none := T.free _ (by decide +kernel)
theorem b_str (T : TX K w mg) : mg "str" = none := T.free _ (by decide +kernel)
theorem b_super (T : TX K w mg) : mg "super" = none := T.free _ (by decide +kernel)
theorem g_InvalidWays (T : TX K w mg) : mg "InvalidWays" = some (.ref (He.ga K "InvalidWays")) := T.glo _ (by decide +kernel)
theorem g_RULES (T : TX K w mg) : mg "RULES" = some (.ref (He.ga K "RULES")) := T.glo _ (by decide +kernel)
theorem g_Ways (T : TX K w mg) : mg "Ways" = some (.ref (He.ga K "Ways")) := T.glo _ (by decide +kernel)
theorem g__law_refusal (T : TX K w mg) : mg "_law_refusal" = some (.ref (He.ga K "_law_refusal")) := T.glo _ (by decide +kernel)
theorem sc__law_refusal : FnScope ["_law_work", "_law_found", "e"] ["_law_work"] (defScope s__law_refusal) := ⟨rfl, rfl, rfl, by decide +kernel, rfl, by decide +kernel, by decide +kernel⟩
theorem sc__law_box : FnScope ["_law_script", "_law_k", "_law_great", "_law_seed"] ["_law_script", "_law_k"] (defScope s__law_box) := ⟨rfl, rfl, rfl, by decide +kernel, rfl, by decide +kernel, by decide +kernel⟩
theorem ok__law_box (T : TX K w mg)  (F : FunD K "_law_box" "_law_box" (defArgs s__law_box) (defBody s__law_box) (defScope s__law_box) [] [] f fd) : FnG P w K mg base (CX P w) 1 f fd ["_law_script", "_law_k"] (spFn K 2 f__law_box) := by
  refine FnG.loc (fn_okC F sc__law_box (by decide) fun cdv Ar outer s H E xs hr => ?_)
  have hu := hu_of hr.r
  exact ⟨_, (pss_cons (ps_set (i := 2) sc__law_box.nd rfl (Or.inl rfl) (pe_op (op_addA' (K := K)) (pe_op op_mulA pe_int (pv 1)) pe_int))
      (pss_cons (ps_if (pt_cmpR op_ltA (pv 1) (pe_callB (cl_len' (K := K)) (by rfl) (b_len T) (by decide +kernel) (pa_cons (pv 0) pa_nil)) (nomark _)) (pss_one (ps_set (i := 2) sc__law_box.nd rfl (Or.inl rfl) (pe_callB cl_abs (by rfl) (b_abs T) (by decide +kernel) (pa_cons (pe_callTy cl_int (by rfl) (b_int T) (by decide +kernel) (pa_cons (pe_ix (ix_all' (K := K) (w := w) hu) (pv 0) (pv 1) (fun _ _ => rfl)) pa_nil)) pa_nil)))) (pss_one (ps_if (pt_cmpR op_gtA (pe_callB (cl_len' (K := K)) (by rfl) (b_len T) (by decide +kernel) (pa_cons (pv 0) pa_nil)) pe_int (nomark _)) (pss_one (ps_set (i := 2) sc__law_box.nd rfl (Or.inl rfl) (pe_op (op_addA' (K := K)) (pv 2) (pe_op op_mulA (pe_op op_modA (pe_callTy cl_int (by rfl) (b_int T) (by decide +kernel) (pa_cons (pe_ix (ix_all' (K := K) (w := w) hu) (pv 0) (pe_op op_modA (pe_callTy cl_int (by rfl) (b_int T) (by decide +kernel) (pa_cons (pv 1) pa_nil)) (pe_callB (cl_len' (K := K)) (by rfl) (b_len T) (by decide +kernel) (pa_cons (pv 0) pa_nil))) (fun _ _ => rfl)) pa_nil)) pe_int) pe_int)))) pss_nil)))
      (pss_cons (ps_set (i := 3) sc__law_box.nd rfl (Or.inl rfl) (pe_op (op_addA' (K := K)) (pe_op op_modA (pe_callTy cl_int (by rfl) (b_int T) (by decide +kernel) (pa_cons (pe_op (op_addA' (K := K)) (pe_op (op_addA' (K := K)) (pe_op op_mulA (pe_op op_modA (pe_callTy cl_int (by rfl) (b_int T) (by decide +kernel) (pa_cons (pv 2) pa_nil)) pe_int) pe_int) (pe_op op_mulA pe_int (pv 1))) pe_int) pa_nil)) pe_int) pe_int))
      (pss_one (ps_ret (pe_lst (pa_cons (pe_ix (ix_all' (K := K) (w := w) hu) (pe_lst (pa_cons pe_int (pa_cons (pv 2) pa_nil))) (pe_callTy cl_int (by rfl) (b_int T) (by decide +kernel) (pa_cons (pe_cmpR op_geA (pv 2) (pe_op op_powA pe_int pe_int) (nomark _)) pa_nil)) (fun _ _ => rfl)) (pa_cons (pv 3) (pa_cons pe_int pa_nil))))))))),
    (ss_seq (ss_asg (se_op ok_add (se_op ok_mul (se_int _) (se_var 1)) (se_int _)) (sg_nm 2))
      (ss_seq (ss_if (st_test (se_op ok_lt (se_var 1) (se_cb ok_len (sa_cons (se_var 0) sa_nil)))) (ss_asg (se_cb ok_abs (sa_cons (se_cb ok_int (sa_cons (se_op (ok_ix T.tabs) (se_var 0) (se_var 1)) sa_nil)) sa_nil)) (sg_nm 2)) (ss_if (st_test (se_op ok_gt (se_cb ok_len (sa_cons (se_var 0) sa_nil)) (se_int _))) (ss_asg (se_op ok_add (se_var 2) (se_op ok_mul (se_op ok_mod (se_cb ok_int (sa_cons (se_op (ok_ix T.tabs) (se_var 0) (se_op ok_mod (se_cb ok_int (sa_cons (se_var 1) sa_nil)) (se_cb ok_len (sa_cons (se_var 0) sa_nil)))) sa_nil)) (se_int _)) (se_int _))) (sg_nm 2)) ss_next))
      (ss_seq (ss_asg (se_op ok_add (se_op ok_mod (se_cb ok_int (sa_cons (se_op ok_add (se_op ok_add (se_op ok_mul (se_op ok_mod (se_cb ok_int (sa_cons (se_var 2) sa_nil)) (se_int _)) (se_int _)) (se_op ok_mul (se_int _) (se_var 1))) (se_int _)) sa_nil)) (se_int _)) (se_int _)) (sg_nm 3))
      (ss_ret (se_lstC (sa_cons (se_op (ok_ix T.tabs) (se_lst (sa_cons (se_int _) (sa_cons (se_var 2) sa_nil))) (se_cb ok_int (sa_cons (se_op ok_ge (se_var 2) (se_op ok_pow (se_int _) (se_int _))) sa_nil))) (sa_cons (se_var 3) (sa_cons (se_int _) sa_nil))))))))⟩
theorem sc_Ways_rules : FnScope ["self", "found"] ["self"] (defScope s_Ways_rules) := ⟨rfl, rfl, rfl, by decide +kernel, rfl, by decide +kernel, by decide +kernel⟩
theorem ok_Ways_rules (T : TX K w mg)  (F : FunD K "rules" "Ways.rules" (defArgs s_Ways_rules) (defBody s_Ways_rules) (defScope s_Ways_rules) [] [] f fd) : FnG P w K mg base (CX P w) 1 f fd ["self"] (spFn K 1 f_Ways_rules) := by
  refine FnG.loc (fn_okC F sc_Ways_rules (by decide) fun cdv Ar outer s H E xs hr => ?_)
  have hu := hu_of hr.r
  exact ⟨_, (pss_cons (ps_set (i := 1) sc_Ways_rules.nd rfl (Or.inl rfl) (pe_disp (pps_cons pe_str (pe_fc (K := K) (pv 0) rfl) (pps_cons pe_str (pe_fc (K := K) (pv 0) rfl) (pps_cons pe_str (pe_fc (K := K) (pv 0) rfl) (pps_cons pe_str (pe_fc (K := K) (pv 0) rfl) pps_nil)))) (by rfl) (by rfl) (fun z => by cases z) (by decide)))
      (pss_one (ps_ret (pe_dispS (pv 1) (pps_cons pe_str (pe_fc (K := K) (pv 0) rfl) (pps_cons pe_str (pe_fc (K := K) (pv 0) rfl) (pps_cons pe_str (pe_fc (K := K) (pv 0) rfl) pps_nil))) (by rfl) (by rfl) (fun z => by cases z) (by decide))))),
    (ss_seq (ss_asg (se_disp ⟨(se_str _), (se_fld T.ct (se_var 0)), ⟨(se_str _), (se_fld T.ct (se_var 0)), ⟨(se_str _), (se_fld T.ct (se_var 0)), ⟨(se_str _), (se_fld T.ct (se_var 0)), trivial⟩⟩⟩⟩) (sg_nm 1))
      (ss_ret (se_dispS (se_var 1) ⟨(se_str _), (se_fld T.ct (se_var 0)), ⟨(se_str _), (se_fld T.ct (se_var 0)), ⟨(se_str _), (se_fld T.ct (se_var 0)), trivial⟩⟩⟩)))⟩
theorem sc_is_integer : FnScope ["value"] ["value"] (defScope s_is_integer) := ⟨rfl, rfl, rfl, by decide +kernel, rfl, by decide +kernel, by decide +kernel⟩
theorem ok_is_integer (T : TX K w mg)  (F : FunD K "is_integer" "is_integer" (defArgs s_is_integer) (defBody s_is_integer) (defScope s_is_integer) [] [] f fd) : FnG P w K mg base (CX P w) 1 f fd ["value"] (spFn K 1 f_is_integer) := by
  refine FnG.loc (fn_ok F sc_is_integer (by decide) fun cdv Ar outer s H E xs hr => ?_)
  have hu := hu_of hr.r
  exact ⟨_, (pss_one (ps_ret (pe_and (pe_callB (cl_isi' (K := K)) (by rfl) (b_isinstance T) (by decide +kernel) (pa_cons (pv 0) (pa_cons (pe_bltn (v := .ty "int") rfl (b_int T) (by decide +kernel) rfl) pa_nil))) (pe_one (pe_not (pe_callB (cl_isi' (K := K)) (by rfl) (b_isinstance T) (by decide +kernel) (pa_cons (pv 0) (pa_cons (pe_bltn (v := .ty "bool") rfl (b_bool T) (by decide +kernel) rfl) pa_nil)))))))),
    (ss_ret (se_andV (se_cb (ok_isi T.isi) (sa_cons (se_var 0) (sa_cons (se_ty _) sa_nil))) (se_notV (se_cb (ok_isi T.isi) (sa_cons (se_var 0) (sa_cons (se_ty _) sa_nil))))))⟩
theorem sc_is_rule : FnScope ["word", "value"] ["word", "value"] (defScope s_is_rule) := ⟨rfl, rfl, rfl, by decide +kernel, rfl, by decide +kernel, by decide +kernel⟩
theorem ok_is_rule (T : TX K w mg) (G_is_integer : GF P w K mg base "is_integer" 1 [] 1 f_is_integer) (F : FunD K "is_rule" "is_rule" (defArgs s_is_rule) (defBody s_is_rule) (defScope s_is_rule) [] [] f fd) : FnG P w K mg base (CX P w) 2 f fd ["word", "value"] (spFn K 2 f_is_rule) := by
  refine FnG.loc (fn_ok F sc_is_rule (by decide) fun cdv Ar outer s H E xs hr => ?_)
  have hu := hu_of hr.r
  exact ⟨_, (pss_cons (ps_if (pt_cmpR (op_eqA' (K := K) hr) (pv 0) pe_str (nomark _)) (pss_one (ps_ret (pe_callB (cl_isi' (K := K)) (by rfl) (b_isinstance T) (by decide +kernel) (pa_cons (pv 1) (pa_cons (pe_bltn (v := .ty "bool") rfl (b_bool T) (by decide +kernel) rfl) pa_nil))))) pss_nil)
      (pss_cons (ps_if (pt_cmpR (op_eqA' (K := K) hr) (pv 0) pe_str (nomark _)) (pss_one (ps_ret (pe_and (pe_cf G_is_integer (hr.mono (by decide)) (by rfl) (takes_of rfl rfl rfl rfl) (pa_cons (pv 1) pa_nil)) (pe_one (pe_cmpR (op_inA' (K := K) hu) (pv 1) (pe_ix (ix_all' (K := K) (w := w) hu) (pe_glob (v := .ref (He.ga K "RULES")) rfl (g_RULES T) rfl) (pv 0) (fun _ _ => rfl)) (by rfl)))))) pss_nil)
      (pss_one (ps_ret (pe_and (pe_callB (cl_isi' (K := K)) (by rfl) (b_isinstance T) (by decide +kernel) (pa_cons (pv 1) (pa_cons (pe_bltn (v := .ty "str") rfl (b_str T) (by decide +kernel) rfl) pa_nil))) (pe_one (pe_cmpR (op_inA' (K := K) hu) (pv 1) (pe_ix (ix_all' (K := K) (w := w) hu) (pe_glob (v := .ref (He.ga K "RULES")) rfl (g_RULES T) rfl) (pv 0) (fun _ _ => rfl)) (by rfl)))))))),
    (ss_seq (ss_if (st_test (se_op ok_eq (se_var 0) (se_str _))) (ss_ret (se_cb (ok_isi T.isi) (sa_cons (se_var 1) (sa_cons (se_ty _) sa_nil)))) ss_next)
      (ss_seq (ss_if (st_test (se_op ok_eq (se_var 0) (se_str _))) (ss_ret (se_andV (se_call (sa_cons (se_var 1) sa_nil)) (se_op ok_in (se_var 1) (se_op (ok_ix T.tabs) (se_glo _) (se_var 0))))) ss_next)
      (ss_ret (se_andV (se_cb (ok_isi T.isi) (sa_cons (se_var 1) (sa_cons (se_ty _) sa_nil))) (se_op ok_in (se_var 1) (se_op (ok_ix T.tabs) (se_glo _) (se_var 0)))))))⟩
theorem sc_Ways___init__ : FnScope ["self", "case", "blanks", "empty", "lacking", "last", "unit", "halves", "word", "value"] ["self", "case", "blanks", "empty", "lacking", "last", "unit", "halves"] (defScope s_Ways___init__) := ⟨rfl, rfl, rfl, by decide +kernel, rfl, by decide +kernel, by decide +kernel⟩
theorem ok_Ways___init__ (T : TX K w mg) (G_rules : GM P w K mg base "rules" 1 mt_rules) (G_is_rule : GF P w K mg base "is_rule" 2 [] 2 f_is_rule) (S_InvalidWays : SupTxt P K mg "InvalidWays" "word" (He.ga K "InvalidWays") (fIof K (He.ga K "InvalidWays"))) (F : FunD K "__init__" "Ways.__init__" (defArgs s_Ways___init__) (defBody s_Ways___init__) (defScope s_Ways___init__) [.str "exact", .str "kept", .str "text", .str "unknown", .bl false, .int 1, .str "even"] [] f fd) : FnG P w K mg base (CX P w) 3 f fd ["self", "case", "blanks", "empty", "lacking", "last", "unit", "halves"] (spFn K 8 f_Ways___init__) := by
  refine FnG.loc (fn_ok F sc_Ways___init__ (by decide) fun cdv Ar outer s H E xs hr => ?_)
  have hu := hu_of hr.r
  exact ⟨_, (pss_cons (ps_asg (pe_tup (pa_cons (pv 1) (pa_cons (pv 2) (pa_cons (pv 3) (pa_cons (pv 4) pa_nil))))) (pg_tup' (K := K) rfl (pgs_cons (pg_fld' (K := K) (pv 0)) (pgs_cons (pg_fld' (K := K) (pv 0)) (pgs_cons (pg_fld' (K := K) (pv 0)) (pgs_cons (pg_fld' (K := K) (pv 0)) pgs_nil))))))
      (pss_cons (ps_asg (pe_tup (pa_cons (pv 5) (pa_cons (pv 6) (pa_cons (pv 7) pa_nil)))) (pg_tup' (K := K) rfl (pgs_cons (pg_fld' (K := K) (pv 0)) (pgs_cons (pg_fld' (K := K) (pv 0)) (pgs_cons (pg_fld' (K := K) (pv 0)) pgs_nil)))))
      (pss_one (ps_for (passes_of rfl) rfl (pi_items (pe_lk (pe_dm0 G_rules (pv 0) (hr.mono (by decide)) (takes_of rfl rfl rfl rfl)))) (pg_tup' (K := K) rfl (pgs_cons (pg_name (i := 8) sc_Ways___init__.nd rfl (Or.inl rfl)) (pgs_cons (pg_name (i := 9) sc_Ways___init__.nd rfl (Or.inl rfl)) pgs_nil))) (pss_one (ps_if (pt_not (pt_val (pe_cf G_is_rule (hr.mono (by decide)) (by rfl) (takes_of rfl rfl rfl rfl) (pa_cons (pv 8) (pa_cons (pv 9) pa_nil))))) (pss_one (ps_raiseSup rfl S_InvalidWays hr (takes_of rfl rfl rfl rfl) (pa_cons (pv 8) pa_nil) (by rfl))) pss_nil)))))),
    (ss_seq (ss_asg (se_tup (sa_cons (se_var 1) (sa_cons (se_var 2) (sa_cons (se_var 3) (sa_cons (se_var 4) sa_nil))))) (sg_tp (sgs_cons (sg_fl T.ct 0 _) (sgs_cons (sg_fl T.ct 0 _) (sgs_cons (sg_fl T.ct 0 _) (sgs_cons (sg_fl T.ct 0 _) sgs_nil))))))
      (ss_seq (ss_asg (se_tup (sa_cons (se_var 5) (sa_cons (se_var 6) (sa_cons (se_var 7) sa_nil)))) (sg_tp (sgs_cons (sg_fl T.ct 0 _) (sgs_cons (sg_fl T.ct 0 _) (sgs_cons (sg_fl T.ct 0 _) sgs_nil)))))
      (ss_for (si_items (se_meth (se_var 0) sa_nil)) (sg_tp (sgs_cons (sg_nm 8) (sgs_cons (sg_nm 9) sgs_nil))) (ss_if (st_not (st_B (se_call (sa_cons (se_var 8) (sa_cons (se_var 9) sa_nil))))) (ss_raise (se_var 8)) ss_next))))⟩
theorem sc_Ways_but : FnScope ["self", "others", "found"] ["self", "others"] (defScope s_Ways_but) := ⟨rfl, rfl, rfl, by decide +kernel, rfl, by decide +kernel, by decide +kernel⟩
theorem ok_Ways_but (T : TX K w mg) (G_rules : GM P w K mg base "rules" 1 mt_rules) (G_Ways_dd : GKK P w K mg base "Ways" 8 ["case", "blanks", "empty", "lacking", "last", "unit", "halves"] 3 f_Ways___init__) {ks : List Str} (F : FunD K "but" "Ways.but" (defArgs s_Ways_but) (defBody s_Ways_but) (defScope s_Ways_but) [] [] f fd) (hks : ks.length ≤ 1000) (hb : ∀ (kV doc pm : Value) (an : Option Addr) (cdv ct : Value) (us ws : List Value), us.length = 1 → ws.length = ks.length → bindArgs (PySem.W.fnOf "but" "Ways.but" (defArgs s_Ways_but) (defBody s_Ways_but) (defScope s_Ways_but) .none kV doc pm an cdv ct) ⟨us, ks.zip ws⟩ = ((alloc ({ cls := .type "dict", data := .dict #[] } : Obj) : Sem Addr) >>= fun d => putFor d (ks.zip ws) >>= fun _ => pure ((["self"] : List Str).zip us ++ [(("others" : Str), Value.ref d)]))) : FnKW P w K mg base (CX P w) 5 f ks (fun vs zs H Q E => vs.length = 1 ∧ zs.length = ks.length ∧ ∀ d, H d = none → spFn K 2 f_Ways_but (vs ++ [V.ref d]) (upd H d (.dK (mergeK [] (inrs (ks.zip zs))))) Q E) := by
  refine fnKW_loc (fn_okKW (ps := ["self"]) (pd := "others") F sc_Ways_but (by decide) hks hb fun cdv Ar outer s H E xs hr => ?_)
  have hu := hu_of hr.r
  exact ⟨_, (pss_cons (ps_set (i := 2) sc_Ways_but.nd rfl (Or.inl rfl) (pe_dm0 G_rules (pv 0) (hr.mono (by decide)) (takes_of rfl rfl rfl rfl)))
      (pss_cons (ps_expr (pe_bm' (K := K) PySem.F.plainAttrs_dict PySem.F.slot_dict_update PySem.F.type_dict_update mtr_update (pv 2) (pa_cons (pv 1) pa_nil)))
      (pss_one (ps_ret (pe_mkKW G_Ways_dd (hr.mono (by decide)) (by rfl) (takes_of rfl rfl rfl rfl) (pv 2)))))),
    (ss_seq (ss_asg (se_meth (se_var 0) sa_nil) (sg_nm 2))
      (ss_seq (ss_expr (se_bmD ok_update (se_var 2) (sa_cons (se_var 1) sa_nil)))
      (ss_ret (se_makeKW (se_var 2)))))⟩
theorem sc_Ways___eq__ : FnScope ["self", "other"] ["self", "other"] (defScope s_Ways___eq__) := ⟨rfl, rfl, rfl, by decide +kernel, rfl, by decide +kernel, by decide +kernel⟩
theorem ok_Ways___eq__ (T : TX K w mg) (G_rules : GM P w K mg base "rules" 1 mt_rules) (F : FunD K "__eq__" "Ways.__eq__" (defArgs s_Ways___eq__) (defBody s_Ways___eq__) (defScope s_Ways___eq__) [] [] f fd) : FnG P w K mg base (CX P w) 2 f fd ["self", "other"] (spFn K 2 f_Ways___eq__) := by
  refine FnG.loc (fn_ok F sc_Ways___eq__ (by decide) fun cdv Ar outer s H E xs hr => ?_)
  have hu := hu_of hr.r
  exact ⟨_, (pss_one (ps_ret (pe_and (pe_callB (cl_isi' (K := K)) (by rfl) (b_isinstance T) (by decide +kernel) (pa_cons (pv 1) (pa_cons (pe_glob (v := .ref (He.ga K "Ways")) rfl (g_Ways T) rfl) pa_nil))) (pe_one (pe_cmpR ((op_eqA' (K := K) hr).or (op_eqDG hr)) (pe_dm0 G_rules (pv 0) (hr.mono (by decide)) (takes_of rfl rfl rfl rfl)) (pe_dm0 G_rules (pv 1) (hr.mono (by decide)) (takes_of rfl rfl rfl rfl)) (nomark _)))))),
    (ss_ret (se_andV (se_cb (ok_isi T.isi) (sa_cons (se_var 1) (sa_cons (se_glo _) sa_nil))) (se_op (ok_eqK ok_eq) (se_meth (se_var 0) sa_nil) (se_meth (se_var 1) sa_nil))))⟩
theorem sc__law_take : FnScope ["_law_box_here", "_law_many", "_law_digit", "_law_near"] ["_law_box_here", "_law_many"] (defScope s__law_take) := ⟨rfl, rfl, rfl, by decide +kernel, rfl, by decide +kernel, by decide +kernel⟩
theorem ok__law_take (T : TX K w mg)  (F : FunD K "_law_take" "_law_take" (defArgs s__law_take) (defBody s__law_take) (defScope s__law_take) [] [] f fd) : FnG P w K mg base (CX P w) 1 f fd ["_law_box_here", "_law_many"] (spFn K 2 f__law_take) := by
  refine FnG.loc (fn_ok F sc__law_take (by decide) fun cdv Ar outer s H E xs hr => ?_)
  have hu := hu_of hr.r
  exact ⟨_, (pss_cons (ps_if (pt_cmpR op_gtA (pe_ix (ix_all' (K := K) (w := w) hu) (pv 0) pe_int (fun _ _ => rfl)) pe_int (nomark _)) (pss_cons (ps_set (i := 2) sc__law_take.nd rfl (Or.inl rfl) (pe_op op_modA (pe_callTy cl_int (by rfl) (b_int T) (by decide +kernel) (pa_cons (pe_ix (ix_all' (K := K) (w := w) hu) (pv 0) pe_int (fun _ _ => rfl)) pa_nil)) (pv 1)))
      (pss_cons (ps_asg (pe_op op_fdivA (pe_ix (ix_all' (K := K) (w := w) hu) (pv 0) pe_int (fun _ _ => rfl)) (pv 1)) (pg_sub (pv 0) pe_int set_list))
      (pss_one (ps_ret (pv 2))))) pss_nil)
      (pss_cons (ps_asg (pe_op (op_addA' (K := K)) (pe_ix (ix_all' (K := K) (w := w) hu) (pv 0) pe_int (fun _ _ => rfl)) pe_int) (pg_sub (pv 0) pe_int set_list))
      (pss_cons (ps_set (i := 3) sc__law_take.nd rfl (Or.inl rfl) (pe_op op_modA (pe_callTy cl_int (by rfl) (b_int T) (by decide +kernel) (pa_cons (pe_op op_mulA (pe_op (op_addA' (K := K)) (pe_ix (ix_all' (K := K) (w := w) hu) (pv 0) pe_int (fun _ _ => rfl)) (pe_op op_mulA pe_int (pe_ix (ix_all' (K := K) (w := w) hu) (pv 0) pe_int (fun _ _ => rfl)))) pe_int) pa_nil)) pe_int))
      (pss_cons (ps_asg (pe_op (op_addA' (K := K)) (pe_op op_modA (pe_callTy cl_int (by rfl) (b_int T) (by decide +kernel) (pa_cons (pe_op (op_addA' (K := K)) (pe_op op_mulA (pv 3) pe_int) pe_int) pa_nil)) pe_int) pe_int) (pg_sub (pv 0) pe_int set_list))
      (pss_one (ps_ret (pe_op op_modA (pe_callTy cl_int (by rfl) (b_int T) (by decide +kernel) (pa_cons (pe_op op_fdivA (pe_op (op_addA' (K := K)) (pe_op op_mulA (pv 3) pe_int) (pe_ix (ix_all' (K := K) (w := w) hu) (pv 0) pe_int (fun _ _ => rfl))) pe_int) pa_nil)) (pv 1)))))))),
    (ss_seq (ss_if (st_test (se_op ok_gt (se_op (ok_ix T.tabs) (se_var 0) (se_int _)) (se_int _))) (ss_seq (ss_asg (se_op ok_mod (se_cb ok_int (sa_cons (se_op (ok_ix T.tabs) (se_var 0) (se_int _)) sa_nil)) (se_var 1)) (sg_nm 2))
      (ss_seq (ss_asg (se_op ok_fdiv (se_op (ok_ix T.tabs) (se_var 0) (se_int _)) (se_var 1)) (sg_ix (se_var 0) (se_int _)))
      (ss_ret (se_var 2)))) ss_next)
      (ss_seq (ss_asg (se_op ok_add (se_op (ok_ix T.tabs) (se_var 0) (se_int _)) (se_int _)) (sg_ix (se_var 0) (se_int _)))
      (ss_seq (ss_asg (se_op ok_mod (se_cb ok_int (sa_cons (se_op ok_mul (se_op ok_add (se_op (ok_ix T.tabs) (se_var 0) (se_int _)) (se_op ok_mul (se_int _) (se_op (ok_ix T.tabs) (se_var 0) (se_int _)))) (se_int _)) sa_nil)) (se_int _)) (sg_nm 3))
      (ss_seq (ss_asg (se_op ok_add (se_op ok_mod (se_cb ok_int (sa_cons (se_op ok_add (se_op ok_mul (se_var 3) (se_int _)) (se_int _)) sa_nil)) (se_int _)) (se_int _)) (sg_ix (se_var 0) (se_int _)))
      (ss_ret (se_op ok_mod (se_cb ok_int (sa_cons (se_op ok_fdiv (se_op ok_add (se_op ok_mul (se_var 3) (se_int _)) (se_op (ok_ix T.tabs) (se_var 0) (se_int _))) (se_int _)) sa_nil)) (se_var 1)))))))⟩
theorem sc__law_pick : FnScope ["_law_box_here", "_law_some"] ["_law_box_here", "_law_some"] (defScope s__law_pick) := ⟨rfl, rfl, rfl, by decide +kernel, rfl, by decide +kernel, by decide +kernel⟩
theorem ok__law_pick (T : TX K w mg) (G__law_take : GF P w K mg base "_law_take" 2 [] 1 f__law_take) (F : FunD K "_law_pick" "_law_pick" (defArgs s__law_pick) (defBody s__law_pick) (defScope s__law_pick) [] [] f fd) : FnG P w K mg base (CX P w) 2 f fd ["_law_box_here", "_law_some"] (spFn K 2 f__law_pick) := by
  refine FnG.loc (fn_ok F sc__law_pick (by decide) fun cdv Ar outer s H E xs hr => ?_)
  have hu := hu_of hr.r
  exact ⟨_, (pss_one (ps_ret (pe_ix (ix_all' (K := K) (w := w) hu) (pv 1) (pe_cf G__law_take (hr.mono (by decide)) (by rfl) (takes_of rfl rfl rfl rfl) (pa_cons (pv 0) (pa_cons (pe_callB (cl_len' (K := K)) (by rfl) (b_len T) (by decide +kernel) (pa_cons (pv 1) pa_nil)) pa_nil))) (fun _ _ => rfl)))),
    (ss_ret (se_op (ok_ix T.tabs) (se_var 1) (se_call (sa_cons (se_var 0) (sa_cons (se_cb ok_len (sa_cons (se_var 1) sa_nil)) sa_nil)))))⟩
theorem sc__law_rules : FnScope ["_law_box_here", "_law_found"] ["_law_box_here"] (defScope s__law_rules) := ⟨rfl, rfl, rfl, by decide +kernel, rfl, by decide +kernel, by decide +kernel⟩
theorem ok__law_rules (T : TX K w mg) (G__law_pick : GF P w K mg base "_law_pick" 2 [] 2 f__law_pick) (G__law_take : GF P w K mg base "_law_take" 2 [] 1 f__law_take) (F : FunD K "_law_rules" "_law_rules" (defArgs s__law_rules) (defBody s__law_rules) (defScope s__law_rules) [] [] f fd) : FnG P w K mg base (CX P w) 3 f fd ["_law_box_here"] (spFn K 1 f__law_rules) := by
  refine FnG.loc (fn_ok F sc__law_rules (by decide) fun cdv Ar outer s H E xs hr => ?_)
  have hu := hu_of hr.r
  exact ⟨_, (pss_cons (ps_set (i := 1) sc__law_rules.nd rfl (Or.inl rfl) (pe_disp (pps_cons pe_str (pe_cf G__law_pick (hr.mono (by decide)) (by rfl) (takes_of rfl rfl rfl rfl) (pa_cons (pv 0) (pa_cons (pe_lst (pa_cons pe_str (pa_cons pe_str pa_nil))) pa_nil))) (pps_cons pe_str (pe_cf G__law_pick (hr.mono (by decide)) (by rfl) (takes_of rfl rfl rfl rfl) (pa_cons (pv 0) (pa_cons (pe_lst (pa_cons pe_str (pa_cons pe_str pa_nil))) pa_nil))) pps_nil)) (by rfl) (by rfl) (fun z => by cases z) (by decide)))
      (pss_cons (ps_dput hu (pv 1) pe_str (pe_cf G__law_pick (hr.mono (by decide)) (by rfl) (takes_of rfl rfl rfl rfl) (pa_cons (pv 0) (pa_cons (pe_lst (pa_cons pe_str (pa_cons pe_str pa_nil))) pa_nil))) rfl)
      (pss_cons (ps_dput hu (pv 1) pe_str (pe_cf G__law_pick (hr.mono (by decide)) (by rfl) (takes_of rfl rfl rfl rfl) (pa_cons (pv 0) (pa_cons (pe_lst (pa_cons pe_str (pa_cons pe_str (pa_cons pe_str pa_nil)))) pa_nil))) rfl)
      (pss_cons (ps_dput hu (pv 1) pe_str (pe_cmpR (op_eqA' (K := K) hr) (pe_cf G__law_take (hr.mono (by decide)) (by rfl) (takes_of rfl rfl rfl rfl) (pa_cons (pv 0) (pa_cons pe_int pa_nil))) pe_int (nomark _)) rfl)
      (pss_cons (ps_dput hu (pv 1) pe_str (pe_cf G__law_pick (hr.mono (by decide)) (by rfl) (takes_of rfl rfl rfl rfl) (pa_cons (pv 0) (pa_cons (pe_lst (pa_cons pe_int (pa_cons pe_int (pa_cons pe_int (pa_cons pe_int pa_nil))))) pa_nil))) rfl)
      (pss_cons (ps_dput hu (pv 1) pe_str (pe_cf G__law_pick (hr.mono (by decide)) (by rfl) (takes_of rfl rfl rfl rfl) (pa_cons (pv 0) (pa_cons (pe_lst (pa_cons pe_str (pa_cons pe_str (pa_cons pe_str pa_nil)))) pa_nil))) rfl)
      (pss_one (ps_ret (pv 1))))))))),
    (ss_seq (ss_asg (se_disp ⟨(se_str _), (se_call (sa_cons (se_var 0) (sa_cons (se_lst (sa_cons (se_str _) (sa_cons (se_str _) sa_nil))) sa_nil))), ⟨(se_str _), (se_call (sa_cons (se_var 0) (sa_cons (se_lst (sa_cons (se_str _) (sa_cons (se_str _) sa_nil))) sa_nil))), trivial⟩⟩) (sg_nm 1))
      (ss_seq (ss_dput (se_var 1) (se_str _) (se_call (sa_cons (se_var 0) (sa_cons (se_lst (sa_cons (se_str _) (sa_cons (se_str _) sa_nil))) sa_nil))))
      (ss_seq (ss_dput (se_var 1) (se_str _) (se_call (sa_cons (se_var 0) (sa_cons (se_lst (sa_cons (se_str _) (sa_cons (se_str _) (sa_cons (se_str _) sa_nil)))) sa_nil))))
      (ss_seq (ss_dput (se_var 1) (se_str _) (se_op ok_eq (se_call (sa_cons (se_var 0) (sa_cons (se_int _) sa_nil))) (se_int _)))
      (ss_seq (ss_dput (se_var 1) (se_str _) (se_call (sa_cons (se_var 0) (sa_cons (se_lst (sa_cons (se_int _) (sa_cons (se_int _) (sa_cons (se_int _) (sa_cons (se_int _) sa_nil))))) sa_nil))))
      (ss_seq (ss_dput (se_var 1) (se_str _) (se_call (sa_cons (se_var 0) (sa_cons (se_lst (sa_cons (se_str _) (sa_cons (se_str _) (sa_cons (se_str _) sa_nil)))) sa_nil))))
      (ss_ret (se_var 1))))))))⟩
theorem sc__law_ways : FnScope ["_law_rules_here", "_law_first"] ["_law_rules_here"] (defScope s__law_ways) := ⟨rfl, rfl, rfl, by decide +kernel, rfl, by decide +kernel, by decide +kernel⟩
theorem ok__law_ways (T : TX K w mg) (G_Ways_8 : GK P w K mg base "Ways" 8 [] 3 f_Ways___init__) (F : FunD K "_law_ways" "_law_ways" (defArgs s__law_ways) (defBody s__law_ways) (defScope s__law_ways) [] [] f fd) : FnG P w K mg base (CX P w) 5 f fd ["_law_rules_here"] (spFn K 1 f__law_ways) := by
  refine FnG.loc (fn_ok F sc__law_ways (by decide) fun cdv Ar outer s H E xs hr => ?_)
  have hu := hu_of hr.r
  exact ⟨_, (pss_cons (ps_set (i := 1) sc__law_ways.nd rfl (Or.inl rfl) (pe_lst (pa_cons (pe_ix (ix_all' (K := K) (w := w) hu) (pv 0) pe_str (fun _ _ => rfl)) (pa_cons (pe_ix (ix_all' (K := K) (w := w) hu) (pv 0) pe_str (fun _ _ => rfl)) (pa_cons (pe_ix (ix_all' (K := K) (w := w) hu) (pv 0) pe_str (fun _ _ => rfl)) (pa_cons (pe_ix (ix_all' (K := K) (w := w) hu) (pv 0) pe_str (fun _ _ => rfl)) pa_nil))))))
      (pss_one (ps_ret (pe_mk G_Ways_8 (hr.mono (by decide)) (by rfl) (takes_of rfl rfl rfl rfl) (pa_cons (pe_ix (ix_all' (K := K) (w := w) hu) (pv 1) pe_int (fun _ _ => rfl)) (pa_cons (pe_ix (ix_all' (K := K) (w := w) hu) (pv 1) pe_int (fun _ _ => rfl)) (pa_cons (pe_ix (ix_all' (K := K) (w := w) hu) (pv 1) pe_int (fun _ _ => rfl)) (pa_cons (pe_ix (ix_all' (K := K) (w := w) hu) (pv 1) pe_int (fun _ _ => rfl)) (pa_cons (pe_ix (ix_all' (K := K) (w := w) hu) (pv 0) pe_str (fun _ _ => rfl)) (pa_cons (pe_ix (ix_all' (K := K) (w := w) hu) (pv 0) pe_str (fun _ _ => rfl)) (pa_cons (pe_ix (ix_all' (K := K) (w := w) hu) (pv 0) pe_str (fun _ _ => rfl)) pa_nil))))))))))),
    (ss_seq (ss_asg (se_lst (sa_cons (se_op (ok_ix T.tabs) (se_var 0) (se_str _)) (sa_cons (se_op (ok_ix T.tabs) (se_var 0) (se_str _)) (sa_cons (se_op (ok_ix T.tabs) (se_var 0) (se_str _)) (sa_cons (se_op (ok_ix T.tabs) (se_var 0) (se_str _)) sa_nil))))) (sg_nm 1))
      (ss_ret (se_make (sa_cons (se_op (ok_ix T.tabs) (se_var 1) (se_int _)) (sa_cons (se_op (ok_ix T.tabs) (se_var 1) (se_int _)) (sa_cons (se_op (ok_ix T.tabs) (se_var 1) (se_int _)) (sa_cons (se_op (ok_ix T.tabs) (se_var 1) (se_int _)) (sa_cons (se_op (ok_ix T.tabs) (se_var 0) (se_str _)) (sa_cons (se_op (ok_ix T.tabs) (se_var 0) (se_str _)) (sa_cons (se_op (ok_ix T.tabs) (se_var 0) (se_str _)) sa_nil))))))))))⟩
theorem sc_Ways___str__ : FnScope ["self", "words"] ["self"] (defScope s_Ways___str__) := ⟨rfl, rfl, rfl, by decide +kernel, rfl, by decide +kernel, by decide +kernel⟩
theorem ok_Ways___str__ (T : TX K w mg)  (F : FunD K "__str__" "Ways.__str__" (defArgs s_Ways___str__) (defBody s_Ways___str__) (defScope s_Ways___str__) [] [] f fd) : FnG P w K mg base (CX P w) 1 f fd ["self"] (spFn K 1 f_Ways___str__) := by
  refine FnG.loc (fn_ok F sc_Ways___str__ (by decide) fun cdv Ar outer s H E xs hr => ?_)
  have hu := hu_of hr.r
  exact ⟨_, (pss_cons (ps_set (i := 1) sc_Ways___str__.nd rfl (Or.inl rfl) (pe_lst (pa_cons (pe_fc (K := K) (pv 0) rfl) (pa_cons (pe_fc (K := K) (pv 0) rfl) (pa_cons (pe_fc (K := K) (pv 0) rfl) (pa_cons (pe_fc (K := K) (pv 0) rfl) (pa_cons (pe_ifExp (pt_val (pe_fc (K := K) (pv 0) rfl)) pe_str pe_str) pa_nil)))))))
      (pss_one (ps_ret (pe_bm' (K := K) PySem.F.plainAttrs_str PySem.F.slot_str_join PySem.F.type_str_join (mtr_join' (K := K)) pe_str (pa_cons (pe_lst (StX.pa_star (pv 1) (pa_cons (pe_callTy cl_str (by rfl) (b_str T) (by decide +kernel) (pa_cons (pe_fc (K := K) (pv 0) rfl) pa_nil)) (pa_cons (pe_fc (K := K) (pv 0) rfl) pa_nil)))) pa_nil))))),
    (ss_seq (ss_asg (se_lst (sa_cons (se_fld T.ct (se_var 0)) (sa_cons (se_fld T.ct (se_var 0)) (sa_cons (se_fld T.ct (se_var 0)) (sa_cons (se_fld T.ct (se_var 0)) (sa_cons (se_if (st_B (se_fld T.ct (se_var 0))) (se_str _) (se_str _)) sa_nil)))))) (sg_nm 1))
      (ss_ret (se_bmS ok_join (se_str _) (sa_cons (se_lst (sa_star (se_var 1) (sa_cons (se_cb ok_str (sa_cons (se_fld T.ct (se_var 0)) sa_nil)) (sa_cons (se_fld T.ct (se_var 0)) sa_nil)))) sa_nil))))⟩
theorem sc_law : FnScope ["_law_script", "_law_k", "_law_box_here", "_law_turn", "_law_mine", "_law_theirs", "_law_one", "_law_other", "_law_rule", "_law_near", "_law_some", "_law_spot", "_law_both"] ["_law_script"] (defScope s_law) := ⟨rfl, rfl, rfl, by decide +kernel, rfl, by decide +kernel, by decide +kernel⟩
theorem ok_law (T : TX K w mg) (G__law_box : GF P w K mg base "_law_box" 2 [] 1 f__law_box) (G__law_rules : GF P w K mg base "_law_rules" 1 [] 3 f__law_rules) (G__law_ways : GF P w K mg base "_law_ways" 1 [] 5 f__law_ways) (G_but_kw_case : GMK P w K mg base "but" 5 ["case"] mt_but) (G_but_kw_blanks : GMK P w K mg base "but" 5 ["blanks"] mt_but) (G_but_kw_empty : GMK P w K mg base "but" 5 ["empty"] mt_but) (G_but_kw_lacking : GMK P w K mg base "but" 5 ["lacking"] mt_but) (G_but_kw_last : GMK P w K mg base "but" 5 ["last"] mt_but) (G_but_kw_unit : GMK P w K mg base "but" 5 ["unit"] mt_but) (G_but_kw_halves : GMK P w K mg base "but" 5 ["halves"] mt_but) (GEQ : GE P w K mg base 2 mt___eq__) (NF : NfOk K mt___eq__ nf) (G_but_kw : GMK P w K mg base "but" 5 [] mt_but) (G_but_kw_halves_case_unit : GMK P w K mg base "but" 5 ["halves", "case", "unit"] mt_but) (G_but_kw_blanks_empty_last : GMK P w K mg base "but" 5 ["blanks", "empty", "last"] mt_but) (GST : GS P w K mg base 1 mt___str__) (S_InvalidWays : SupTxt P K mg "InvalidWays" "word" (He.ga K "InvalidWays") (fIof K (He.ga K "InvalidWays"))) (EX_InvalidWays : ∀ k b, tabx_InvalidWays.lookup k = some b → PySem.W.exmOne K (k.v K) (.ref (He.ga K "InvalidWays")) = some b) {fdr : FuncData} (F__law_refusal : FunD K "_law_refusal" "_law_refusal" (defArgs s__law_refusal) (defBody s__law_refusal) (defScope s__law_refusal) [] [] (He.ga K "_law_refusal") fdr) (B__law_refusal : L2.Binds K fdr ["_law_work"] []) (TB : LamX.TabB base mg (codA K "law") (tabA K "law")) (HC : fd.code = .ref (codA K "law")) (G_but_kw_halves_empty : GMK P w K mg base "but" 5 ["halves", "empty"] mt_but) (F : FunD K "law" "law" (defArgs s_law) (defBody s_law) (defScope s_law) [] [] f fd) : FnG P w K mg base (CX P w) 9 f fd ["_law_script"] (spFn K 1 f_law) := by
  refine fn_okL F HC sc_law (by decide) fun cdv Ar outer s H E xs hcd hr => ?_
  have hu := hu_of hr.r
  exact ⟨_, (pss_cons (ps_for (passes_of rfl) rfl (pi_range1 rfl (b_range T) (pa_cons (pe_callB (cl_max rfl) (by rfl) (b_max T) (by decide +kernel) (pa_cons pe_int (pa_cons (pe_callB (cl_min rfl) (by rfl) (b_min T) (by decide +kernel) (pa_cons pe_int (pa_cons (pe_callB (cl_len' (K := K)) (by rfl) (b_len T) (by decide +kernel) (pa_cons (pv 0) pa_nil)) pa_nil))) pa_nil))) pa_nil)) (pg_name (i := 1) sc_law.nd rfl (Or.inl rfl)) (pss_cons (ps_set (i := 2) sc_law.nd rfl (Or.inl rfl) (pe_cf G__law_box (hr.mono (by decide)) (by rfl) (takes_of rfl rfl rfl rfl) (pa_cons (pv 0) (pa_cons (pv 1) pa_nil))))
      (pss_one (ps_for (passes_of rfl) rfl (pi_range1 rfl (b_range T) (pa_cons pe_int pa_nil)) (pg_name (i := 3) sc_law.nd rfl (Or.inl rfl)) (pss_cons (ps_par (i := 4) (j := 5) rfl sc_law.nd rfl rfl (by decide) rfl rfl (pa_cons (pe_cf G__law_rules (hr.mono (by decide)) (by rfl) (takes_of rfl rfl rfl rfl) (pa_cons (pv 2) pa_nil)) (pa_cons (pe_cf G__law_rules (hr.mono (by decide)) (by rfl) (takes_of rfl rfl rfl rfl) (pa_cons (pv 2) pa_nil)) pa_nil)) (by rfl))
      (pss_cons (ps_asg (pe_tup (pa_cons (pe_cf G__law_ways (hr.mono (by decide)) (by rfl) (takes_of rfl rfl rfl rfl) (pa_cons (pv 4) pa_nil)) (pa_cons (pe_cf G__law_ways (hr.mono (by decide)) (by rfl) (takes_of rfl rfl rfl rfl) (pa_cons (pv 5) pa_nil)) pa_nil))) (pg_tup' (K := K) rfl (pgs_cons (pg_name (i := 6) sc_law.nd rfl (Or.inr rfl)) (pgs_cons (pg_name (i := 7) sc_law.nd rfl (Or.inl rfl)) pgs_nil))))
      (pss_cons (ps_for (passes_of rfl) rfl (pi_any (K := K) (pe_tup (pa_cons pe_str (pa_cons pe_str (pa_cons pe_str (pa_cons pe_str (pa_cons pe_str (pa_cons pe_str (pa_cons pe_str pa_nil))))))))) (pg_name (i := 8) sc_law.nd rfl (Or.inl rfl)) (pss_cons (ps_set (i := 9) sc_law.nd rfl (Or.inl rfl) (pe_callTy cl_dict (by rfl) (b_dict T) (by decide +kernel) (pa_cons (pv 4) pa_nil)))
      (pss_cons (ps_dput hu (pv 9) (pv 8) (pe_ix (ix_all' (K := K) (w := w) hu) (pv 5) (pv 8) (fun _ _ => rfl)) rfl)
      (pss_cons (ps_set (i := 10) sc_law.nd rfl (Or.inl rfl) (pe_lst (pa_cons (pe_dmKW G_but_kw_case (pv 6) (hr.mono (by decide)) (takes_of rfl rfl rfl rfl) (pk_cons (pe_ix (ix_all' (K := K) (w := w) hu) (pv 5) pe_str (fun _ _ => rfl)) pk_nil)) (pa_cons (pe_dmKW G_but_kw_blanks (pv 6) (hr.mono (by decide)) (takes_of rfl rfl rfl rfl) (pk_cons (pe_ix (ix_all' (K := K) (w := w) hu) (pv 5) pe_str (fun _ _ => rfl)) pk_nil)) (pa_cons (pe_dmKW G_but_kw_empty (pv 6) (hr.mono (by decide)) (takes_of rfl rfl rfl rfl) (pk_cons (pe_ix (ix_all' (K := K) (w := w) hu) (pv 5) pe_str (fun _ _ => rfl)) pk_nil)) pa_nil)))))
      (pss_cons (ps_set (i := 10) sc_law.nd rfl (Or.inl rfl) (pe_op (op_addA' (K := K)) (pv 10) (pe_lst (pa_cons (pe_dmKW G_but_kw_lacking (pv 6) (hr.mono (by decide)) (takes_of rfl rfl rfl rfl) (pk_cons (pe_ix (ix_all' (K := K) (w := w) hu) (pv 5) pe_str (fun _ _ => rfl)) pk_nil)) (pa_cons (pe_dmKW G_but_kw_last (pv 6) (hr.mono (by decide)) (takes_of rfl rfl rfl rfl) (pk_cons (pe_ix (ix_all' (K := K) (w := w) hu) (pv 5) pe_str (fun _ _ => rfl)) pk_nil)) pa_nil)))))
      (pss_cons (ps_set (i := 10) sc_law.nd rfl (Or.inl rfl) (pe_op (op_addA' (K := K)) (pv 10) (pe_lst (pa_cons (pe_dmKW G_but_kw_unit (pv 6) (hr.mono (by decide)) (takes_of rfl rfl rfl rfl) (pk_cons (pe_ix (ix_all' (K := K) (w := w) hu) (pv 5) pe_str (fun _ _ => rfl)) pk_nil)) (pa_cons (pe_dmKW G_but_kw_halves (pv 6) (hr.mono (by decide)) (takes_of rfl rfl rfl rfl) (pk_cons (pe_ix (ix_all' (K := K) (w := w) hu) (pv 5) pe_str (fun _ _ => rfl)) pk_nil)) pa_nil)))))
      (pss_cons (ps_set (i := 11) sc_law.nd rfl (Or.inl rfl) (pe_bm' (K := K) PySem.F.plainAttrs_list PySem.F.slot_list_index PySem.F.type_list_index (mtr_index' (K := K)) (pe_lst (pa_cons pe_str (pa_cons pe_str (pa_cons pe_str (pa_cons pe_str (pa_cons pe_str (pa_cons pe_str (pa_cons pe_str pa_nil)))))))) (pa_cons (pv 8) pa_nil)))
      (pss_one (ps_if (PW.pt (pw_or (pt_cmpR ((op_neA' (K := K) hr).or (op_ownNe GEQ (hr.mono (by decide)))) (pe_ix (ix_all' (K := K) (w := w) hu) (pv 10) (pv 11) (fun _ _ => rfl)) (pe_cf G__law_ways (hr.mono (by decide)) (by rfl) (takes_of rfl rfl rfl rfl) (pa_cons (pv 9) pa_nil)) (nomark _)) (pw_or1 (pt_cmpR ((op_neA' (K := K) hr).or (op_ownNe GEQ (hr.mono (by decide)))) (pe_cmpR ((op_eqA' (K := K) hr).or (op_ownEq GEQ (hr.mono (by decide)))) (pe_ix (ix_all' (K := K) (w := w) hu) (pv 10) (pv 11) (fun _ _ => rfl)) (pv 6) (nomark _)) (pe_cmpR ((op_eqA' (K := K) hr).or (op_eqDG hr)) (pv 9) (pv 4) (nomark _)) (nomark _))))) (pss_one (ps_ret pe_bl)) pss_nil)))))))))
      (pss_cons (ps_if (PW.pt (pw_or (pt_cmpR ((op_neA' (K := K) hr).or (op_ownNe GEQ (hr.mono (by decide)))) (pe_dmKW G_but_kw (pv 6) (hr.mono (by decide)) (takes_of rfl rfl rfl rfl) pk_nil) (pv 6) (nomark _)) (pw_or (pt_cmpR ((op_neA' (K := K) hr).or (op_ownNe GEQ (hr.mono (by decide)))) (pv 6) (pe_cf G__law_ways (hr.mono (by decide)) (by rfl) (takes_of rfl rfl rfl rfl) (pa_cons (pv 4) pa_nil)) (nomark _)) (pw_or1 (pt_cmpR ((op_neA' (K := K) hr).or (op_ownNe GEQ (hr.mono (by decide)))) (pe_cmpR ((op_eqA' (K := K) hr).or (op_ownEq GEQ (hr.mono (by decide)))) (pv 6) (pv 7) (nomark _)) (pe_cmpR ((op_eqA' (K := K) hr).or (op_eqDG hr)) (pv 4) (pv 5) (nomark _)) (nomark _)))))) (pss_one (ps_ret pe_bl)) pss_nil)
      (pss_cons (ps_set (i := 12) sc_law.nd rfl (Or.inl rfl) (pe_dmKW G_but_kw_halves_case_unit (pv 6) (hr.mono (by decide)) (takes_of rfl rfl rfl rfl) (pk_cons (pe_ix (ix_all' (K := K) (w := w) hu) (pv 5) pe_str (fun _ _ => rfl)) (pk_cons (pe_ix (ix_all' (K := K) (w := w) hu) (pv 5) pe_str (fun _ _ => rfl)) (pk_cons (pe_ix (ix_all' (K := K) (w := w) hu) (pv 5) pe_str (fun _ _ => rfl)) pk_nil)))))
      (pss_cons (ps_set (i := 12) sc_law.nd rfl (Or.inl rfl) (pe_dmKW G_but_kw_blanks_empty_last (pv 12) (hr.mono (by decide)) (takes_of rfl rfl rfl rfl) (pk_cons (pe_ix (ix_all' (K := K) (w := w) hu) (pv 5) pe_str (fun _ _ => rfl)) (pk_cons (pe_ix (ix_all' (K := K) (w := w) hu) (pv 5) pe_str (fun _ _ => rfl)) (pk_cons (pe_ix (ix_all' (K := K) (w := w) hu) (pv 5) pe_str (fun _ _ => rfl)) pk_nil)))))
      (pss_cons (ps_set (i := 12) sc_law.nd rfl (Or.inl rfl) (pe_dmKW G_but_kw_lacking (pv 12) (hr.mono (by decide)) (takes_of rfl rfl rfl rfl) (pk_cons (pe_ix (ix_all' (K := K) (w := w) hu) (pv 5) pe_str (fun _ _ => rfl)) pk_nil)))
      (pss_cons (ps_if (PW.pt (pw_or (pt_cmpR ((op_neA' (K := K) hr).or (op_ownNe GEQ (hr.mono (by decide)))) (pv 12) (pv 7) (nomark _)) (pw_or (pt_not (pt_cmpR ((op_eqA' (K := K) hr).or (op_ownEq GEQ (hr.mono (by decide)))) (pv 12) (pv 7) (nomark _))) (pw_or (pt_cmpR ((op_eqA' (K := K) hr).or (op_ownEq GEQ (hr.mono (by decide)))) (pv 6) (pe_callTy (CallR.or cl_str (cl_ownStr GST (hr.mono (by decide)))) (by rfl) (b_str T) (by decide +kernel) (pa_cons (pv 6) pa_nil)) (nomark _)) (pw_or1 (pt_cmpR ((op_eqA' (K := K) hr).or (op_ownEq GEQ (hr.mono (by decide)))) (pv 6) pe_int (nomark _))))))) (pss_one (ps_ret pe_bl)) pss_nil)
      (pss_cons (ps_if (pt_cmpR ((op_neA' (K := K) hr).or (op_ownNe GEQ (hr.mono (by decide)))) (pe_lamZ (k := 5) (c := codA K "law") (P := tabA K "law") rfl (g__law_refusal T) F__law_refusal B__law_refusal sc__law_refusal rfl (Or.inl rfl) (fun cdv => refu_gives sc__law_refusal S_InvalidWays (g_InvalidWays T)) TB hcd (hr.mono (by decide)).r (LamX.lamS_by (show LamX.lamSB (defScope s_law) _ = true by decide +kernel)) rfl (fun _ _ _ _ _ => rfl) (fun A outer s H E f0 c0 hrl => by have hr : RoomG 5 _ := ⟨hrl, fun z => absurd z (by decide)⟩; have hu := hu_of hr.r; exact (pe_dmKW G_but_kw_unit (pv 6) (hr.mono (by decide)) (takes_of rfl rfl rfl rfl) (pk_cons pe_int pk_nil)))) pe_str (nomark _)) (pss_one (ps_ret pe_bl)) pss_nil)
      (pss_cons (ps_if (pt_cmpR ((op_neA' (K := K) hr).or (op_ownNe GEQ (hr.mono (by decide)))) (pe_lamZ (k := 5) (c := codA K "law") (P := tabA K "law") rfl (g__law_refusal T) F__law_refusal B__law_refusal sc__law_refusal rfl (Or.inl rfl) (fun cdv => refu_gives sc__law_refusal S_InvalidWays (g_InvalidWays T)) TB hcd (hr.mono (by decide)).r (LamX.lamS_by (show LamX.lamSB (defScope s_law) _ = true by decide +kernel)) rfl (fun _ _ _ _ _ => rfl) (fun A outer s H E f0 c0 hrl => by have hr : RoomG 5 _ := ⟨hrl, fun z => absurd z (by decide)⟩; have hu := hu_of hr.r; exact (pe_dmKW G_but_kw_case (pv 6) (hr.mono (by decide)) (takes_of rfl rfl rfl rfl) (pk_cons pe_non pk_nil)))) pe_str (nomark _)) (pss_one (ps_ret pe_bl)) pss_nil)
      (pss_cons (ps_if (pt_cmpR ((op_neA' (K := K) hr).or (op_ownNe GEQ (hr.mono (by decide)))) (pe_lamZ (k := 5) (c := codA K "law") (P := tabA K "law") rfl (g__law_refusal T) F__law_refusal B__law_refusal sc__law_refusal rfl (Or.inl rfl) (fun cdv => refu_gives sc__law_refusal S_InvalidWays (g_InvalidWays T)) TB hcd (hr.mono (by decide)).r (LamX.lamS_by (show LamX.lamSB (defScope s_law) _ = true by decide +kernel)) rfl (fun _ _ _ _ _ => rfl) (fun A outer s H E f0 c0 hrl => by have hr : RoomG 5 _ := ⟨hrl, fun z => absurd z (by decide)⟩; have hu := hu_of hr.r; exact (pe_dmKW G_but_kw_halves_empty (pv 6) (hr.mono (by decide)) (takes_of rfl rfl rfl rfl) (pk_cons pe_str (pk_cons pe_str pk_nil))))) pe_str (nomark _)) (pss_one (ps_ret pe_bl)) pss_nil)
      (pss_one (ps_if (pt_cmpR ((op_neA' (K := K) hr).or (op_ownNe GEQ (hr.mono (by decide)))) (pe_lamZ (k := 5) (c := codA K "law") (P := tabA K "law") rfl (g__law_refusal T) F__law_refusal B__law_refusal sc__law_refusal rfl (Or.inl rfl) (fun cdv => refu_gives sc__law_refusal S_InvalidWays (g_InvalidWays T)) TB hcd (hr.mono (by decide)).r (LamX.lamS_by (show LamX.lamSB (defScope s_law) _ = true by decide +kernel)) rfl (fun _ _ _ _ _ => rfl) (fun A outer s H E f0 c0 hrl => by have hr : RoomG 5 _ := ⟨hrl, fun z => absurd z (by decide)⟩; have hu := hu_of hr.r; exact (pe_dmKW G_but_kw_last (pv 6) (hr.mono (by decide)) (takes_of rfl rfl rfl rfl) (pk_cons pe_int pk_nil)))) pe_str (nomark _)) (pss_one (ps_ret pe_bl)) pss_nil)))))))))))))))))
      (pss_one (ps_ret pe_bl))),
    (ss_seq (ss_forC (si_rg1 (sa_cons (se_cb ok_max (sa_cons (se_int _) (sa_cons (se_cb ok_min (sa_cons (se_int _) (sa_cons (se_cb ok_len (sa_cons (se_var 0) sa_nil)) sa_nil))) sa_nil))) sa_nil)) (sg_nm 1) (ss_seq (ss_asg (se_call (sa_cons (se_var 0) (sa_cons (se_var 1) sa_nil))) (sg_nm 2))
      (ss_forC (si_rg1 (sa_cons (se_int _) sa_nil)) (sg_nm 3) (ss_seq (ss_par (sa_cons (se_call (sa_cons (se_var 2) sa_nil)) (sa_cons (se_call (sa_cons (se_var 2) sa_nil)) sa_nil)))
      (ss_seq (ss_asg (se_tup (sa_cons (se_call (sa_cons (se_var 4) sa_nil)) (sa_cons (se_call (sa_cons (se_var 5) sa_nil)) sa_nil))) (sg_tp (sgs_cons (sg_nm 6) (sgs_cons (sg_nm 7) sgs_nil))))
      (ss_seq (ss_forC (si_it (se_tup (sa_cons (se_str _) (sa_cons (se_str _) (sa_cons (se_str _) (sa_cons (se_str _) (sa_cons (se_str _) (sa_cons (se_str _) (sa_cons (se_str _) sa_nil))))))))) (sg_nm 8) (ss_seq (ss_asg (se_cb ok_dict (sa_cons (se_var 4) sa_nil)) (sg_nm 9))
      (ss_seq (ss_dput (se_var 9) (se_var 8) (se_op (ok_ix T.tabs) (se_var 5) (se_var 8)))
      (ss_seq (ss_asg (se_lst (sa_cons (se_methKW (se_var 6) (sa_cons (se_op (ok_ix T.tabs) (se_var 5) (se_str _)) sa_nil)) (sa_cons (se_methKW (se_var 6) (sa_cons (se_op (ok_ix T.tabs) (se_var 5) (se_str _)) sa_nil)) (sa_cons (se_methKW (se_var 6) (sa_cons (se_op (ok_ix T.tabs) (se_var 5) (se_str _)) sa_nil)) sa_nil)))) (sg_nm 10))
      (ss_seq (ss_asg (se_op ok_add (se_var 10) (se_lst (sa_cons (se_methKW (se_var 6) (sa_cons (se_op (ok_ix T.tabs) (se_var 5) (se_str _)) sa_nil)) (sa_cons (se_methKW (se_var 6) (sa_cons (se_op (ok_ix T.tabs) (se_var 5) (se_str _)) sa_nil)) sa_nil)))) (sg_nm 10))
      (ss_seq (ss_asg (se_op ok_add (se_var 10) (se_lst (sa_cons (se_methKW (se_var 6) (sa_cons (se_op (ok_ix T.tabs) (se_var 5) (se_str _)) sa_nil)) (sa_cons (se_methKW (se_var 6) (sa_cons (se_op (ok_ix T.tabs) (se_var 5) (se_str _)) sa_nil)) sa_nil)))) (sg_nm 10))
      (ss_seq (ss_asg (se_bmL ok_index (se_lst (sa_cons (se_str _) (sa_cons (se_str _) (sa_cons (se_str _) (sa_cons (se_str _) (sa_cons (se_str _) (sa_cons (se_str _) (sa_cons (se_str _) sa_nil)))))))) (sa_cons (se_var 8) sa_nil)) (sg_nm 11))
      (ss_if (st_or (st_test (se_op (ok_eqX T.isi NF ok_ne) (se_op (ok_ix T.tabs) (se_var 10) (se_var 11)) (se_call (sa_cons (se_var 9) sa_nil)))) (st_test (se_op (ok_eqX T.isi NF ok_ne) (se_op (ok_eqX T.isi NF ok_eq) (se_op (ok_ix T.tabs) (se_var 10) (se_var 11)) (se_var 6)) (se_op (ok_eqK ok_eq) (se_var 9) (se_var 4))))) (ss_ret (se_bl _)) ss_next))))))))
      (ss_seq (ss_if (st_or (st_test (se_op (ok_eqX T.isi NF ok_ne) (se_methKW (se_var 6) sa_nil) (se_var 6))) (st_or (st_test (se_op (ok_eqX T.isi NF ok_ne) (se_var 6) (se_call (sa_cons (se_var 4) sa_nil)))) (st_test (se_op (ok_eqX T.isi NF ok_ne) (se_op (ok_eqX T.isi NF ok_eq) (se_var 6) (se_var 7)) (se_op (ok_eqK ok_eq) (se_var 4) (se_var 5)))))) (ss_ret (se_bl _)) ss_next)
      (ss_seq (ss_asg (se_methKW (se_var 6) (sa_cons (se_op (ok_ix T.tabs) (se_var 5) (se_str _)) (sa_cons (se_op (ok_ix T.tabs) (se_var 5) (se_str _)) (sa_cons (se_op (ok_ix T.tabs) (se_var 5) (se_str _)) sa_nil)))) (sg_nm 12))
      (ss_seq (ss_asg (se_methKW (se_var 12) (sa_cons (se_op (ok_ix T.tabs) (se_var 5) (se_str _)) (sa_cons (se_op (ok_ix T.tabs) (se_var 5) (se_str _)) (sa_cons (se_op (ok_ix T.tabs) (se_var 5) (se_str _)) sa_nil)))) (sg_nm 12))
      (ss_seq (ss_asg (se_methKW (se_var 12) (sa_cons (se_op (ok_ix T.tabs) (se_var 5) (se_str _)) sa_nil)) (sg_nm 12))
      (ss_seq (ss_if (st_or (st_test (se_op (ok_eqX T.isi NF ok_ne) (se_var 12) (se_var 7))) (st_or (st_not (st_test (se_op (ok_eqX T.isi NF ok_eq) (se_var 12) (se_var 7)))) (st_or (st_test (se_op (ok_eqX T.isi NF ok_eq) (se_var 6) (se_cb ok_strX (sa_cons (se_var 6) sa_nil)))) (st_test (se_op (ok_eqX T.isi NF ok_eq) (se_var 6) (se_int _)))))) (ss_ret (se_bl _)) ss_next)
      (ss_seq (ss_if (st_test (se_op (ok_eqX T.isi NF ok_ne) (se_refu (fun E' => by exact (se_methKW (se_var 6) (sa_cons (se_int _) sa_nil))) EX_InvalidWays) (se_str _))) (ss_ret (se_bl _)) ss_next)
      (ss_seq (ss_if (st_test (se_op (ok_eqX T.isi NF ok_ne) (se_refu (fun E' => by exact (se_methKW (se_var 6) (sa_cons se_non sa_nil))) EX_InvalidWays) (se_str _))) (ss_ret (se_bl _)) ss_next)
      (ss_seq (ss_if (st_test (se_op (ok_eqX T.isi NF ok_ne) (se_refu (fun E' => by exact (se_methKW (se_var 6) (sa_cons (se_str _) (sa_cons (se_str _) sa_nil)))) EX_InvalidWays) (se_str _))) (ss_ret (se_bl _)) ss_next)
      (ss_if (st_test (se_op (ok_eqX T.isi NF ok_ne) (se_refu (fun E' => by exact (se_methKW (se_var 6) (sa_cons (se_int _) sa_nil))) EX_InvalidWays) (se_str _))) (ss_ret (se_bl _)) ss_next)))))))))))))))
      (ss_ret (se_bl _)))⟩
end
/-! ### the head -/
theorem fld_word : FldOk "word" := ⟨rfl, rfl, rfl, by decide +kernel, by decide +kernel, fun _ _ _ _ _ _ _ _ _ _ _ _ _ => rfl⟩
theorem tx_of {w : World} {K : PySem.W.Frag} {h : Heap} {mg : Str → Option Value} (X : K.In h) (G : h.Ns mainGlobals mg) (c : He.SaysX fa fn ts [] exB w h K) : TX K w mg := by
  refine txB_ok X G (and2 c.more).1 fun x kvs hx => ?_
  simp only [tabs, List.mem_cons, List.not_mem_nil, or_false, Prod.mk.injEq] at hx
  rcases hx with ⟨rfl, rfl⟩
  · exact c.t.tab 0
theorem facts {P : Program} {w : World} {K : PySem.W.Frag} {h : Heap} {mg : Str → Option Value} {f : Addr} (X : K.In h) (G : h.Ns mainGlobals mg) (hfa : mg ("law" : Str) = some (.ref f)) (c : He.SaysX fa fn ts [] exB w h K) (hP : P.main.file = PySem.Challenge.pw_sentparts_k07_ways_but_other_rules.main.file) (hT : (P.main.scope.names.lookup ("super" : Str)).isSome = false) :
    ∃ fd : FuncData, (∀ (s : Shared) (v : Value), BindsTo s fd ⟨[v], []⟩ [("_law_script", v)]) ∧ (∃ oc od osl, K.lookup f = some ⟨oc, od, .func fd, osl⟩) ∧ fd.code = .ref (codA K "law") ∧ tabB1 K "law" = true ∧ ∀ base : Heap, K.In base → base.Ns mainGlobals mg → LamX.TabB base mg (codA K "law") (tabA K "law") → FnG P w K mg base (CX P w) 9 f fd ["_law_script"] (spFn K 1 f_law) := by
  have T := tx_of X G c
  have cd := c.t.d
  have gl : ∀ x, He.Fa.glo x ∈ fa → mg x = some (.ref (He.ga K x)) := fun x hx => He.glo_ok X G (cd.facts hx)
  obtain ⟨fd0, F0⟩ := cd.def_ 0
  obtain ⟨fd1, F1⟩ := cd.def_ 1
  obtain ⟨fd2, F2⟩ := cd.def_ 2
  obtain ⟨fd3, F3⟩ := cd.def_ 3
  obtain ⟨fd4, F4⟩ := cd.def_ 4
  obtain ⟨fd5, F5⟩ := cd.def_ 5
  obtain ⟨fd6, F6⟩ := cd.def_ 6
  obtain ⟨fd7, F7⟩ := cd.def_ 7
  obtain ⟨fd8, F8⟩ := cd.def_ 8
  obtain ⟨fd9, F9⟩ := cd.def_ 9
  obtain ⟨fd10, F10⟩ := cd.def_ 10
  obtain ⟨fd11, F11⟩ := cd.def_ 11
  obtain ⟨fd12, F12⟩ := cd.def_ 12
  have xb := (and2 c.more).2
  have xb0 := (and2 xb).1
  have xb := (and2 xb).2
  have xb1 := (and2 xb).1
  have xb := (and2 xb).2
  have xb2 := (and2 xb).1
  have xb := (and2 xb).2
  have xb3 := (and2 xb).1
  have xb := (and2 xb).2
  have xb4 := xb
  have S_InvalidWays : SupTxt P K mg "InvalidWays" "word" (He.ga K "InvalidWays") (fIof K (He.ga K "InvalidWays")) := supB_ok fld_word (gl "InvalidWays" (by simp [fa])) (b_super T) hT (by rw [hP]; exact xb0)
  have EX_InvalidWays := exmB_ok xb1
  have NF : NfOk K mt___eq__ nf := nfB_ok (fun C nF hl => (by have hm := look_mem hl; simp only [mt___eq__, List.mem_cons, List.not_mem_nil, or_false, Prod.mk.injEq] at hm; rcases hm with ⟨rfl, _⟩ <;> simp)) xb2
  have ne_Ways := neB_ok xb3
  have xbT_law := xb4
  have e := hfa.symm.trans (gl "law" (by simp [fa]))
  cases e
  have b := FunD.bindsA (ps := ["_law_script"]) F12 fun _ _ _ _ _ _ us hl => match us, hl with | [_], _ => rfl
  have HC : fd12.code = .ref (codA K "law") := codA_of F12
  have LK : ∃ oc od osl, K.lookup (He.ga K "law") = some ⟨oc, od, .func fd12, osl⟩ := let ⟨oc, od, _, _, _, _, _, _, _, osl, _, lk, _⟩ := F12.ex; ⟨oc, od, osl, lk⟩
  refine ⟨fd12, fun s v => b s [v] rfl, LK, HC, xbT_law, fun base _ _ TB => ?_⟩
  obtain ⟨fd__law_refusal, F__law_refusal⟩ := cd.def_ 13
  have B__law_refusal : L2.Binds K fd__law_refusal ["_law_work"] [] := F__law_refusal.bindsN fun _ _ _ _ _ _ us hl => match us, hl with | [_], _ => rfl
  have G_is_integer : GF P w K mg base "is_integer" 1 [] 1 f_is_integer := ⟨_, fd2, _, [], [], ok_is_integer T  F2, gl _ (by simp [fa]), F2.kp, (F2.bindsN fun _ _ _ _ _ _ us hl => match us, hl with | [_], _ => rfl), .nil, fun _ => rfl⟩
  have G_rules : GM P w K mg base "rules" 1 mt_rules := by
    refine ⟨fun C n F hl => ?_⟩
    have hm := look_mem hl
    simp only [mt_rules, List.mem_cons, List.not_mem_nil, or_false, Prod.mk.injEq] at hm
    rcases hm with ⟨rfl, rfl, rfl⟩
    · exact ⟨_, fd1, _, T.ct.cls "Ways" _ (by rfl), He.meth_ok (cd.facts (f := .meth "Ways" "rules") (by simp [fa])), (ok_Ways_rules T  F1).mono (by decide), F1.bindsN fun _ _ _ _ _ _ us hl => match us, hl with | [_], _ => rfl⟩
  have G_is_rule : GF P w K mg base "is_rule" 2 [] 2 f_is_rule := ⟨_, fd3, _, [], [], ok_is_rule T G_is_integer F3, gl _ (by simp [fa]), F3.kp, (F3.bindsN fun _ _ _ _ _ _ us hl => match us, hl with | [_, _], _ => rfl), .nil, fun _ => rfl⟩
  obtain ⟨its_Ways_dd, kb_Ways_dd⟩ := FunD.kbindsD (ps := ["self", "case", "blanks", "empty", "lacking", "last", "unit", "halves"]) F4 1 ["case", "blanks", "empty", "lacking", "last", "unit", "halves"] (fun us _ ws => us ++ ws) (by intro z; cases z) (fun r1 _ r3 => r1.append r3) fun _ _ _ _ _ _ _ us its ws h1 h2 h3 => match us, its, ws, h1, h2, h3 with | [_], [_, _, _, _, _, _, _], [_, _, _, _, _, _, _], _, _, _ => ⟨_, rfl, rfl⟩
  have G_Ways_dd : GKK P w K mg base "Ways" 8 ["case", "blanks", "empty", "lacking", "last", "unit", "halves"] 3 f_Ways___init__ := ⟨_, fd4, _, _, ok_Ways___init__ T G_rules G_is_rule S_InvalidWays F4, He.mkr_ok (cd.facts (f := .mkr "Ways") (by simp [fa])), gl _ (by simp [fa]), kb_Ways_dd⟩
  have G__law_take : GF P w K mg base "_law_take" 2 [] 1 f__law_take := ⟨_, fd7, _, [], [], ok__law_take T  F7, gl _ (by simp [fa]), F7.kp, (F7.bindsN fun _ _ _ _ _ _ us hl => match us, hl with | [_, _], _ => rfl), .nil, fun _ => rfl⟩
  have G__law_pick : GF P w K mg base "_law_pick" 2 [] 2 f__law_pick := ⟨_, fd8, _, [], [], ok__law_pick T G__law_take F8, gl _ (by simp [fa]), F8.kp, (F8.bindsN fun _ _ _ _ _ _ us hl => match us, hl with | [_, _], _ => rfl), .nil, fun _ => rfl⟩
  obtain ⟨ds_Ways_8, vs_Ways_8, b_Ways_8⟩ := FunD.binds1 (ps := ["self", "case", "blanks", "empty", "lacking", "last", "unit", "halves"]) F4 8 7 (by intro z; cases z) rfl fun _ _ _ _ _ _ _ us its h1 h2 => match us, its, h1, h2 with | [_, _, _, _, _, _, _, _], [_, _, _, _, _, _, _], _, _ => ⟨_, rfl, rfl⟩
  have G_Ways_8 : GK P w K mg base "Ways" 8 [] 3 f_Ways___init__ := ⟨_, fd4, _, ds_Ways_8, _, (ok_Ways___init__ T G_rules G_is_rule S_InvalidWays F4), He.mkr_ok (cd.facts (f := .mkr "Ways") (by simp [fa])), gl _ (by simp [fa]), b_Ways_8, vs_Ways_8, fun _ => rfl⟩
  have G__law_box : GF P w K mg base "_law_box" 2 [] 1 f__law_box := ⟨_, fd0, _, [], [], ok__law_box T  F0, gl _ (by simp [fa]), F0.kp, (F0.bindsN fun _ _ _ _ _ _ us hl => match us, hl with | [_, _], _ => rfl), .nil, fun _ => rfl⟩
  have G__law_rules : GF P w K mg base "_law_rules" 1 [] 3 f__law_rules := ⟨_, fd9, _, [], [], ok__law_rules T G__law_pick G__law_take F9, gl _ (by simp [fa]), F9.kp, (F9.bindsN fun _ _ _ _ _ _ us hl => match us, hl with | [_], _ => rfl), .nil, fun _ => rfl⟩
  have G__law_ways : GF P w K mg base "_law_ways" 1 [] 5 f__law_ways := ⟨_, fd10, _, [], [], ok__law_ways T G_Ways_8 F10, gl _ (by simp [fa]), F10.kp, (F10.bindsN fun _ _ _ _ _ _ us hl => match us, hl with | [_], _ => rfl), .nil, fun _ => rfl⟩
  have G_but_kw_case : GMK P w K mg base "but" 5 ["case"] mt_but := by
    refine ⟨fun C n F hl => ?_⟩
    have hm := look_mem hl
    simp only [mt_but, List.mem_cons, List.not_mem_nil, or_false, Prod.mk.injEq] at hm
    rcases hm with ⟨rfl, rfl, rfl⟩
    · exact ⟨_, T.ct.cls "Ways" _ (by rfl), He.meth_ok (cd.facts (f := .meth "Ways" "but") (by simp [fa])), ok_Ways_but T G_rules G_Ways_dd F5 (by decide) fun _ _ _ _ _ _ us ws h1 h2 => match us, ws, h1, h2 with | [_], [_], _, _ => rfl⟩
  have G_but_kw_blanks : GMK P w K mg base "but" 5 ["blanks"] mt_but := by
    refine ⟨fun C n F hl => ?_⟩
    have hm := look_mem hl
    simp only [mt_but, List.mem_cons, List.not_mem_nil, or_false, Prod.mk.injEq] at hm
    rcases hm with ⟨rfl, rfl, rfl⟩
    · exact ⟨_, T.ct.cls "Ways" _ (by rfl), He.meth_ok (cd.facts (f := .meth "Ways" "but") (by simp [fa])), ok_Ways_but T G_rules G_Ways_dd F5 (by decide) fun _ _ _ _ _ _ us ws h1 h2 => match us, ws, h1, h2 with | [_], [_], _, _ => rfl⟩
  have G_but_kw_empty : GMK P w K mg base "but" 5 ["empty"] mt_but := by
    refine ⟨fun C n F hl => ?_⟩
    have hm := look_mem hl
    simp only [mt_but, List.mem_cons, List.not_mem_nil, or_false, Prod.mk.injEq] at hm
    rcases hm with ⟨rfl, rfl, rfl⟩
    · exact ⟨_, T.ct.cls "Ways" _ (by rfl), He.meth_ok (cd.facts (f := .meth "Ways" "but") (by simp [fa])), ok_Ways_but T G_rules G_Ways_dd F5 (by decide) fun _ _ _ _ _ _ us ws h1 h2 => match us, ws, h1, h2 with | [_], [_], _, _ => rfl⟩
  have G_but_kw_lacking : GMK P w K mg base "but" 5 ["lacking"] mt_but := by
    refine ⟨fun C n F hl => ?_⟩
    have hm := look_mem hl
    simp only [mt_but, List.mem_cons, List.not_mem_nil, or_false, Prod.mk.injEq] at hm
    rcases hm with ⟨rfl, rfl, rfl⟩
    · exact ⟨_, T.ct.cls "Ways" _ (by rfl), He.meth_ok (cd.facts (f := .meth "Ways" "but") (by simp [fa])), ok_Ways_but T G_rules G_Ways_dd F5 (by decide) fun _ _ _ _ _ _ us ws h1 h2 => match us, ws, h1, h2 with | [_], [_], _, _ => rfl⟩
  have G_but_kw_last : GMK P w K mg base "but" 5 ["last"] mt_but := by
    refine ⟨fun C n F hl => ?_⟩
    have hm := look_mem hl
    simp only [mt_but, List.mem_cons, List.not_mem_nil, or_false, Prod.mk.injEq] at hm
    rcases hm with ⟨rfl, rfl, rfl⟩
    · exact ⟨_, T.ct.cls "Ways" _ (by rfl), He.meth_ok (cd.facts (f := .meth "Ways" "but") (by simp [fa])), ok_Ways_but T G_rules G_Ways_dd F5 (by decide) fun _ _ _ _ _ _ us ws h1 h2 => match us, ws, h1, h2 with | [_], [_], _, _ => rfl⟩
  have G_but_kw_unit : GMK P w K mg base "but" 5 ["unit"] mt_but := by
    refine ⟨fun C n F hl => ?_⟩
    have hm := look_mem hl
    simp only [mt_but, List.mem_cons, List.not_mem_nil, or_false, Prod.mk.injEq] at hm
    rcases hm with ⟨rfl, rfl, rfl⟩
    · exact ⟨_, T.ct.cls "Ways" _ (by rfl), He.meth_ok (cd.facts (f := .meth "Ways" "but") (by simp [fa])), ok_Ways_but T G_rules G_Ways_dd F5 (by decide) fun _ _ _ _ _ _ us ws h1 h2 => match us, ws, h1, h2 with | [_], [_], _, _ => rfl⟩
  have G_but_kw_halves : GMK P w K mg base "but" 5 ["halves"] mt_but := by
    refine ⟨fun C n F hl => ?_⟩
    have hm := look_mem hl
    simp only [mt_but, List.mem_cons, List.not_mem_nil, or_false, Prod.mk.injEq] at hm
    rcases hm with ⟨rfl, rfl, rfl⟩
    · exact ⟨_, T.ct.cls "Ways" _ (by rfl), He.meth_ok (cd.facts (f := .meth "Ways" "but") (by simp [fa])), ok_Ways_but T G_rules G_Ways_dd F5 (by decide) fun _ _ _ _ _ _ us ws h1 h2 => match us, ws, h1, h2 with | [_], [_], _, _ => rfl⟩
  have GEQ : GE P w K mg base 2 mt___eq__ := by
    refine ⟨fun C n F hl => ?_⟩
    have hm := look_mem hl
    simp only [mt___eq__, List.mem_cons, List.not_mem_nil, or_false, Prod.mk.injEq] at hm
    rcases hm with ⟨rfl, rfl, rfl⟩
    · exact ⟨_, fd6, _, He.meth_ok (cd.facts (f := .meth "Ways" "__eq__") (by simp [fa])), ne_Ways.1, ne_Ways.2, (ok_Ways___eq__ T G_rules F6).mono (by decide), F6.bindsN fun _ _ _ _ _ _ us hl => match us, hl with | [_, _], _ => rfl⟩
  have G_but_kw : GMK P w K mg base "but" 5 [] mt_but := by
    refine ⟨fun C n F hl => ?_⟩
    have hm := look_mem hl
    simp only [mt_but, List.mem_cons, List.not_mem_nil, or_false, Prod.mk.injEq] at hm
    rcases hm with ⟨rfl, rfl, rfl⟩
    · exact ⟨_, T.ct.cls "Ways" _ (by rfl), He.meth_ok (cd.facts (f := .meth "Ways" "but") (by simp [fa])), ok_Ways_but T G_rules G_Ways_dd F5 (by decide) fun _ _ _ _ _ _ us ws h1 h2 => match us, ws, h1, h2 with | [_], [], _, _ => rfl⟩
  have G_but_kw_halves_case_unit : GMK P w K mg base "but" 5 ["halves", "case", "unit"] mt_but := by
    refine ⟨fun C n F hl => ?_⟩
    have hm := look_mem hl
    simp only [mt_but, List.mem_cons, List.not_mem_nil, or_false, Prod.mk.injEq] at hm
    rcases hm with ⟨rfl, rfl, rfl⟩
    · exact ⟨_, T.ct.cls "Ways" _ (by rfl), He.meth_ok (cd.facts (f := .meth "Ways" "but") (by simp [fa])), ok_Ways_but T G_rules G_Ways_dd F5 (by decide) fun _ _ _ _ _ _ us ws h1 h2 => match us, ws, h1, h2 with | [_], [_, _, _], _, _ => rfl⟩
  have G_but_kw_blanks_empty_last : GMK P w K mg base "but" 5 ["blanks", "empty", "last"] mt_but := by
    refine ⟨fun C n F hl => ?_⟩
    have hm := look_mem hl
    simp only [mt_but, List.mem_cons, List.not_mem_nil, or_false, Prod.mk.injEq] at hm
    rcases hm with ⟨rfl, rfl, rfl⟩
    · exact ⟨_, T.ct.cls "Ways" _ (by rfl), He.meth_ok (cd.facts (f := .meth "Ways" "but") (by simp [fa])), ok_Ways_but T G_rules G_Ways_dd F5 (by decide) fun _ _ _ _ _ _ us ws h1 h2 => match us, ws, h1, h2 with | [_], [_, _, _], _, _ => rfl⟩
  have GST : GS P w K mg base 1 mt___str__ := by
    refine ⟨fun C n F hl => ?_⟩
    have hm := look_mem hl
    simp only [mt___str__, List.mem_cons, List.not_mem_nil, or_false, Prod.mk.injEq] at hm
    rcases hm with ⟨rfl, rfl, rfl⟩
    · exact ⟨_, fd11, _, He.meth_ok (cd.facts (f := .meth "Ways" "__str__") (by simp [fa])), (ok_Ways___str__ T  F11).mono (by decide), F11.bindsN fun _ _ _ _ _ _ us hl => match us, hl with | [_], _ => rfl⟩
  have G_but_kw_halves_empty : GMK P w K mg base "but" 5 ["halves", "empty"] mt_but := by
    refine ⟨fun C n F hl => ?_⟩
    have hm := look_mem hl
    simp only [mt_but, List.mem_cons, List.not_mem_nil, or_false, Prod.mk.injEq] at hm
    rcases hm with ⟨rfl, rfl, rfl⟩
    · exact ⟨_, T.ct.cls "Ways" _ (by rfl), He.meth_ok (cd.facts (f := .meth "Ways" "but") (by simp [fa])), ok_Ways_but T G_rules G_Ways_dd F5 (by decide) fun _ _ _ _ _ _ us ws h1 h2 => match us, ws, h1, h2 with | [_], [_, _], _, _ => rfl⟩
  exact ok_law T G__law_box G__law_rules G__law_ways G_but_kw_case G_but_kw_blanks G_but_kw_empty G_but_kw_lacking G_but_kw_last G_but_kw_unit G_but_kw_halves GEQ NF G_but_kw G_but_kw_halves_case_unit G_but_kw_blanks_empty_last GST S_InvalidWays EX_InvalidWays F__law_refusal B__law_refusal TB HC G_but_kw_halves_empty F12
end K07
open PySem PySem.W PySem.Calls PyProof.Rows
theorem PySem.Challenge.cw_sentparts_k07_ways_but_other_rules_holds : PySem.Challenge.rw_sentparts_k07_ways_but_other_rules.Holds := by
  w_on; o_law
  refine HandSHeadRun.head_any (r := OpenLaw.row PySem.Challenge.rw_sentparts_k07_ways_but_other_rules) (q := view (OpenLaw.row PySem.Challenge.rw_sentparts_k07_ways_but_other_rules).prog [19]) (H := K07.hk) (ob := K07.ob) (M := 6000) (loose := K07.others) (d := HandSHeadRun.topDef (OpenLaw.row PySem.Challenge.rw_sentparts_k07_ways_but_other_rules).prog 19) (kwd := []) K07.ob_eq
    (by kernel_rfl) (fun s => by kernel_rfl) K07.run (by kernel_rfl) (by kernel_rfl) (by kernel_rfl) (by rfl) (by first | assumption | decide +kernel) (by decide +kernel) ⟨rfl, rfl, rfl, rfl, rfl, by decide +kernel⟩ ?hw ?hc
  case hw => w_witness2
  case hc =>
    refine Fx.walk_ofWT (y := "law") (l := PySem.Challenge.rw_sentparts_k07_ways_but_other_rules) (n := 63) (k := 9) (x := "_law_script") rfl (by decide) (by kernel_rfl) ⟨rfl, by decide, by decide⟩ (by decide) (by kernel_rfl) ?F
    intro w mg fa h Y G hmg0
    obtain ⟨K, KX, c⟩ := Y
    have hmg : mg ("law" : PySem.Str) = some (.ref fa) := by
      have e : (HandSHeadRun.topDef (OpenLaw.row PySem.Challenge.rw_sentparts_k07_ways_but_other_rules).prog 19).name = ("law" : PySem.Str) := by kernel_rfl
      rw [← e]
      exact hmg0
    obtain ⟨fd, hb, LK, HC, XT, hF⟩ := K07.facts (P := (PySem.Challenge.rw_sentparts_k07_ways_but_other_rules).prog) (w := w) KX G hmg c rfl (by decide +kernel)
    exact ⟨K, fd, Fx.spFn K 1 K07.f_law, KX, LK, HC, XT, hb, fun H a ns hl hT hS => let ⟨ce, h⟩ := K07.law_true ns hl; Fx.sp_startT (ts := [(Fx.tabA K "law", "law")]) (fun p hp => by rw [List.mem_singleton.mp hp]) (fun p hp => by rw [List.mem_singleton.mp hp]; exact hT) (by simp) hS h, hF⟩
