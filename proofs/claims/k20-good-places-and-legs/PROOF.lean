import PyProof.Rows.All
import Wide.All
import OpenK.AllK
import Wide.FinOn
import HandS.ForMost
import HandS.ForExc
import HandS.HeadHook1
import HandS.HeadHook2
import HandS.Wide
import HandS.Property
import HandS.IsInst
import HandS.HeadNt
import HandS.ExcIs
import HandS.IterVal
import HandS.Style
import HandS.SortKw
import HandS.Flt
import HandS.AnyAll
import KE.DatumOrd
import HandS.HeadEnd
import HandS.OwnEq
import HandS.ExcField
import HandS.Deep
import HandS.Iter
import HandS.Text
import PyProof.StrOps2
import KE.GoesEnum
import PyProof.ListIndex
import PyProof.ListIndexNeg
import KE.KOwnIter
import HandS.Head0
import HandS.Head1
import HandS.Head2
import HandS.Words
import PySem.Challenge.RW_damphouse_k20_good_places_and_legs
set_option Elab.async false
set_option linter.all false
set_option maxRecDepth 100000
set_option maxHeartbeats 4000000
/-! Pl0: plain data, what stands for it in the heap, environments of shared and owned slots. -/
namespace PL
open PySem L2

/-- plain data -/
inductive D where
  | non | bl (b : Bool) | int (i : Int) | str (x : Str)
  | lst (xs : List D) | tup (xs : List D)
  | ins (c : Str) (ns : List Str) (xs : List D)
  | dic (ks : List Key) (xs : List D)
  | obj (x : Str)
  | scr (ns : List Int)

mutual
/-- v stands for the datum in H -/
def Rep (K : PySem.W.Frag) (H : Hp) : D → V → Prop
  | .non, v => v = .non
  | .bl b, v => v = .bl b
  | .int i, v => v = .int i
  | .str x, v => v = .str x
  | .lst ds, v => ∃ a vs, v = .ref a ∧ H a = some (.lst vs) ∧ RepL K H ds vs
  | .tup ds, v => ∃ a vs, v = .ref a ∧ SqT K H a vs ∧ RepL K H ds vs
  | .ins c ns ds, v => ∃ a dx vs, v = .ref a ∧ H a = some (.ins (He.ga K c) dx (ns.zip vs)) ∧ ns.length = vs.length ∧ RepL K H ds vs
  | .dic ks ds, v => ∃ a vs, v = .ref a ∧ H a = some (.dK (ks.zip vs)) ∧ (ks.length = vs.length ∧ ks.Nodup) ∧ RepL K H ds vs
  | .obj x, v => v = .ref (He.ga K x)
  | .scr ns, v => ∃ a, v = .ref a ∧ SqL K H a (ns.map V.int)
def RepL (K : PySem.W.Frag) (H : Hp) : List D → List V → Prop
  | [], vs => vs = []
  | d :: ds, vs => ∃ v r, vs = v :: r ∧ Rep K H d v ∧ RepL K H ds r
end

theorem Same.rd {H H' : Hp} {a : Addr} {u : HO} (e : Same H H') (r : Rd H a u) : Rd H' a u := by
  rcases r with r | ⟨o, r⟩
  · exact .inl (e _ _ r)
  · exact .inr ⟨o, e _ _ r⟩
theorem Same.sqt {K : PySem.W.Frag} {H H' : Hp} {a : Addr} {xs : List V} (e : Same H H') (h : SqT K H a xs) : SqT K H' a xs := by
  rcases h with h | h
  · exact .inl (Same.rd e h)
  · exact .inr h

mutual
theorem Rep.mono {K : PySem.W.Frag} {H H' : Hp} (e : Same H H') : ∀ {d : D} {v : V}, Rep K H d v → Rep K H' d v
  | .non, _, h => h
  | .bl _, _, h => h
  | .int _, _, h => h
  | .str _, _, h => h
  | .lst ds, _, ⟨a, vs, h1, h2, h3⟩ => ⟨a, vs, h1, e _ _ h2, RepL.mono e h3⟩
  | .tup ds, _, ⟨a, vs, h1, h2, h3⟩ => ⟨a, vs, h1, Same.sqt e h2, RepL.mono e h3⟩
  | .ins c ns ds, _, ⟨a, dx, vs, h1, h2, h4, h3⟩ => ⟨a, dx, vs, h1, e _ _ h2, h4, RepL.mono e h3⟩
  | .dic ks ds, _, ⟨a, vs, h1, h2, h4, h3⟩ => ⟨a, vs, h1, e _ _ h2, h4, RepL.mono e h3⟩
  | .obj _, _, h => h
  | .scr ns, _, ⟨a, h1, h2⟩ => ⟨a, h1, e.seq h2⟩
theorem RepL.mono {K : PySem.W.Frag} {H H' : Hp} (e : Same H H') : ∀ {ds : List D} {vs : List V}, RepL K H ds vs → RepL K H' ds vs
  | [], _, h => h
  | d :: ds, _, ⟨v, r, h1, h2, h3⟩ => ⟨v, r, h1, Rep.mono e h2, RepL.mono e h3⟩
end

theorem RepL.len {K : PySem.W.Frag} {H : Hp} : ∀ {ds : List D} {vs : List V}, RepL K H ds vs → ds.length = vs.length
  | [], _, h => by cases h; rfl
  | d :: ds, _, ⟨v, r, h1, _, h3⟩ => by subst h1; simp [RepL.len h3]
theorem RepL.get {K : PySem.W.Frag} {H : Hp} : ∀ {ds : List D} {vs : List V} {i : Nat} {d : D}, RepL K H ds vs → ds[i]? = some d → ∃ v, vs[i]? = some v ∧ Rep K H d v
  | [], _, _, _, _, e => by simp at e
  | d :: ds, _, 0, _, ⟨v, r, h1, h2, _⟩, e => by subst h1; simp at e; subst e; exact ⟨v, rfl, h2⟩
  | d :: ds, _, i + 1, _, ⟨v, r, h1, _, h3⟩, e => by subst h1; simpa using RepL.get (i := i) h3 (by simpa using e)
theorem RepL.at {K : PySem.W.Frag} {H : Hp} : ∀ {ds : List D} {vs : List V} {i : Nat} {v : V}, RepL K H ds vs → vs[i]? = some v → ∃ d, ds[i]? = some d ∧ Rep K H d v
  | [], _, _, _, h, e => by cases h; simp at e
  | d :: ds, _, 0, _, ⟨v, r, h1, h2, _⟩, e => by subst h1; simp at e; subst e; exact ⟨d, rfl, h2⟩
  | d :: ds, _, i + 1, _, ⟨v, r, h1, _, h3⟩, e => by subst h1; simpa using RepL.at (i := i) h3 (by simpa using e)
theorem RepL.snoc {K : PySem.W.Frag} {H : Hp} : ∀ {ds es : List D} {vs ws : List V}, RepL K H ds vs → RepL K H es ws → RepL K H (ds ++ es) (vs ++ ws)
  | [], _, _, _, h, g => by cases h; exact g
  | d :: ds, _, _, _, ⟨v, r, h1, h2, h3⟩, g => by subst h1; exact ⟨v, _, rfl, h2, RepL.snoc h3 g⟩
theorem RepL.set {K : PySem.W.Frag} {H : Hp} {e : D} {w : V} (he : Rep K H e w) : ∀ {ds : List D} {vs : List V} (i : Nat), RepL K H ds vs → RepL K H (ds.set i e) (vs.set i w)
  | [], _, _, h => by cases h; exact rfl
  | d :: ds, _, 0, ⟨v, r, h1, h2, h3⟩ => by subst h1; exact ⟨w, r, rfl, he, h3⟩
  | d :: ds, _, i + 1, ⟨v, r, h1, h2, h3⟩ => by subst h1; exact ⟨v, _, rfl, h2, RepL.set he i h3⟩
theorem RepL.take {K : PySem.W.Frag} {H : Hp} : ∀ {ds : List D} {vs : List V} (n : Nat), RepL K H ds vs → RepL K H (ds.take n) (vs.take n)
  | ds, vs, 0, _ => by simp [RepL]
  | [], _, n + 1, h => by cases h; simp [RepL]
  | d :: ds, _, n + 1, ⟨v, r, h1, h2, h3⟩ => by subst h1; exact ⟨v, _, rfl, h2, RepL.take n h3⟩
theorem RepL.drop {K : PySem.W.Frag} {H : Hp} : ∀ {ds : List D} {vs : List V} (n : Nat), RepL K H ds vs → RepL K H (ds.drop n) (vs.drop n)
  | ds, vs, 0, h => by simpa using h
  | [], _, n + 1, h => by cases h; simp [RepL]
  | d :: ds, _, n + 1, ⟨v, r, h1, h2, h3⟩ => by subst h1; simpa using RepL.drop n h3
theorem RepL.rev {K : PySem.W.Frag} {H : Hp} : ∀ {ds : List D} {vs : List V}, RepL K H ds vs → RepL K H ds.reverse vs.reverse
  | [], _, h => by cases h; exact rfl
  | d :: ds, _, ⟨v, r, h1, h2, h3⟩ => by subst h1; simp only [List.reverse_cons]; exact RepL.snoc (RepL.rev h3) ⟨v, [], rfl, h2, rfl⟩
theorem RepL.ints {K : PySem.W.Frag} {H : Hp} : ∀ (ns : List Int), RepL K H (ns.map .int) (ns.map .int)
  | [] => rfl
  | n :: ns => ⟨.int n, _, rfl, rfl, RepL.ints ns⟩
theorem RepL.of_ints {K : PySem.W.Frag} {H : Hp} : ∀ {ns : List Int} {vs : List V}, RepL K H (ns.map .int) vs → vs = ns.map .int
  | [], _, h => h
  | n :: ns, _, ⟨v, r, h1, h2, h3⟩ => by subst h1; cases h2; rw [RepL.of_ints h3]; rfl

/-- data without an address -/
def flat : D → Bool
  | .non => true | .bl _ => true | .int _ => true | .str _ => true | .obj _ => true
  | _ => false
theorem flat_rep {K : PySem.W.Frag} {H H' : Hp} : ∀ {d : D} {v : V}, flat d = true → Rep K H d v → Rep K H' d v
  | .non, _, _, h => h | .bl _, _, _, h => h | .int _, _, _, h => h | .str _, _, _, h => h | .obj _, _, _, h => h
theorem flat_repL {K : PySem.W.Frag} {H H' : Hp} : ∀ {ds : List D} {vs : List V}, ds.all flat = true → RepL K H ds vs → RepL K H' ds vs
  | [], _, _, h => h
  | d :: ds, _, f, ⟨v, r, h1, h2, h3⟩ => by
    simp only [List.all_cons, Bool.and_eq_true] at f
    exact ⟨v, r, h1, flat_rep f.1 h2, flat_repL f.2 h3⟩

/-- the object at an owned address -/
def RepO (K : PySem.W.Frag) (H : Hp) : D → HO → Prop
  | .lst ds, o => ∃ vs, o = .lst vs ∧ RepL K H ds vs
  | .ins c ns ds, o => ∃ dx vs, o = .ins (He.ga K c) dx (ns.zip vs) ∧ ns.length = vs.length ∧ RepL K H ds vs
  | .dic ks ds, o => ∃ vs, o = .dK (ks.zip vs) ∧ (ks.length = vs.length ∧ ks.Nodup) ∧ RepL K H ds vs
  | _, _ => False
theorem RepO.mono {K : PySem.W.Frag} {H H' : Hp} (e : Same H H') : ∀ {d : D} {o : HO}, RepO K H d o → RepO K H' d o
  | .lst ds, _, ⟨vs, h1, h2⟩ => ⟨vs, h1, RepL.mono e h2⟩
  | .ins c ns ds, _, ⟨dx, vs, h1, h2, h3⟩ => ⟨dx, vs, h1, h2, RepL.mono e h3⟩
  | .dic ks ds, _, ⟨vs, h1, h2, h3⟩ => ⟨vs, h1, h2, RepL.mono e h3⟩
theorem RepO.rep {K : PySem.W.Frag} {H H' : Hp} {a : Addr} (e : Same H H') : ∀ {d : D} {o : HO}, RepO K H d o → H' a = some o → Rep K H' d (.ref a)
  | .lst ds, _, ⟨vs, h1, h2⟩, h => ⟨a, vs, rfl, h1 ▸ h, RepL.mono e h2⟩
  | .ins c ns ds, _, ⟨dx, vs, h1, h2, h3⟩, h => ⟨a, dx, vs, rfl, h1 ▸ h, h2, RepL.mono e h3⟩
  | .dic ks ds, _, ⟨vs, h1, h2, h3⟩, h => ⟨a, vs, rfl, h1 ▸ h, h2, RepL.mono e h3⟩
/-- parts of an owned object hold nothing with an address -/
def flatO : D → Bool
  | .lst ds => ds.all flat
  | .ins _ _ ds => ds.all flat
  | .dic _ ds => ds.all flat
  | _ => false
theorem flatO_rep {K : PySem.W.Frag} {H H' : Hp} : ∀ {d : D} {o : HO}, flatO d = true → RepO K H d o → RepO K H' d o
  | .lst ds, _, f, ⟨vs, h1, h2⟩ => ⟨vs, h1, flat_repL f h2⟩
  | .ins c ns ds, _, f, ⟨dx, vs, h1, h2, h3⟩ => ⟨dx, vs, h1, h2, flat_repL f h3⟩
  | .dic ks ds, _, f, ⟨vs, h1, h2, h3⟩ => ⟨vs, h1, h2, flat_repL f h3⟩

/-! ### hidden addresses -/
open Classical in
/-- H without the addresses of P -/
noncomputable def hid (H : Hp) (P : Addr → Prop) : Hp := fun b => if P b then none else H b
theorem hid_some {H : Hp} {P : Addr → Prop} {b : Addr} {o : HO} : hid H P b = some o ↔ ¬ P b ∧ H b = some o := by
  unfold hid
  split <;> simp_all
theorem same_hid {H H' : Hp} {P P' : Addr → Prop} : Same (hid H P) (hid H' P') ↔ ∀ b o, ¬ P b → H b = some o → ¬ P' b ∧ H' b = some o := by
  constructor
  · intro s b o h1 h2
    exact hid_some.mp (s b o (hid_some.mpr ⟨h1, h2⟩))
  · intro s b o h
    obtain ⟨h1, h2⟩ := hid_some.mp h
    exact hid_some.mpr (s b o h1 h2)
theorem same_hid_self {H : Hp} {P : Addr → Prop} : Same (hid H P) H := fun b o h => (hid_some.mp h).2

/-! ### environments -/
/-- a slot: unset, shared, owned (its own object, named by nothing else), lent by the caller to be changed -/
inductive Sl where
  | no | shr (d : D) | own (d : D) | io (d : D)
/-- an owned datum -/
def ownD : Sl → Option D
  | .own d => some d
  | .io d => some d
  | _ => none
def OwnAt (env : List Sl) (i : Nat) (d : D) : Prop := env[i]? = some (.own d) ∨ env[i]? = some (.io d)
/-- what is hidden from the shared data: the frame's addresses, the owned ones -/
def Hd (env : List Sl) (σ : L2.St) (Fr : List Addr) : Addr → Prop := fun b => b ∈ Fr ∨ ∃ i d, OwnAt env i d ∧ σ[i]? = some (some (.ref b))

structure EnvOk (K : PySem.W.Frag) (env : List Sl) (IO : List (Option Addr)) (Fr : List Addr) (σ : L2.St) (H : Hp) : Prop where
  len : env.length = σ.length
  fr : ∀ b ∈ Fr, H b ≠ none
  own : ∀ i d, OwnAt env i d → ∃ p o, σ[i]? = some (some (.ref p)) ∧ p ∉ Fr ∧ H p = some o ∧ RepO K (hid H (Hd env σ Fr)) d o
  inj : ∀ i j d d' p, OwnAt env i d → OwnAt env j d' → σ[i]? = some (some (.ref p)) → σ[j]? = some (some (.ref p)) → i = j
  shr : ∀ (i : Nat) (d : D), env[i]? = some (Sl.shr d) → ∃ v, σ[i]? = some (some v) ∧ Rep K (hid H (Hd env σ Fr)) d v
  io : ∀ (i : Nat) (p : Addr), IO[i]? = some (some p) → (∃ d : D, env[i]? = some (Sl.io d)) ∧ σ[i]? = some (some (.ref p))
  oi : ∀ (i : Nat) (d : D), env[i]? = some (Sl.io d) → ∃ p : Addr, IO[i]? = some (some p)

/-- from one state to a later one -/
structure Stp (Fr : List Addr) (P : Addr → Prop) (H : Hp) (P' : Addr → Prop) (H' : Hp) : Prop where
  same : ∀ b o, ¬ P b → H b = some o → ¬ P' b ∧ H' b = some o
  fr : ∀ b ∈ Fr, H' b = H b
theorem Stp.refl (Fr : List Addr) (P : Addr → Prop) (H : Hp) : Stp Fr P H P H := ⟨fun _ _ h1 h2 => ⟨h1, h2⟩, fun _ _ => rfl⟩
theorem Stp.trans {Fr : List Addr} {P P1 P2 : Addr → Prop} {H H1 H2 : Hp} (a : Stp Fr P H P1 H1) (b : Stp Fr P1 H1 P2 H2) : Stp Fr P H P2 H2 :=
  ⟨fun c o h1 h2 => let ⟨g1, g2⟩ := a.same c o h1 h2; b.same c o g1 g2, fun c h => (b.fr c h).trans (a.fr c h)⟩
theorem Stp.rep {K : PySem.W.Frag} {Fr : List Addr} {P P' : Addr → Prop} {H H' : Hp} {d : D} {v : V} (a : Stp Fr P H P' H') (r : Rep K (hid H P) d v) : Rep K (hid H' P') d v :=
  Rep.mono (same_hid.mpr a.same) r

/-- the results -/
structure Exn where
  c : Str
  ns : List Str
  xs : List D
inductive Res (α : Type) where
  | ok (x : α) (env : List Sl) | exc (x : Exn) (env : List Sl) | bad
/-- an expression's meaning: shared data; a slot (data of its own, perhaps) -/
abbrev P := List Sl → Res D
abbrev E := List Sl → Res Sl
inductive Fl where
  | nx (env : List Sl) | rt (s : Sl) (env : List Sl) | bk (env : List Sl) | ct (env : List Sl) | ex (x : Exn) (env : List Sl) | bad
abbrev S := List Sl → Fl
inductive FnR where
  | ok (s : Sl) (outs : List Sl) | exc (x : Exn) (outs : List Sl) | bad
abbrev Fn := List Sl → FnR

/-- an exception's class and own dict -/
def ExcOk (K : PySem.W.Frag) (H : Hp) (x : Exn) (c : Value) (a : Option Addr) : Prop :=
  c = .ref (He.ga K x.c) ∧ ((x.ns = [] ∧ x.xs = [] ∧ a = none) ∨ ∃ d vs, (a = some d ∧ x.ns ≠ []) ∧ H d = some (.xd (x.ns.zip vs)) ∧ x.ns.length = vs.length ∧ RepL K H x.xs vs)
theorem ExcOk.mono {K : PySem.W.Frag} {H H' : Hp} {x : Exn} {c : Value} {a : Option Addr} (e : Same H H') (h : ExcOk K H x c a) : ExcOk K H' x c a := by
  obtain ⟨h1, h2 | ⟨d, vs, h3, h4, h5, h6⟩⟩ := h
  · exact ⟨h1, .inl h2⟩
  · exact ⟨h1, .inr ⟨d, vs, h3, e _ _ h4, h5, RepL.mono e h6⟩⟩

/-- the frame with a result's own address -/
def frOf : Sl → V → List Addr → List Addr
  | .own _, .ref p, Fr => p :: Fr
  | _, _, Fr => Fr
def ResOk (K : PySem.W.Frag) (s : Sl) (v : V) (env : List Sl) (IO : List (Option Addr)) (Fr : List Addr) (σ : L2.St) (H : Hp) : Prop :=
  match s with
  | .shr d => EnvOk K env IO Fr σ H ∧ Rep K (hid H (Hd env σ Fr)) d v
  | .own d => ∃ p o, v = .ref p ∧ p ∉ Fr ∧ EnvOk K env IO (p :: Fr) σ H ∧ H p = some o ∧ RepO K (hid H (Hd env σ (p :: Fr))) d o
  | _ => False

/-- an expression's reading: shared result -/
def tP (K : PySem.W.Frag) (W : WX) (f : P) : TE := fun σ H Q => ∃ env IO Fr, EnvOk K env IO Fr σ H ∧
  match f env with
  | .ok d env' => ∀ v H', EnvOk K env' IO Fr σ H' → Rep K (hid H' (Hd env' σ Fr)) d v → Stp Fr (Hd env σ Fr) H (Hd env' σ Fr) H' → Q v H'
  | .exc x env' => ∀ c a H', EnvOk K env' IO Fr σ H' → Stp Fr (Hd env σ Fr) H (Hd env' σ Fr) H' → ExcOk K (hid H' (Hd env' σ Fr)) x c a → W c a σ H'
  | .bad => False
/-- .. the result perhaps its own -/
def tE (K : PySem.W.Frag) (W : WX) (f : E) : TE := fun σ H Q => ∃ env IO Fr, EnvOk K env IO Fr σ H ∧
  match f env with
  | .ok s env' => ∀ v H', ResOk K s v env' IO Fr σ H' → Stp Fr (Hd env σ Fr) H (Hd env' σ (frOf s v Fr)) H' → Q v H'
  | .exc x env' => ∀ c a H', EnvOk K env' IO Fr σ H' → Stp Fr (Hd env σ Fr) H (Hd env' σ Fr) H' → ExcOk K (hid H' (Hd env' σ Fr)) x c a → W c a σ H'
  | .bad => False
/-- a test's -/
def tT (K : PySem.W.Frag) (W : WX) (f : List Sl → Res Bool) : TT := fun σ H Q => ∃ env IO Fr, EnvOk K env IO Fr σ H ∧
  match f env with
  | .ok b env' => ∀ H', EnvOk K env' IO Fr σ H' → Stp Fr (Hd env σ Fr) H (Hd env' σ Fr) H' → Q b H'
  | .exc x env' => ∀ c a H', EnvOk K env' IO Fr σ H' → Stp Fr (Hd env σ Fr) H (Hd env' σ Fr) H' → ExcOk K (hid H' (Hd env' σ Fr)) x c a → W c a σ H'
  | .bad => False
/-- a list of shared values -/
def tL (K : PySem.W.Frag) (W : WX) (f : List Sl → Res (List D)) : TA := fun σ H Q => ∃ env IO Fr, EnvOk K env IO Fr σ H ∧
  match f env with
  | .ok ds env' => ∀ vs H', EnvOk K env' IO Fr σ H' → RepL K (hid H' (Hd env' σ Fr)) ds vs → Stp Fr (Hd env σ Fr) H (Hd env' σ Fr) H' → Q vs H'
  | .exc x env' => ∀ c a H', EnvOk K env' IO Fr σ H' → Stp Fr (Hd env σ Fr) H (Hd env' σ Fr) H' → ExcOk K (hid H' (Hd env' σ Fr)) x c a → W c a σ H'
  | .bad => False
/-- a statement's -/
def tS (K : PySem.W.Frag) (W : WX) (f : S) : TS := fun Z σ H => ∃ env IO Fr, EnvOk K env IO Fr σ H ∧
  match f env with
  | .nx env' => ∀ σ' H', EnvOk K env' IO Fr σ' H' → Stp Fr (Hd env σ Fr) H (Hd env' σ' Fr) H' → Z.nx σ' H'
  | .bk env' => ∀ σ' H', EnvOk K env' IO Fr σ' H' → Stp Fr (Hd env σ Fr) H (Hd env' σ' Fr) H' → Z.bk σ' H'
  | .ct env' => ∀ σ' H', EnvOk K env' IO Fr σ' H' → Stp Fr (Hd env σ Fr) H (Hd env' σ' Fr) H' → Z.ct σ' H'
  | .rt s env' => ∀ v σ' H', ResOk K s v env' IO Fr σ' H' → Stp Fr (Hd env σ Fr) H (Hd env' σ' (frOf s v Fr)) H' → Z.rt v H'
  | .ex x env' => ∀ c a σ' H', EnvOk K env' IO Fr σ' H' → Stp Fr (Hd env σ Fr) H (Hd env' σ' Fr) H' → ExcOk K (hid H' (Hd env' σ' Fr)) x c a → W c a σ' H'
  | .bad => False
end PL

/-! Pl1: environments: growing, freezing, storing, changing. -/
namespace PL
open PySem L2

theorem ownAt_set {env : List Sl} {i j : Nat} {s : Sl} {d : D} : OwnAt (env.set i s) j d ↔ (j = i ∧ i < env.length ∧ (s = .own d ∨ s = .io d)) ∨ (j ≠ i ∧ OwnAt env j d) := by
  unfold OwnAt
  by_cases h : j = i
  · subst h
    by_cases hl : j < env.length
    · rw [List.getElem?_set_self hl]
      simp [hl]
    · have e : env[j]? = none := List.getElem?_eq_none_iff.mpr (by omega)
      rw [List.set_eq_of_length_le (by omega), e]
      simp [hl]
  · rw [List.getElem?_set_ne (Ne.symm h)]
    simp [h]
theorem OwnAt.lt {env : List Sl} {i : Nat} {d : D} (h : OwnAt env i d) : i < env.length := by
  rcases h with h | h <;> exact (List.getElem?_eq_some_iff.mp h).1
theorem OwnAt.uniq {env : List Sl} {i : Nat} {d e : D} (h : OwnAt env i d) (g : OwnAt env i e) : d = e := by
  rcases h with h | h <;> rcases g with g | g <;> rw [h] at g <;> cases g <;> rfl

section
variable {K : PySem.W.Frag} {env : List Sl} {IO : List (Option Addr)} {Fr : List Addr} {σ : L2.St} {H H' : Hp} {p : Addr} {o : HO} {d : D} {v : V} {s : Sl} {i : Nat}

theorem EnvOk.fresh (e : EnvOk K env IO Fr σ H) (hp : H p = none) : ¬ Hd env σ Fr p := by
  rintro (h | ⟨i, d, h1, h2⟩)
  · exact e.fr _ h hp
  · obtain ⟨q, o, g1, _, g3, _⟩ := e.own i d h1
    rw [h2] at g1; cases g1
    rw [hp] at g3; cases g3
/-- the heap grows -/
theorem EnvOk.grow (e : EnvOk K env IO Fr σ H) (s : Same H H') : EnvOk K env IO Fr σ H' := by
  have m : Same (hid H (Hd env σ Fr)) (hid H' (Hd env σ Fr)) := same_hid.mpr fun b o h1 h2 => ⟨h1, s b o h2⟩
  refine ⟨e.len, fun b hb => ?_, fun i d h => ?_, e.inj, fun i d h => ?_, e.io, e.oi⟩
  · have := e.fr b hb
    cases q : H b with
    | none => exact absurd q this
    | some o => rw [s b o q]; simp
  · obtain ⟨p, o, h1, h2, h3, h4⟩ := e.own i d h
    exact ⟨p, o, h1, h2, s _ _ h3, RepO.mono m h4⟩
  · obtain ⟨v, h1, h2⟩ := e.shr i d h
    exact ⟨v, h1, Rep.mono m h2⟩
theorem EnvOk.stp (e : EnvOk K env IO Fr σ H) (s : Same H H') : Stp Fr (Hd env σ Fr) H (Hd env σ Fr) H' :=
  ⟨fun b o h1 h2 => ⟨h1, s b o h2⟩, fun b hb => by
    have := e.fr b hb
    cases q : H b with
    | none => exact absurd q this
    | some o => exact s b o q⟩
theorem same_upd (hp : H p = none) : Same H (upd H p o) := fun b u e => by rw [upd_ne (ne_of_none e hp)]; exact e
/-- a new object of its own -/
theorem EnvOk.new (e : EnvOk K env IO Fr σ H) (hp : H p = none) (r : RepO K (hid H (Hd env σ Fr)) d o) :
    ResOk K (.own d) (.ref p) env IO Fr σ (upd H p o) ∧ Stp Fr (Hd env σ Fr) H (Hd env σ (frOf (.own d) (.ref p) Fr)) (upd H p o) := by
  have nh := e.fresh hp
  have np : p ∉ Fr := fun h => nh (.inl h)
  have sm : Same H (upd H p o) := same_upd hp
  have hd : ∀ b, Hd env σ (p :: Fr) b ↔ b = p ∨ Hd env σ Fr b := fun b => by
    unfold Hd
    rw [List.mem_cons]
    exact or_assoc
  have m : Same (hid H (Hd env σ Fr)) (hid (upd H p o) (Hd env σ (p :: Fr))) := same_hid.mpr fun b u h1 h2 => by
    have nb : b ≠ p := ne_of_none h2 hp
    refine ⟨fun h => ?_, sm b u h2⟩
    rcases (hd b).mp h with h | h
    · exact nb h
    · exact h1 h
  have e' := e.grow sm
  refine ⟨⟨p, o, rfl, np, ⟨e'.len, fun b hb => ?_, fun i d h => ?_, e'.inj, fun i d h => ?_, e'.io, e'.oi⟩, upd_same, RepO.mono m r⟩, ⟨fun b u h1 h2 => ?_, (e.stp sm).fr⟩⟩
  · rcases List.mem_cons.mp hb with rfl | hb
    · rw [upd_same]; simp
    · exact e'.fr b hb
  · obtain ⟨q, u, h1, h2, h3, h4⟩ := e.own i d h
    have nq : q ≠ p := ne_of_none h3 hp
    exact ⟨q, u, h1, fun z => (List.mem_cons.mp z).elim nq h2, sm _ _ h3, RepO.mono m h4⟩
  · obtain ⟨v, h1, h2⟩ := e.shr i d h
    exact ⟨v, h1, Rep.mono m h2⟩
  · have nb : b ≠ p := ne_of_none h2 hp
    refine ⟨fun h => ?_, sm b u h2⟩
    rcases (hd b).mp h with h | h
    · exact nb h
    · exact h1 h
/-- a frame's address let go -/
theorem EnvOk.unfr (e : EnvOk K env IO (p :: Fr) σ H) : EnvOk K env IO Fr σ H ∧ Same (hid H (Hd env σ (p :: Fr))) (hid H (Hd env σ Fr)) := by
  have m : Same (hid H (Hd env σ (p :: Fr))) (hid H (Hd env σ Fr)) := same_hid.mpr fun b u h1 h2 => ⟨fun h => h1 (h.elim (fun z => .inl (List.mem_cons_of_mem _ z)) .inr), h2⟩
  refine ⟨⟨e.len, fun b hb => e.fr b (List.mem_cons_of_mem _ hb), fun i d h => ?_, e.inj, fun i d h => ?_, e.io, e.oi⟩, m⟩
  · obtain ⟨q, u, h1, h2, h3, h4⟩ := e.own i d h
    exact ⟨q, u, h1, fun z => h2 (List.mem_cons_of_mem _ z), h3, RepO.mono m h4⟩
  · obtain ⟨v, h1, h2⟩ := e.shr i d h
    exact ⟨v, h1, Rep.mono m h2⟩
/-- a result is shared from here on -/
theorem ResOk.freeze (r : ResOk K s v env IO Fr σ H) : ∃ d, (s = .shr d ∨ s = .own d) ∧ EnvOk K env IO Fr σ H ∧ Rep K (hid H (Hd env σ Fr)) d v ∧ Stp Fr (Hd env σ (frOf s v Fr)) H (Hd env σ Fr) H := by
  cases s with
  | no => exact r.elim
  | io d => exact r.elim
  | shr d => exact ⟨d, .inl rfl, r.1, r.2, Stp.refl _ _ _⟩
  | own d =>
    obtain ⟨p, o, rfl, np, e, hp, ro⟩ := r
    obtain ⟨e', m⟩ := e.unfr
    have nh : ¬ Hd env σ Fr p := by
      rintro (h | ⟨i, d, h1, h2⟩)
      · exact np h
      · obtain ⟨q, u, g1, g2, _⟩ := e.own i d h1
        rw [h2] at g1; cases g1
        exact g2 List.mem_cons_self
    exact ⟨d, .inr rfl, e', RepO.rep m ro (hid_some.mpr ⟨nh, hp⟩), ⟨same_hid.mp m, fun _ _ => rfl⟩⟩
/-- an owned slot is shared from here on -/
theorem EnvOk.frz (e : EnvOk K env IO Fr σ H) (h : env[i]? = some (Sl.own d)) :
    EnvOk K (env.set i (.shr d)) IO Fr σ H ∧ Stp Fr (Hd env σ Fr) H (Hd (env.set i (.shr d)) σ Fr) H := by
  have hi : i < env.length := (List.getElem?_eq_some_iff.mp h).1
  have ow : ∀ j f, OwnAt (env.set i (.shr d)) j f ↔ j ≠ i ∧ OwnAt env j f := fun j f => by rw [ownAt_set]; simp
  have m : Same (hid H (Hd env σ Fr)) (hid H (Hd (env.set i (.shr d)) σ Fr)) := same_hid.mpr fun b u h1 h2 => ⟨fun z => h1 (z.elim .inl fun ⟨j, f, g1, g2⟩ => .inr ⟨j, f, ((ow j f).mp g1).2, g2⟩), h2⟩
  refine ⟨⟨by simpa using e.len, e.fr, fun j f z => ?_, fun j k f g q z1 z2 => e.inj j k f g q ((ow _ _).mp z1).2 ((ow _ _).mp z2).2, fun j f z => ?_, fun j q z => ?_, fun j f z => ?_⟩, ⟨same_hid.mp m, fun _ _ => rfl⟩⟩
  · obtain ⟨q, u, h1, h2, h3, h4⟩ := e.own j f ((ow _ _).mp z).2
    exact ⟨q, u, h1, h2, h3, RepO.mono m h4⟩
  · by_cases hj : j = i
    · subst hj
      rw [List.getElem?_set_self hi] at z; cases z
      obtain ⟨q, u, h1, h2, h3, h4⟩ := e.own j d (.inl h)
      refine ⟨_, h1, RepO.rep m h4 (hid_some.mpr ⟨?_, h3⟩)⟩
      rintro (z | ⟨k, f, z1, z2⟩)
      · exact h2 z
      · exact ((ow _ _).mp z1).1 (e.inj k j f d q ((ow _ _).mp z1).2 (.inl h) z2 h1)
    · rw [List.getElem?_set_ne (Ne.symm hj)] at z
      obtain ⟨v, h1, h2⟩ := e.shr j f z
      exact ⟨v, h1, Rep.mono m h2⟩
  · obtain ⟨⟨f, h1⟩, h2⟩ := e.io j q z
    refine ⟨⟨f, ?_⟩, h2⟩
    have hj : j ≠ i := by rintro rfl; rw [h] at h1; cases h1
    rw [List.getElem?_set_ne (Ne.symm hj)]
    exact h1
  · by_cases hj : j = i
    · subst hj; rw [List.getElem?_set_self hi] at z; cases z
    · rw [List.getElem?_set_ne (Ne.symm hj)] at z
      exact e.oi j f z
/-- may be stored over -/
def setOk (env : List Sl) (i : Nat) : Bool := match env[i]? with
  | some (.io _) => false
  | some _ => true
  | none => false
/-- a result is stored -/
theorem ResOk.store (r : ResOk K s v env IO Fr σ H) (hi : setOk env i = true) :
    EnvOk K (env.set i s) IO Fr (σ.set i (some v)) H ∧ Stp Fr (Hd env σ (frOf s v Fr)) H (Hd (env.set i s) (σ.set i (some v)) Fr) H := by
  have hil : i < env.length := by
    unfold setOk at hi
    by_cases h : i < env.length
    · exact h
    · rw [List.getElem?_eq_none_iff.mpr (by omega)] at hi; cases hi
  have nio : ∀ f, env[i]? ≠ some (Sl.io f) := fun f z => by unfold setOk at hi; rw [z] at hi; cases hi
  -- the environment as the rest sees it
  have key : ∀ (Fr' : List Addr) (e : EnvOk K env IO Fr' σ H), (∀ b, b ∈ Fr → b ∈ Fr') → i < σ.length := fun Fr' e _ => by rw [← e.len]; exact hil
  cases s with
  | no => exact r.elim
  | io d => exact r.elim
  | shr d =>
    obtain ⟨e, hr⟩ := r
    have hσ : i < σ.length := by rw [← e.len]; exact hil
    have ow : ∀ j f, OwnAt (env.set i (.shr d)) j f ↔ j ≠ i ∧ OwnAt env j f := fun j f => by rw [ownAt_set]; simp
    have m : Same (hid H (Hd env σ Fr)) (hid H (Hd (env.set i (.shr d)) (σ.set i (some v)) Fr)) := same_hid.mpr fun b u h1 h2 => ⟨fun z => h1 (z.elim .inl fun ⟨j, f, g1, g2⟩ => by
      have g := (ow j f).mp g1
      rw [List.getElem?_set_ne (Ne.symm g.1)] at g2
      exact .inr ⟨j, f, g.2, g2⟩), h2⟩
    refine ⟨⟨by simpa using e.len, e.fr, fun j f z => ?_, fun j k f g q z1 z2 z3 z4 => ?_, fun j f z => ?_, fun j q z => ?_, fun j f z => ?_⟩, ⟨same_hid.mp m, fun _ _ => rfl⟩⟩
    · have g := (ow _ _).mp z
      obtain ⟨q, u, h1, h2, h3, h4⟩ := e.own j f g.2
      exact ⟨q, u, by rw [List.getElem?_set_ne (Ne.symm g.1)]; exact h1, h2, h3, RepO.mono m h4⟩
    · have g1 := (ow _ _).mp z1
      have g2 := (ow _ _).mp z2
      rw [List.getElem?_set_ne (Ne.symm g1.1)] at z3
      rw [List.getElem?_set_ne (Ne.symm g2.1)] at z4
      exact e.inj j k f g q g1.2 g2.2 z3 z4
    · by_cases hj : j = i
      · subst hj
        rw [List.getElem?_set_self hil] at z; cases z
        exact ⟨v, List.getElem?_set_self hσ, Rep.mono m hr⟩
      · rw [List.getElem?_set_ne (Ne.symm hj)] at z
        obtain ⟨v', h1, h2⟩ := e.shr j f z
        exact ⟨v', by rw [List.getElem?_set_ne (Ne.symm hj)]; exact h1, Rep.mono m h2⟩
    · obtain ⟨⟨f, h1⟩, h2⟩ := e.io j q z
      have hj : j ≠ i := by rintro rfl; exact nio _ h1
      rw [List.getElem?_set_ne (Ne.symm hj), List.getElem?_set_ne (Ne.symm hj)]
      exact ⟨⟨f, h1⟩, h2⟩
    · by_cases hj : j = i
      · subst hj; rw [List.getElem?_set_self hil] at z; cases z
      · rw [List.getElem?_set_ne (Ne.symm hj)] at z
        exact e.oi j f z
  | own d =>
    obtain ⟨p, o, rfl, np, e, hp, ro⟩ := r
    have hσ : i < σ.length := by rw [← e.len]; exact hil
    have ow : ∀ j f, OwnAt (env.set i (.own d)) j f ↔ (j = i ∧ f = d) ∨ (j ≠ i ∧ OwnAt env j f) := fun j f => by
      rw [ownAt_set]
      constructor
      · rintro (⟨h1, _, h | h⟩ | h)
        · cases h; exact .inl ⟨h1, rfl⟩
        · cases h
        · exact .inr h
      · rintro (⟨h1, h2⟩ | h)
        · exact .inl ⟨h1, hil, .inl (by rw [h2])⟩
        · exact .inr h
    have hd : ∀ b, Hd (env.set i (.own d)) (σ.set i (some (.ref p))) Fr b → Hd env σ (p :: Fr) b := fun b z => by
      rcases z with z | ⟨j, f, g1, g2⟩
      · exact .inl (List.mem_cons_of_mem _ z)
      · rcases (ow j f).mp g1 with ⟨rfl, _⟩ | ⟨g, g'⟩
        · rw [List.getElem?_set_self hσ] at g2
          cases g2
          exact .inl List.mem_cons_self
        · rw [List.getElem?_set_ne (Ne.symm g)] at g2
          exact .inr ⟨j, f, g', g2⟩
    have m : Same (hid H (Hd env σ (p :: Fr))) (hid H (Hd (env.set i (.own d)) (σ.set i (some (.ref p))) Fr)) := same_hid.mpr fun b u h1 h2 => ⟨fun z => h1 (hd b z), h2⟩
    refine ⟨⟨by simpa using e.len, fun b hb => e.fr b (List.mem_cons_of_mem _ hb), fun j f z => ?_, fun j k f g q z1 z2 z3 z4 => ?_, fun j f z => ?_, fun j q z => ?_, fun j f z => ?_⟩, ⟨same_hid.mp m, fun _ _ => rfl⟩⟩
    · rcases (ow j f).mp z with ⟨rfl, rfl⟩ | ⟨g, g'⟩
      · exact ⟨p, o, List.getElem?_set_self hσ, np, hp, RepO.mono m ro⟩
      · obtain ⟨q, u, h1, h2, h3, h4⟩ := e.own j f g'
        exact ⟨q, u, by rw [List.getElem?_set_ne (Ne.symm g)]; exact h1, fun z => h2 (List.mem_cons_of_mem _ z), h3, RepO.mono m h4⟩
    · have oth : ∀ k g, k ≠ i → OwnAt env k g → ¬ σ[k]? = some (some (V.ref p)) := fun k g _ ho z => by
        obtain ⟨q, u, h1, h2, _⟩ := e.own k g ho
        rw [z] at h1; cases h1
        exact h2 List.mem_cons_self
      rcases (ow j f).mp z1 with ⟨rfl, rfl⟩ | ⟨a1, a2⟩ <;> rcases (ow k g).mp z2 with ⟨rfl, rfl⟩ | ⟨b1, b2⟩
      · rfl
      · rw [List.getElem?_set_self hσ] at z3; cases z3
        rw [List.getElem?_set_ne (Ne.symm b1)] at z4
        exact absurd z4 (oth k g b1 b2)
      · rw [List.getElem?_set_self hσ] at z4; cases z4
        rw [List.getElem?_set_ne (Ne.symm a1)] at z3
        exact absurd z3 (oth j f a1 a2)
      · rw [List.getElem?_set_ne (Ne.symm a1)] at z3
        rw [List.getElem?_set_ne (Ne.symm b1)] at z4
        exact e.inj j k f g q a2 b2 z3 z4
    · by_cases hj : j = i
      · subst hj; rw [List.getElem?_set_self hil] at z; cases z
      · rw [List.getElem?_set_ne (Ne.symm hj)] at z
        obtain ⟨v', h1, h2⟩ := e.shr j f z
        exact ⟨v', by rw [List.getElem?_set_ne (Ne.symm hj)]; exact h1, Rep.mono m h2⟩
    · obtain ⟨⟨f, h1⟩, h2⟩ := e.io j q z
      have hj : j ≠ i := by rintro rfl; exact nio _ h1
      rw [List.getElem?_set_ne (Ne.symm hj), List.getElem?_set_ne (Ne.symm hj)]
      exact ⟨⟨f, h1⟩, h2⟩
    · by_cases hj : j = i
      · subst hj; rw [List.getElem?_set_self hil] at z; cases z
      · rw [List.getElem?_set_ne (Ne.symm hj)] at z
        exact e.oi j f z
/-- an owned datum's slot with another datum -/
def setD (env : List Sl) (i : Nat) (d : D) : List Sl := match env[i]? with
  | some (.own _) => env.set i (.own d)
  | some (.io _) => env.set i (.io d)
  | _ => env
/-- an owned object is changed -/
theorem EnvOk.change (e : EnvOk K env IO Fr σ H) (h : OwnAt env i d) (hp : σ[i]? = some (some (.ref p))) {d' : D} {o' : HO} (r : RepO K (hid H (Hd env σ Fr)) d' o') :
    EnvOk K (setD env i d') IO Fr σ (upd H p o') ∧ Stp Fr (Hd env σ Fr) H (Hd (setD env i d') σ Fr) (upd H p o') := by
  have hi := h.lt
  obtain ⟨q, o, h1, h2, h3, _⟩ := e.own i d h
  rw [hp] at h1; cases h1
  have ow : ∀ j f, OwnAt (setD env i d') j f ↔ (j = i ∧ f = d') ∨ (j ≠ i ∧ OwnAt env j f) := fun j f => by
    unfold setD
    rcases h with h | h <;> rw [h] <;> simp only [] <;> rw [ownAt_set] <;> constructor
    · rintro (⟨h1, _, h | h⟩ | h)
      · cases h; exact .inl ⟨h1, rfl⟩
      · cases h
      · exact .inr h
    · rintro (⟨h1, h2⟩ | h)
      · exact .inl ⟨h1, hi, .inl (by rw [h2])⟩
      · exact .inr h
    · rintro (⟨h1, _, h | h⟩ | h)
      · cases h
      · cases h; exact .inl ⟨h1, rfl⟩
      · exact .inr h
    · rintro (⟨h1, h2⟩ | h)
      · exact .inl ⟨h1, hi, .inr (by rw [h2])⟩
      · exact .inr h
  have gne : ∀ j, j ≠ i → (setD env i d')[j]? = env[j]? := fun j hj => by
    unfold setD
    rcases h with h | h <;> rw [h] <;> exact List.getElem?_set_ne (Ne.symm hj)
  have hd : ∀ b, Hd (setD env i d') σ Fr b ↔ Hd env σ Fr b := fun b => by
    constructor
    · rintro (z | ⟨j, f, g1, g2⟩)
      · exact .inl z
      · rcases (ow j f).mp g1 with ⟨rfl, _⟩ | ⟨_, g'⟩
        · exact .inr ⟨j, d, h, g2⟩
        · exact .inr ⟨j, f, g', g2⟩
    · rintro (z | ⟨j, f, g1, g2⟩)
      · exact .inl z
      · by_cases hj : j = i
        · subst hj; exact .inr ⟨j, d', (ow _ _).mpr (.inl ⟨rfl, rfl⟩), g2⟩
        · exact .inr ⟨j, f, (ow _ _).mpr (.inr ⟨hj, g1⟩), g2⟩
  have hpd : Hd env σ Fr p := .inr ⟨i, d, h, hp⟩
  have sm : ∀ b u, ¬ Hd env σ Fr b → H b = some u → ¬ Hd (setD env i d') σ Fr b ∧ upd H p o' b = some u := fun b u z1 z2 => by
    have nb : b ≠ p := fun z => z1 (z ▸ hpd)
    exact ⟨fun z => z1 ((hd b).mp z), by rw [upd_ne nb]; exact z2⟩
  have m := same_hid.mpr sm
  refine ⟨⟨?_, fun b hb => ?_, fun j f z => ?_, fun j k f g q z1 z2 z3 z4 => ?_, fun j f z => ?_, fun j q z => ?_, fun j f z => ?_⟩, ⟨sm, fun b hb => upd_ne fun z => h2 (z ▸ hb)⟩⟩
  · unfold setD
    rcases h with h | h <;> rw [h] <;> simpa using e.len
  · rw [upd_ne (fun z : b = p => h2 (z ▸ hb))]
    exact e.fr b hb
  · rcases (ow j f).mp z with ⟨rfl, rfl⟩ | ⟨g, g'⟩
    · exact ⟨p, o', hp, h2, upd_same, RepO.mono m r⟩
    · obtain ⟨q, u, a1, a2, a3, a4⟩ := e.own j f g'
      have nq : q ≠ p := fun z => g (e.inj j i f d q g' h a1 (z ▸ hp))
      exact ⟨q, u, a1, a2, by rw [upd_ne nq]; exact a3, RepO.mono m a4⟩
  · have old : ∀ k g, OwnAt (setD env i d') k g → ∃ g', OwnAt env k g' := fun k g z => by
      rcases (ow k g).mp z with ⟨rfl, _⟩ | ⟨_, z⟩
      · exact ⟨d, h⟩
      · exact ⟨g, z⟩
    obtain ⟨f', z1⟩ := old _ _ z1
    obtain ⟨g', z2⟩ := old _ _ z2
    exact e.inj j k f' g' q z1 z2 z3 z4
  · have hj : j ≠ i := by
      rintro rfl
      unfold setD at z
      rcases h with h | h <;> rw [h] at z <;> simp only [] at z <;> rw [List.getElem?_set_self hi] at z <;> cases z
    rw [gne j hj] at z
    obtain ⟨v', a1, a2⟩ := e.shr j f z
    exact ⟨v', a1, Rep.mono m a2⟩
  · obtain ⟨⟨f, a1⟩, a2⟩ := e.io j q z
    by_cases hj : j = i
    · subst hj
      have a3 : (setD env j d')[j]? = some (.io d') := by unfold setD; rw [a1]; exact List.getElem?_set_self hi
      exact ⟨⟨d', a3⟩, a2⟩
    · exact ⟨⟨f, by rw [gne j hj]; exact a1⟩, a2⟩
  · by_cases hj : j = i
    · subst hj
      unfold setD at z
      rcases h with h | h
      · rw [h] at z; simp only [] at z; rw [List.getElem?_set_self hi] at z; cases z
      · exact e.oi j d h
    · rw [gne j hj] at z
      exact e.oi j f z
end
end PL

/-! Pl2: operands; readings put together. -/
namespace PL
open PySem L2

theorem PE.imp {X : Cx} {e : Expr} {t t' : TE} (h : PE X e t) (i : ∀ σ H Q, t' σ H Q → t σ H Q) : PE X e t' := ⟨fun pins s σ H Q I w => h.run pins s σ H Q I (i σ H Q w)⟩
theorem PT.imp {X : Cx} {e : Expr} {t t' : TT} (h : PT X e t) (i : ∀ σ H Q, t' σ H Q → t σ H Q) : PT X e t' := ⟨fun pins s σ H Q I w => h.run pins s σ H Q I (i σ H Q w)⟩
theorem PW.imp {X : Cx} {e : Expr} {t t' : TT} (h : PW X e t) (i : ∀ σ H Q, t' σ H Q → t σ H Q) : PW X e t' := ⟨fun wh pins s σ H Q I w => h.run wh pins s σ H Q I (i σ H Q w)⟩
theorem PA.imp {X : Cx} {e : List Expr} {t t' : TA} (h : PA X e t) (i : ∀ σ H Q, t' σ H Q → t σ H Q) : PA X e t' := ⟨fun pos pins s σ H Q I w => h.run pos pins s σ H Q I (i σ H Q w)⟩
theorem PS.imp {X : Cx} {e : Stmt} {t t' : TS} (h : PS X e t) (i : ∀ D σ H, t' D σ H → t D σ H) : PS X e t' := ⟨fun pins s σ H D I w => h.run pins s σ H D I (i D σ H w)⟩
theorem PSs.imp {X : Cx} {e : List Stmt} {t t' : TS} (h : PSs X e t) (i : ∀ D σ H, t' D σ H → t D σ H) : PSs X e t' := ⟨fun pins s σ H D I w => h.run pins s σ H D I (i D σ H w)⟩

/-! ### results in a row -/
def Res.bind {α β : Type} : Res α → (α → List Sl → Res β) → Res β
  | .ok x env, f => f x env
  | .exc x env, _ => .exc x env
  | .bad, _ => .bad
@[simp] theorem Res.bind_ok {α β : Type} (x : α) (env : List Sl) (f : α → List Sl → Res β) : (Res.ok x env).bind f = f x env := rfl
@[simp] theorem Res.bind_exc {α β : Type} (x : Exn) (env : List Sl) (f : α → List Sl → Res β) : (Res.exc x env : Res α).bind f = .exc x env := rfl
@[simp] theorem Res.bind_bad {α β : Type} (f : α → List Sl → Res β) : (Res.bad : Res α).bind f = .bad := rfl
def opt {α : Type} (o : Option α) (env : List Sl) : Res α := match o with
  | some x => .ok x env
  | none => .bad
@[simp] theorem opt_some {α : Type} (x : α) (env : List Sl) : opt (some x) env = .ok x env := rfl
@[simp] theorem opt_none {α : Type} (env : List Sl) : opt (none : Option α) env = .bad := rfl

/-- what must hold behind a part that ends in r: started at P0, H0 -/
def Run (K : PySem.W.Frag) (W : WX) (IO : List (Option Addr)) (Fr : List Addr) (P0 : Addr → Prop) (H0 : Hp) (σ : L2.St) {α : Type} (r : Res α) (Y : α → List Sl → Hp → Prop) : Prop :=
  match r with
  | .ok x env' => ∀ H', EnvOk K env' IO Fr σ H' → Stp Fr P0 H0 (Hd env' σ Fr) H' → Y x env' H'
  | .exc x env' => ∀ c a H', EnvOk K env' IO Fr σ H' → Stp Fr P0 H0 (Hd env' σ Fr) H' → ExcOk K (hid H' (Hd env' σ Fr)) x c a → W c a σ H'
  | .bad => False
theorem Run.mono {K : PySem.W.Frag} {W : WX} {IO : List (Option Addr)} {Fr : List Addr} {P0 P1 : Addr → Prop} {H0 H1 : Hp} {σ : L2.St} {α : Type} {r : Res α} {Y Y' : α → List Sl → Hp → Prop} (st : Stp Fr P0 H0 P1 H1)
    (h : Run K W IO Fr P0 H0 σ r Y) (hY : ∀ x env' H', EnvOk K env' IO Fr σ H' → Stp Fr P1 H1 (Hd env' σ Fr) H' → Y x env' H' → Y' x env' H') : Run K W IO Fr P1 H1 σ r Y' := by
  cases r with
  | ok x env' => exact fun H' e s => hY x env' H' e s (h H' e (st.trans s))
  | exc x env' => exact fun c a H' e s ec => h c a H' e (st.trans s) ec
  | bad => exact h
/-- split: the first part's result, then the rest -/
theorem Run.split {K : PySem.W.Frag} {W : WX} {IO : List (Option Addr)} {Fr : List Addr} {P0 : Addr → Prop} {H0 : Hp} {σ : L2.St} {α β : Type} {r : Res α} {f : α → List Sl → Res β} {Y : β → List Sl → Hp → Prop}
    (h : Run K W IO Fr P0 H0 σ (r.bind f) Y) : Run K W IO Fr P0 H0 σ r (fun x env' H' => Run K W IO Fr (Hd env' σ Fr) H' σ (f x env') Y) := by
  cases r with
  | ok x env' => exact fun H' e s => Run.mono s h fun _ _ _ _ _ y => y
  | exc x env' => exact h
  | bad => exact h
theorem tP_run {K : PySem.W.Frag} {W : WX} {f : P} {σ : L2.St} {H : Hp} {Q : VK} : tP K W f σ H Q ↔ ∃ env IO Fr, EnvOk K env IO Fr σ H ∧ Run K W IO Fr (Hd env σ Fr) H σ (f env) fun d env' H' => ∀ v, Rep K (hid H' (Hd env' σ Fr)) d v → Q v H' := by
  constructor
  · rintro ⟨env, IO, Fr, e, h⟩
    refine ⟨env, IO, Fr, e, ?_⟩
    cases hf : f env with
    | ok d env' => rw [hf] at h; exact fun H' e' s v r => h v H' e' r s
    | exc x env' => rw [hf] at h; exact h
    | bad => rw [hf] at h; exact h
  · rintro ⟨env, IO, Fr, e, h⟩
    refine ⟨env, IO, Fr, e, ?_⟩
    cases hf : f env with
    | ok d env' => rw [hf] at h; exact fun v H' e' r s => h H' e' s v r
    | exc x env' => rw [hf] at h; exact h
    | bad => rw [hf] at h; exact h
theorem tT_run {K : PySem.W.Frag} {W : WX} {f : List Sl → Res Bool} {σ : L2.St} {H : Hp} {Q : Bool → Hp → Prop} : tT K W f σ H Q ↔ ∃ env IO Fr, EnvOk K env IO Fr σ H ∧ Run K W IO Fr (Hd env σ Fr) H σ (f env) fun b _ H' => Q b H' := by
  constructor
  · rintro ⟨env, IO, Fr, e, h⟩
    refine ⟨env, IO, Fr, e, ?_⟩
    cases hf : f env with
    | ok d env' => rw [hf] at h; exact fun H' e' s => h H' e' s
    | exc x env' => rw [hf] at h; exact h
    | bad => rw [hf] at h; exact h
  · rintro ⟨env, IO, Fr, e, h⟩
    refine ⟨env, IO, Fr, e, ?_⟩
    cases hf : f env with
    | ok d env' => rw [hf] at h; exact fun H' e' s => h H' e' s
    | exc x env' => rw [hf] at h; exact h
    | bad => rw [hf] at h; exact h
/-- a value's end: an expression's result slot -/
def RunE (K : PySem.W.Frag) (W : WX) (IO : List (Option Addr)) (Fr : List Addr) (P0 : Addr → Prop) (H0 : Hp) (σ : L2.St) (r : Res Sl) (Q : VK) : Prop :=
  match r with
  | .ok s env' => ∀ v H', ResOk K s v env' IO Fr σ H' → Stp Fr P0 H0 (Hd env' σ (frOf s v Fr)) H' → Q v H'
  | .exc x env' => ∀ c a H', EnvOk K env' IO Fr σ H' → Stp Fr P0 H0 (Hd env' σ Fr) H' → ExcOk K (hid H' (Hd env' σ Fr)) x c a → W c a σ H'
  | .bad => False
theorem tE_run {K : PySem.W.Frag} {W : WX} {f : E} {σ : L2.St} {H : Hp} {Q : VK} : tE K W f σ H Q ↔ ∃ env IO Fr, EnvOk K env IO Fr σ H ∧ RunE K W IO Fr (Hd env σ Fr) H σ (f env) Q := by
  constructor
  · rintro ⟨env, IO, Fr, e, h⟩
    refine ⟨env, IO, Fr, e, ?_⟩
    cases hf : f env <;> (rw [hf] at h; exact h)
  · rintro ⟨env, IO, Fr, e, h⟩
    refine ⟨env, IO, Fr, e, ?_⟩
    cases hf : f env <;> (rw [hf] at h; exact h)
theorem RunE.split {K : PySem.W.Frag} {W : WX} {IO : List (Option Addr)} {Fr : List Addr} {P0 : Addr → Prop} {H0 : Hp} {σ : L2.St} {α : Type} {r : Res α} {f : α → List Sl → Res Sl} {Q : VK}
    (h : RunE K W IO Fr P0 H0 σ (r.bind f) Q) : Run K W IO Fr P0 H0 σ r (fun x env' H' => RunE K W IO Fr (Hd env' σ Fr) H' σ (f x env') Q) := by
  cases r with
  | ok x env' =>
    intro H' e s
    change RunE K W IO Fr P0 H0 σ (f x env') Q at h
    cases hf : f x env' with
    | ok s1 env2 => rw [hf] at h; exact fun v H2 r2 s2 => h v H2 r2 (Stp.trans ⟨s.same, s.fr⟩ s2)
    | exc x2 env2 => rw [hf] at h; exact fun c a H2 e2 s2 ec => h c a H2 e2 (s.trans s2) ec
    | bad => rw [hf] at h; exact h
  | exc x env' => exact h
  | bad => exact h

/-! ### a result shared, a shared value as a result -/
/-- shared from here on -/
def fz (f : E) : P := fun env => match f env with
  | .ok (.shr d) env' => .ok d env'
  | .ok (.own d) env' => .ok d env'
  | .ok _ _ => .bad
  | .exc x env' => .exc x env'
  | .bad => .bad
def sh (f : P) : E := fun env => (f env).bind fun d env' => .ok (.shr d) env'
section
variable {X : Cx} {W : WX} {e : Expr}
theorem c_fz {f : E} (h : PE X e (tE X.K W f)) : PE X e (tP X.K W (fz f)) := by
  refine PE.imp h fun σ H Q hw => ?_
  obtain ⟨env, IO, Fr, ok, hw⟩ := hw
  refine ⟨env, IO, Fr, ok, ?_⟩
  unfold fz at hw
  cases hf : f env with
  | ok s env' =>
    rw [hf] at hw
    intro v H' r st
    obtain ⟨d, hs, e', rp, st'⟩ := r.freeze
    rcases hs with rfl | rfl
    · exact hw v H' e' rp (st.trans ⟨st'.same, st'.fr⟩)
    · have st2 : Stp Fr (Hd env σ Fr) H (Hd env' σ (frOf (.own d) v Fr)) H' := st
      exact hw v H' e' rp ⟨fun b o h1 h2 => let ⟨g1, g2⟩ := st2.same b o h1 h2; st'.same b o g1 g2, st2.fr⟩
  | exc x env' => rw [hf] at hw; exact hw
  | bad => rw [hf] at hw; exact hw
theorem c_sh {f : P} (h : PE X e (tP X.K W f)) : PE X e (tE X.K W (sh f)) := by
  refine PE.imp h fun σ H Q hw => ?_
  obtain ⟨env, IO, Fr, ok, hw⟩ := hw
  refine ⟨env, IO, Fr, ok, ?_⟩
  unfold sh at hw
  cases hf : f env with
  | ok d env' => rw [hf] at hw; exact fun v H' e' r st => hw v H' ⟨e', r⟩ st
  | exc x env' => rw [hf] at hw; exact hw
  | bad => rw [hf] at hw; exact hw
end

/-! ### operands: a name (looked at where it stands), an expression -/
inductive A where
  | nm (i : Nat) | ex (f : P)
def pk (env : List Sl) (i : Nat) : Option D := match env[i]? with
  | some (.shr d) => some d
  | some (.own d) => some d
  | some (.io d) => some d
  | _ => none
def A.ev : A → List Sl → Res (Option D)
  | .nm i, env => (opt (pk env i) env).bind fun _ env => .ok none env
  | .ex f, env => (f env).bind fun d env' => .ok (some d) env'
def A.fin : A → Option D → List Sl → Option D
  | .nm i, _, env => pk env i
  | .ex _, o, _ => o
def tA (K : PySem.W.Frag) (W : WX) : A → TE
  | .nm i => tVar i
  | .ex f => tP K W f
/-- what an operand's value is known by, until it is used -/
def AV (K : PySem.W.Frag) (env : List Sl) (Fr : List Addr) (σ : L2.St) (H : Hp) (a : A) (o : Option D) (v : V) : Prop :=
  match a with
  | .nm i => σ[i]? = some (some v)
  | .ex _ => ∃ d, o = some d ∧ Rep K (hid H (Hd env σ Fr)) d v
/-- v stands for d: shared, or an owned object -/
def BRep (K : PySem.W.Frag) (env : List Sl) (Fr : List Addr) (σ : L2.St) (H : Hp) (d : D) (v : V) : Prop :=
  Rep K (hid H (Hd env σ Fr)) d v ∨ ∃ p o, v = .ref p ∧ H p = some o ∧ RepO K (hid H (Hd env σ Fr)) d o
section
variable {K : PySem.W.Frag} {W : WX} {env env' : List Sl} {IO : List (Option Addr)} {Fr : List Addr} {σ : L2.St} {H H' : Hp} {a b : A} {o : Option D} {v : V} {d : D} {i : Nat}
theorem AV.step (s : Stp Fr (Hd env σ Fr) H (Hd env' σ Fr) H') (h : AV K env Fr σ H a o v) : AV K env' Fr σ H' a o v := by
  cases a with
  | nm i => exact h
  | ex f =>
    obtain ⟨d, h1, h2⟩ := h
    exact ⟨d, h1, s.rep h2⟩
theorem EnvOk.pk (e : EnvOk K env IO Fr σ H) (h : pk env i = some d) : ∃ v, σ[i]? = some (some v) ∧ BRep K env Fr σ H d v := by
  unfold PL.pk at h
  split at h
  · cases h
    obtain ⟨v, h1, h2⟩ := e.shr _ _ (by assumption)
    exact ⟨v, h1, .inl h2⟩
  · cases h
    obtain ⟨p, o, h1, h2, h3, h4⟩ := e.own _ _ (.inl (by assumption))
    exact ⟨_, h1, .inr ⟨p, o, rfl, h3, h4⟩⟩
  · cases h
    obtain ⟨p, o, h1, h2, h3, h4⟩ := e.own _ _ (.inr (by assumption))
    exact ⟨_, h1, .inr ⟨p, o, rfl, h3, h4⟩⟩
  · cases h
theorem AV.fin (e : EnvOk K env IO Fr σ H) (h : AV K env Fr σ H a o v) (hf : a.fin o env = some d) : BRep K env Fr σ H d v := by
  cases a with
  | nm i =>
    obtain ⟨w, h1, h2⟩ := e.pk hf
    have h : σ[i]? = some (some v) := h
    rw [h] at h1
    cases h1
    exact h2
  | ex f =>
    obtain ⟨d', h1, h2⟩ := h
    have : o = some d := hf
    rw [this] at h1
    cases h1
    exact .inl h2
/-- an operand is read -/
theorem tA_of {Y : V → Hp → Prop} (e : EnvOk K env IO Fr σ H)
    (h : Run K W IO Fr (Hd env σ Fr) H σ (a.ev env) fun o env' H' => ∀ v, AV K env' Fr σ H' a o v → Y v H') : tA K W a σ H Y := by
  cases a with
  | nm i =>
    have h : Run K W IO Fr (Hd env σ Fr) H σ ((opt (PL.pk env i) env).bind fun _ env => .ok none env) _ := h
    cases hp : PL.pk env i with
    | none => rw [hp] at h; exact h.elim
    | some d =>
      rw [hp] at h
      obtain ⟨v, h1, h2⟩ := e.pk hp
      exact ⟨v, h1, h H e (Stp.refl _ _ _) v h1⟩
  | ex f =>
    have h : Run K W IO Fr (Hd env σ Fr) H σ ((f env).bind fun d env' => .ok (some d) env') _ := h
    refine tP_run.mpr ⟨env, IO, Fr, e, Run.mono (Stp.refl _ _ _) h.split fun d env' H' e' st y v r => ?_⟩
    exact y H' e' (Stp.refl _ _ _) v ⟨d, rfl, r⟩
end
/-- two operands in a row -/
def two (a b : A) (env : List Sl) : Res (D × D) := (a.ev env).bind fun oa e1 => (b.ev e1).bind fun ob e2 => opt (match a.fin oa e2, b.fin ob e2 with
  | some x, some y => some (x, y)
  | _, _ => none) e2
def one (a : A) (env : List Sl) : Res D := (a.ev env).bind fun oa e1 => opt (a.fin oa e1) e1
section
variable {K : PySem.W.Frag} {W : WX} {env : List Sl} {IO : List (Option Addr)} {Fr : List Addr} {σ : L2.St} {H : Hp} {a b : A}
theorem two_of {Y : V → V → Hp → Prop} (e : EnvOk K env IO Fr σ H)
    (h : Run K W IO Fr (Hd env σ Fr) H σ (two a b env) fun p env' H' => ∀ vx vy, EnvOk K env' IO Fr σ H' → BRep K env' Fr σ H' p.1 vx → BRep K env' Fr σ H' p.2 vy → Y vx vy H') :
    tA K W a σ H fun x H1 => tA K W b σ H1 fun y H2 => Y x y H2 := by
  unfold two at h
  refine tA_of e (Run.mono (Stp.refl _ _ _) h.split fun oa e1 H1 ok1 s1 h1 vx ax => ?_)
  refine tA_of ok1 (Run.mono (Stp.refl _ _ _) h1.split fun ob e2 H2 ok2 s2 h2 vy ay => ?_)
  have ax2 := ax.step s2
  cases hx : a.fin oa e2 with
  | none => rw [hx] at h2; exact h2.elim
  | some x =>
    cases hy : b.fin ob e2 with
    | none => rw [hx, hy] at h2; exact h2.elim
    | some y =>
      rw [hx, hy] at h2
      exact h2 H2 ok2 (Stp.refl _ _ _) vx vy ok2 (ax2.fin ok2 hx) (ay.fin ok2 hy)
theorem one_of {Y : V → Hp → Prop} (e : EnvOk K env IO Fr σ H)
    (h : Run K W IO Fr (Hd env σ Fr) H σ (one a env) fun x env' H' => ∀ vx, EnvOk K env' IO Fr σ H' → BRep K env' Fr σ H' x vx → Y vx H') :
    tA K W a σ H fun x H1 => Y x H1 := by
  unfold one at h
  refine tA_of e (Run.mono (Stp.refl _ _ _) h.split fun oa e1 H1 ok1 s1 h1 vx ax => ?_)
  cases hx : a.fin oa e1 with
  | none => rw [hx] at h1; exact h1.elim
  | some x =>
    rw [hx] at h1
    exact h1 H1 ok1 (Stp.refl _ _ _) vx ok1 (ax.fin ok1 hx)
end
def bin (op : D → D → Option D) (a b : A) : P := fun env => (two a b env).bind fun p e2 => opt (op p.1 p.2) e2
def binE (op : D → D → Option Sl) (a b : A) : E := fun env => (two a b env).bind fun p e2 => opt (op p.1 p.2) e2
def una (op : D → Option D) (a : A) : P := fun env => (one a env).bind fun x e1 => opt (op x) e1
def unaE (op : D → Option Sl) (a : A) : E := fun env => (one a env).bind fun x e1 => opt (op x) e1
/-- what a pure two-place rule must tell -/
def Bin (K : PySem.W.Frag) (r : R2) (op : D → D → Option D) : Prop := ∀ {env : List Sl} {IO : List (Option Addr)} {Fr : List Addr} {σ : L2.St} {H : Hp} {x y z : D} {vx vy : V} {Q : VK}, EnvOk K env IO Fr σ H → BRep K env Fr σ H x vx → BRep K env Fr σ H y vy →
  op x y = some z → (∀ v, Rep K (hid H (Hd env σ Fr)) z v → Q v H) → r vx vy H Q
def BinE (K : PySem.W.Frag) (r : R2) (op : D → D → Option Sl) : Prop := ∀ {env : List Sl} {IO : List (Option Addr)} {Fr : List Addr} {σ : L2.St} {H : Hp} {x y : D} {s : Sl} {vx vy : V} {Q : VK}, EnvOk K env IO Fr σ H → BRep K env Fr σ H x vx → BRep K env Fr σ H y vy →
  op x y = some s → (∀ v H', ResOk K s v env IO Fr σ H' → Stp Fr (Hd env σ Fr) H (Hd env σ (frOf s v Fr)) H' → Q v H') → r vx vy H Q
def Una (K : PySem.W.Frag) (r : V → Hp → VK → Prop) (op : D → Option D) : Prop := ∀ {env : List Sl} {IO : List (Option Addr)} {Fr : List Addr} {σ : L2.St} {H : Hp} {x z : D} {vx : V} {Q : VK}, EnvOk K env IO Fr σ H → BRep K env Fr σ H x vx →
  op x = some z → (∀ v, Rep K (hid H (Hd env σ Fr)) z v → Q v H) → r vx H Q
def UnaE (K : PySem.W.Frag) (r : V → Hp → VK → Prop) (op : D → Option Sl) : Prop := ∀ {env : List Sl} {IO : List (Option Addr)} {Fr : List Addr} {σ : L2.St} {H : Hp} {x : D} {s : Sl} {vx : V} {Q : VK}, EnvOk K env IO Fr σ H → BRep K env Fr σ H x vx →
  op x = some s → (∀ v H', ResOk K s v env IO Fr σ H' → Stp Fr (Hd env σ Fr) H (Hd env σ (frOf s v Fr)) H' → Q v H') → r vx H Q
section
variable {K : PySem.W.Frag} {W : WX} {a b : A} {σ : L2.St} {H : Hp} {Q : VK}
theorem bin_rd {r : R2} {op : D → D → Option D} (h : Bin K r op) (t : tP K W (bin op a b) σ H Q) : tOp r (tA K W a) (tA K W b) σ H Q := by
  obtain ⟨env, IO, Fr, e, t⟩ := tP_run.mp t
  refine two_of e (Run.mono (Stp.refl _ _ _) t.split fun p env' H' e' s' y vx vy _ bx by_ => ?_)
  cases ho : op p.1 p.2 with
  | none => rw [ho] at y; exact y.elim
  | some z => rw [ho] at y; exact h e' bx by_ ho (y H' e' (Stp.refl _ _ _))
theorem binE_rd {r : R2} {op : D → D → Option Sl} (h : BinE K r op) (t : tE K W (binE op a b) σ H Q) : tOp r (tA K W a) (tA K W b) σ H Q := by
  obtain ⟨env, IO, Fr, e, t⟩ := tE_run.mp t
  refine two_of e (Run.mono (Stp.refl _ _ _) t.split fun p env' H' e' s' y vx vy _ bx by_ => ?_)
  cases ho : op p.1 p.2 with
  | none => rw [ho] at y; exact y.elim
  | some z => rw [ho] at y; exact h e' bx by_ ho y
theorem una_rd {r : V → Hp → VK → Prop} {op : D → Option D} (h : Una K r op) (t : tP K W (una op a) σ H Q) : tUn r (tA K W a) σ H Q := by
  obtain ⟨env, IO, Fr, e, t⟩ := tP_run.mp t
  refine one_of e (Run.mono (Stp.refl _ _ _) t.split fun p env' H' e' s' y vx _ bx => ?_)
  cases ho : op p with
  | none => rw [ho] at y; exact y.elim
  | some z => rw [ho] at y; exact h e' bx ho (y H' e' (Stp.refl _ _ _))
theorem unaE_rd {r : V → Hp → VK → Prop} {op : D → Option Sl} (h : UnaE K r op) (t : tE K W (unaE op a) σ H Q) : tUn r (tA K W a) σ H Q := by
  obtain ⟨env, IO, Fr, e, t⟩ := tE_run.mp t
  refine one_of e (Run.mono (Stp.refl _ _ _) t.split fun p env' H' e' s' y vx _ bx => ?_)
  cases ho : op p with
  | none => rw [ho] at y; exact y.elim
  | some z => rw [ho] at y; exact h e' bx ho y
end
/-! ### what stands for scalars, lists .. -/
section
variable {K : PySem.W.Frag} {env : List Sl} {IO : List (Option Addr)} {Fr : List Addr} {σ : L2.St} {H : Hp} {v : V}
theorem BRep.int {i : Int} (h : BRep K env Fr σ H (.int i) v) : v = .int i := by
  rcases h with h | ⟨p, o, _, _, h⟩
  · exact h
  · exact h.elim
theorem BRep.bl {i : Bool} (h : BRep K env Fr σ H (.bl i) v) : v = .bl i := by
  rcases h with h | ⟨p, o, _, _, h⟩
  · exact h
  · exact h.elim
theorem BRep.str {i : Str} (h : BRep K env Fr σ H (.str i) v) : v = .str i := by
  rcases h with h | ⟨p, o, _, _, h⟩
  · exact h
  · exact h.elim
theorem BRep.non (h : BRep K env Fr σ H .non v) : v = .non := by
  rcases h with h | ⟨p, o, _, _, h⟩
  · exact h
  · exact h.elim
theorem BRep.obj {x : Str} (h : BRep K env Fr σ H (.obj x) v) : v = .ref (He.ga K x) := by
  rcases h with h | ⟨p, o, _, _, h⟩
  · exact h
  · exact h.elim
theorem BRep.lst {ds : List D} (h : BRep K env Fr σ H (.lst ds) v) : ∃ a vs, v = .ref a ∧ H a = some (.lst vs) ∧ RepL K (hid H (Hd env σ Fr)) ds vs := by
  rcases h with ⟨a, vs, h1, h2, h3⟩ | ⟨p, o, h0, h1, ⟨vs, h2, h3⟩⟩
  · exact ⟨a, vs, h1, (hid_some.mp h2).2, h3⟩
  · exact ⟨p, vs, h0, h2 ▸ h1, h3⟩
theorem BRep.scr {ns : List Int} (h : BRep K env Fr σ H (.scr ns) v) : ∃ a, v = .ref a ∧ SqL K H a (ns.map V.int) := by
  rcases h with ⟨a, h1, h2⟩ | ⟨p, o, h0, h1, h2⟩
  · exact ⟨a, h1, same_hid_self.seq h2⟩
  · exact h2.elim
theorem BRep.tup {ds : List D} (h : BRep K env Fr σ H (.tup ds) v) : ∃ a vs, v = .ref a ∧ SqT K H a vs ∧ RepL K (hid H (Hd env σ Fr)) ds vs := by
  rcases h with ⟨a, vs, h1, h2, h3⟩ | ⟨p, o, h0, h1, h2⟩
  · exact ⟨a, vs, h1, Same.sqt same_hid_self h2, h3⟩
  · exact h2.elim
theorem BRep.ins {c : Str} {ns : List Str} {ds : List D} (h : BRep K env Fr σ H (.ins c ns ds) v) : ∃ a dx vs, v = .ref a ∧ H a = some (.ins (He.ga K c) dx (ns.zip vs)) ∧ ns.length = vs.length ∧ RepL K (hid H (Hd env σ Fr)) ds vs := by
  rcases h with ⟨a, dx, vs, h1, h2, h3, h4⟩ | ⟨p, o, h0, h1, ⟨dx, vs, h2, h3, h4⟩⟩
  · exact ⟨a, dx, vs, h1, (hid_some.mp h2).2, h3, h4⟩
  · exact ⟨p, dx, vs, h0, h2 ▸ h1, h3, h4⟩
theorem BRep.dic {ks : List Key} {ds : List D} (h : BRep K env Fr σ H (.dic ks ds) v) : ∃ a vs, v = .ref a ∧ H a = some (.dK (ks.zip vs)) ∧ (ks.length = vs.length ∧ ks.Nodup) ∧ RepL K (hid H (Hd env σ Fr)) ds vs := by
  rcases h with ⟨a, vs, h1, h2, h3, h4⟩ | ⟨p, o, h0, h1, ⟨vs, h2, h3, h4⟩⟩
  · exact ⟨a, vs, h1, (hid_some.mp h2).2, h3, h4⟩
  · exact ⟨p, vs, h0, h2 ▸ h1, h3, h4⟩
end
end PL

/-! Pl3: expressions: names, constants, operators, comparisons, tests, displays, subscripts. -/
namespace PL
open PySem L2

/-! ### names, constants -/
/-- a name given out: what was its own is shared from here on -/
def vr (i : Nat) : P := fun env => match env[i]? with
  | some (.shr d) => .ok d env
  | some (.own d) => .ok d (env.set i (.shr d))
  | _ => .bad
/-- a name moved: its datum goes to the result, the slot is unset -/
def cst (d : D) : P := fun env => .ok d env
section
variable {X : Cx} {W : WX} {pos : Pos} {x : Str}
theorem c_nm (i : Nat) (hN : X.N[i]? = some x := by rfl) (hv : Vis X.env.scope x := by first | exact Or.inl rfl | exact Or.inr (Or.inl rfl) | exact Or.inr (Or.inr rfl)) (hd : (x == ("__debug__" : Str)) = false := by decide)
    (hcd : (x == ("__classdict__" : Str)) = false := by decide) : PE X (.Name x pos) (tA X.K W (.nm i)) := pe_var hN hv hd hcd
theorem c_vr (i : Nat) (hN : X.N[i]? = some x := by rfl) (hv : Vis X.env.scope x := by first | exact Or.inl rfl | exact Or.inr (Or.inl rfl) | exact Or.inr (Or.inr rfl)) (hd : (x == ("__debug__" : Str)) = false := by decide)
    (hcd : (x == ("__classdict__" : Str)) = false := by decide) : PE X (.Name x pos) (tP X.K W (vr i)) := by
  refine PE.imp (pe_var hN hv hd hcd) fun σ H Q hw => ?_
  obtain ⟨env, IO, Fr, e, hw⟩ := hw
  cases he : env[i]? with
  | none => simp only [vr, he] at hw
  | some s =>
    cases s with
    | no => simp only [vr, he] at hw
    | io d => simp only [vr, he] at hw
    | shr d =>
      simp only [vr, he] at hw
      obtain ⟨v, h1, h2⟩ := e.shr i _ he
      exact ⟨v, h1, hw v H e h2 (Stp.refl _ _ _)⟩
    | own d =>
      simp only [vr, he] at hw
      obtain ⟨p, o, h1, h2, h3, h4⟩ := e.own i _ (.inl he)
      obtain ⟨e', st⟩ := e.frz he
      have hi : i < env.length := (List.getElem?_eq_some_iff.mp he).1
      obtain ⟨v, g1, g2⟩ := e'.shr i d (List.getElem?_set_self hi)
      exact ⟨v, g1, hw v H e' g2 st⟩
theorem c_cst {e : Expr} {d : D} {v : V} (h : PE X e (tC v)) (r : ∀ H, Rep X.K H d v) : PE X e (tP X.K W (cst d)) := by
  refine PE.imp h fun σ H Q hw => ?_
  obtain ⟨env, IO, Fr, ok, hw⟩ := hw
  exact hw v H ok (r _) (Stp.refl _ _ _)
theorem c_int {i : Int} {j} : PE X (.Constant (.int i) j pos) (tP X.K W (cst (.int i))) := c_cst pe_int fun _ => rfl
theorem c_bl {i : Bool} {j} : PE X (.Constant (.bool i) j pos) (tP X.K W (cst (.bl i))) := c_cst pe_bl fun _ => rfl
theorem c_str {i : Str} {j} : PE X (.Constant (.str i) j pos) (tP X.K W (cst (.str i))) := c_cst pe_str fun _ => rfl
theorem c_non {j} : PE X (.Constant .none j pos) (tP X.K W (cst .non)) := c_cst pe_non fun _ => rfl
theorem c_gint {i : Int} (hg : Gl X x) (hm : ∃ t, X.mg x = some (.int i t)) (hd : (x == ("__debug__" : Str)) = false := by decide) : PE X (.Name x pos) (tP X.K W (cst (.int i))) := by
  obtain ⟨t, hm⟩ := hm
  exact c_cst (pe_glob (v := .int i) hg hm ⟨t, rfl⟩ hd) fun _ => rfl
theorem c_gstr {i : Str} (hg : Gl X x) (hm : ∃ t, X.mg x = some (.str i t)) (hd : (x == ("__debug__" : Str)) = false := by decide) : PE X (.Name x pos) (tP X.K W (cst (.str i))) := by
  obtain ⟨t, hm⟩ := hm
  exact c_cst (pe_glob (v := .str i) hg hm ⟨t, rfl⟩ hd) fun _ => rfl
theorem c_gobj {y : Str} (hg : Gl X x) (hm : X.mg x = some (.ref (He.ga X.K y))) (hd : (x == ("__debug__" : Str)) = false := by decide) : PE X (.Name x pos) (tP X.K W (cst (.obj y))) :=
  c_cst (pe_glob (v := .ref (He.ga X.K y)) hg hm rfl hd) fun _ => rfl
end
/-- an operand that is an expression -/
theorem c_x {X : Cx} {W : WX} {e : Expr} {f : P} (h : PE X e (tP X.K W f)) : PE X e (tA X.K W (.ex f)) := h

/-! ### operators -/
def mulOk (i j : Int) : Bool := decide (i.natAbs < 18446744073709551616) || decide (j.natAbs < 18446744073709551616) || decide (i.natAbs.log2 + j.natAbs.log2 < 1000000)
def addD : D → D → Option Sl
  | .int i, .int j => some (.shr (.int (i + j)))
  | .str x, .str y => if x.length + y.length ≤ 16777216 then some (.shr (.str (x ++ y))) else none
  | .lst xs, .lst ys => if xs.length + ys.length ≤ 16777216 then some (.own (.lst (xs ++ ys))) else none
  | .tup (x :: xs), .tup ys => if (x :: xs).length + ys.length ≤ 16777216 then some (.shr (.tup (x :: xs ++ ys))) else none
  | _, _ => none
def subI : D → D → Option D
  | .int i, .int j => some (.int (i - j))
  | _, _ => none
def addI : D → D → Option D
  | .int i, .int j => some (.int (i + j))
  | _, _ => none
def mulI : D → D → Option D
  | .int i, .int j => if mulOk i j then some (.int (i * j)) else none
  | _, _ => none
def fdivI : D → D → Option D
  | .int i, .int j => if 0 < j ∧ j.natAbs < 1073741824 then some (.int (i / j)) else none
  | _, _ => none
def modI : D → D → Option D
  | .int i, .int j => if 0 < j then some (.int (i % j)) else none
  | _, _ => none
def powI : D → D → Option D
  | .int i, .int j => if 0 ≤ j ∧ j ≤ 1000000 ∧ i.natAbs < 2 ^ 64 then some (.int (i ^ j.toNat)) else none
  | _, _ => none
def negI : D → Option D
  | .int i => some (.int (-i))
  | _ => none
section
variable {X : Cx} {W : WX} {a b : Expr} {o1 o2 : PL.A} {pos : Pos}
theorem c_bin {op : Operator} {r : R2} {f : D → D → Option D} (ho : OpR X (binaryOp op) r) (hb : Bin X.K r f) (ha : PE X a (tA X.K W o1)) (hb' : PE X b (tA X.K W o2)) : PE X (.BinOp a op b pos) (tP X.K W (bin f o1 o2)) :=
  PE.imp (pe_op ho ha hb') fun _ _ _ h => bin_rd hb h
theorem c_binE {op : Operator} {r : R2} {f : D → D → Option Sl} (ho : OpR X (binaryOp op) r) (hb : BinE X.K r f) (ha : PE X a (tA X.K W o1)) (hb' : PE X b (tA X.K W o2)) : PE X (.BinOp a op b pos) (tE X.K W (binE f o1 o2)) :=
  PE.imp (pe_op ho ha hb') fun _ _ _ h => binE_rd hb h
theorem bin_ints {K : PySem.W.Frag} {C : Int → Int → Prop} {c : Int → Int → Bool} {g : Int → Int → Int} {f : D → D → Option D} (hc : ∀ i j, c i j = true → C i j) (hf : ∀ x y z, f x y = some z → ∃ i j, x = .int i ∧ y = .int j ∧ c i j = true ∧ z = .int (g i j)) :
    Bin K (rI C fun i j => .int (g i j)) f := fun e bx by_ h k => by
  obtain ⟨i, j, rfl, rfl, h1, rfl⟩ := hf _ _ _ h
  exact ⟨i, j, bx.int, by_.int, hc i j h1, k _ rfl⟩
theorem bin_ints0 {K : PySem.W.Frag} {g : Int → Int → Int} {f : D → D → Option D} (hf : ∀ x y z, f x y = some z → ∃ i j, x = .int i ∧ y = .int j ∧ z = .int (g i j)) :
    Bin K (rI0 fun i j => .int (g i j)) f := fun e bx by_ h k => by
  obtain ⟨i, j, rfl, rfl, rfl⟩ := hf _ _ _ h
  exact ⟨i, j, bx.int, by_.int, k _ rfl⟩
theorem subI_inv : ∀ x y z, subI x y = some z → ∃ i j, x = .int i ∧ y = .int j ∧ z = .int (i - j) := fun x y z h => by
  unfold subI at h
  split at h
  · cases h; exact ⟨_, _, rfl, rfl, rfl⟩
  · cases h
theorem addI_inv : ∀ x y z, addI x y = some z → ∃ i j, x = .int i ∧ y = .int j ∧ z = .int (i + j) := fun x y z h => by
  unfold addI at h
  split at h
  · cases h; exact ⟨_, _, rfl, rfl, rfl⟩
  · cases h
theorem mulOk_or {i j : Int} (h : mulOk i j = true) : CMul i j ∨ CMulW i j := by
  unfold mulOk at h
  simp only [Bool.or_eq_true, decide_eq_true_eq] at h
  rcases h with (h | h) | h
  · exact .inl (.inl ⟨by omega, by omega⟩)
  · exact .inl (.inr ⟨by omega, by omega⟩)
  · exact .inr h
theorem c_addI (ha : PE X a (tA X.K W o1)) (hb : PE X b (tA X.K W o2)) : PE X (.BinOp a .Add b pos) (tP X.K W (bin addI o1 o2)) := c_bin op_add (bin_ints0 addI_inv) ha hb
theorem c_sub (ha : PE X a (tA X.K W o1)) (hb : PE X b (tA X.K W o2)) : PE X (.BinOp a .Sub b pos) (tP X.K W (bin subI o1 o2)) := c_bin op_sub (bin_ints0 subI_inv) ha hb
theorem c_mul (ha : PE X a (tA X.K W o1)) (hb : PE X b (tA X.K W o2)) : PE X (.BinOp a .Mult b pos) (tP X.K W (bin mulI o1 o2)) :=
  c_bin (OpR.or op_mul op_mulW) (fun e bx by_ h k => by
    unfold mulI at h
    split at h
    · split at h
      · rename_i i j hm
        cases h
        rcases mulOk_or hm with h1 | h1
        · exact .inl ⟨_, _, bx.int, by_.int, h1, k _ rfl⟩
        · exact .inr ⟨_, _, bx.int, by_.int, h1, k _ rfl⟩
      · cases h
    · cases h) ha hb
theorem c_fdiv (ha : PE X a (tA X.K W o1)) (hb : PE X b (tA X.K W o2)) : PE X (.BinOp a .FloorDiv b pos) (tP X.K W (bin fdivI o1 o2)) :=
  c_bin op_fdiv (fun e bx by_ h k => by
    unfold fdivI at h
    split at h
    · split at h
      · rename_i i j hm
        cases h
        exact ⟨_, _, bx.int, by_.int, ⟨hm.1, by omega⟩, k _ rfl⟩
      · cases h
    · cases h) ha hb
theorem c_mod (ha : PE X a (tA X.K W o1)) (hb : PE X b (tA X.K W o2)) : PE X (.BinOp a .Mod b pos) (tP X.K W (bin modI o1 o2)) :=
  c_bin op_mod (fun e bx by_ h k => by
    unfold modI at h
    split at h
    · split at h
      · rename_i i j hm
        cases h
        exact ⟨_, _, bx.int, by_.int, hm, k _ rfl⟩
      · cases h
    · cases h) ha hb
theorem c_pow (ha : PE X a (tA X.K W o1)) (hb : PE X b (tA X.K W o2)) : PE X (.BinOp a .Pow b pos) (tP X.K W (bin powI o1 o2)) :=
  c_bin op_pow (fun e bx by_ h k => by
    unfold powI at h
    split at h
    · split at h
      · rename_i i j hm
        cases h
        exact ⟨_, _, bx.int, by_.int, hm, k _ rfl⟩
      · cases h
    · cases h) ha hb
theorem c_neg (ha : PE X a (tA X.K W o1)) : PE X (.UnaryOp .USub a pos) (tP X.K W (una negI o1)) :=
  PE.imp (pe_un un_neg ha) fun _ _ _ h => una_rd (fun e bx h k => by
    unfold negI at h
    split at h
    · cases h; exact ⟨_, bx.int, k _ rfl⟩
    · cases h) h
/-- + of ints, texts, lists, tuples -/
theorem c_add (ha : PE X a (tA X.K W o1)) (hb : PE X b (tA X.K W o2)) : PE X (.BinOp a .Add b pos) (tE X.K W (binE addD o1 o2)) :=
  c_binE (OpR.or op_add (OpR.or op_add_str (OpR.or op_cat op_catT))) (fun {env IO Fr σ H x y s vx vy Q} e bx by_ h k => by
    unfold addD at h
    split at h
    · cases h
      exact .inl ⟨_, _, bx.int, by_.int, k _ _ ⟨e, rfl⟩ (Stp.refl _ _ _)⟩
    · split at h
      · rename_i x y hl
        cases h
        exact .inr (.inl ⟨_, _, bx.str, by_.str, hl, k _ _ ⟨e, rfl⟩ (Stp.refl _ _ _)⟩)
      · cases h
    · split at h
      · rename_i xs ys hl
        cases h
        obtain ⟨a1, vs, rfl, h1, r1⟩ := bx.lst
        obtain ⟨a2, ws, rfl, h2, r2⟩ := by_.lst
        refine .inr (.inr (.inl ⟨_, _, _, _, rfl, rfl, h1, h2, by rw [← r1.len, ← r2.len]; exact hl, fun p hp => ?_⟩))
        obtain ⟨ro, st⟩ := e.new (d := .lst (xs ++ ys)) hp ⟨_, rfl, RepL.snoc r1 r2⟩
        exact k _ _ ro st
      · cases h
    · split at h
      · rename_i x xs ys hl
        cases h
        obtain ⟨a1, vs, rfl, h1, r1⟩ := bx.tup
        obtain ⟨a2, ws, rfl, h2, r2⟩ := by_.tup
        have l1 := r1.len
        have l2 := r2.len
        have ne : vs ≠ [] := by rintro rfl; simp at l1
        refine .inr (.inr (.inr ⟨_, _, _, _, rfl, rfl, h1, h2, ne, by rw [← l1, ← l2]; exact hl, fun hy => ?_, fun hy p hp => ?_⟩))
        · subst hy
          have : ys = [] := by cases ys with | nil => rfl | cons _ _ => simp at l2
          subst this
          refine k _ _ ⟨e, ?_⟩ (Stp.refl _ _ _)
          rcases bx with bx | ⟨_, _, _, _, bx⟩
          · simpa using bx
          · exact bx.elim
        · have sm := same_upd (o := .tup (vs ++ ws)) hp
          refine k _ _ ⟨e.grow sm, ?_⟩ (e.stp sm)
          exact ⟨p, _, rfl, .inl (.inl (hid_some.mpr ⟨e.fresh hp, upd_same⟩)), RepL.mono (same_hid.mpr fun b u z1 z2 => ⟨z1, sm b u z2⟩) (RepL.snoc r1 r2)⟩
      · cases h
    · cases h) ha hb

/-! ### comparisons -/
/-- == of data: what CPython's == tells of none, bools, ints, texts, lists, tuples -/
def toPy : D → PyData
  | .non => .none
  | .bl b => .bool b
  | .int i => .int i
  | .str x => .str x
  | .lst xs => .list (xs.map toPy)
  | .tup xs => .tuple (xs.map toPy)
  | _ => .none
mutual
def eqAble : D → Bool
  | .non => true
  | .bl _ => true
  | .int _ => true
  | .str _ => true
  | .lst xs => eqAbles xs
  | .tup xs => eqAbles xs
  | _ => false
def eqAbles : List D → Bool
  | [] => true
  | x :: xs => eqAble x && eqAbles xs
end
def eqq (x y : D) : Option Bool := if eqAble x && eqAble y && (SeqAt.shaped (toPy x) && SeqAt.shaped (toPy y)) then some (PyData.eqv (toPy x) (toPy y)) else none
mutual
theorem dp_of {K : PySem.W.Frag} {H : Hp} : ∀ {d : D} {v : V}, eqAble d = true → Rep K H d v → Dp K H v (toPy d)
  | .non, _, _, h => by cases h; rw [toPy]; exact .non
  | .bl b, _, _, h => by cases h; rw [toPy]; exact .bl b
  | .int i, _, _, h => by cases h; rw [toPy]; exact .int i
  | .str x, _, _, h => by cases h; rw [toPy]; exact .str x
  | .lst xs, _, f, ⟨a, vs, h1, h2, h3⟩ => by
    subst h1
    rw [toPy]
    exact .lst (.inl (.inl h2)) (dps_of (by simpa [eqAble] using f) h3)
  | .tup xs, _, f, ⟨a, vs, h1, h2, h3⟩ => by
    subst h1
    rw [toPy]
    exact .tup h2 (dps_of (by simpa [eqAble] using f) h3)
  | .ins _ _ _, _, f, _ => by simp [eqAble] at f
  | .dic _ _, _, f, _ => by simp [eqAble] at f
  | .obj _, _, f, _ => by simp [eqAble] at f
  | .scr _, _, f, _ => by simp [eqAble] at f
theorem dps_of {K : PySem.W.Frag} {H : Hp} : ∀ {ds : List D} {vs : List V}, eqAbles ds = true → RepL K H ds vs → DpAll K H vs (ds.map toPy)
  | [], _, _, h => by cases h; exact .nil
  | d :: ds, _, f, ⟨v, r, h1, h2, h3⟩ => by
    subst h1
    rw [eqAbles, Bool.and_eq_true] at f
    exact .cons (dp_of f.1 h2) (dps_of f.2 h3)
end
theorem BRep.rep {K : PySem.W.Frag} {env : List Sl} {Fr : List Addr} {σ : L2.St} {H : Hp} {d : D} {v : V} (h : BRep K env Fr σ H d v) : Rep K H d v := by
  rcases h with h | ⟨p, o, rfl, h1, h2⟩
  · exact Rep.mono same_hid_self h
  · exact RepO.rep same_hid_self h2 h1
def eqD (x y : D) : Option D := (eqq x y).map .bl
def neD (x y : D) : Option D := (eqq x y).map fun b => .bl (!b)
theorem c_cmp {op : CmpOp} {r : R2} {f : D → D → Option D} (ho : OpR X (compareOp op) r) (hb : Bin X.K r f) (hm : behindInMarks op b = false) (ha : PE X a (tA X.K W o1)) (hb' : PE X b (tA X.K W o2)) : PE X (.Compare a [op] [b] pos) (tP X.K W (bin f o1 o2)) :=
  PE.imp (pe_cmpR ho ha hb' hm) fun _ _ _ h => bin_rd hb h
theorem bin_eqD {K : PySem.W.Frag} : Bin K (rEqD K) eqD := fun e bx by_ h k => by
  unfold eqD eqq at h
  split at h
  · rename_i hc
    simp only [Bool.and_eq_true] at hc
    cases h
    exact ⟨_, _, dp_of hc.1.1 bx.rep, dp_of hc.1.2 by_.rep, hc.2.1, hc.2.2, k _ rfl⟩
  · cases h
theorem bin_neD {K : PySem.W.Frag} : Bin K (rNeD K) neD := fun e bx by_ h k => by
  unfold neD eqq at h
  split at h
  · rename_i hc
    simp only [Bool.and_eq_true] at hc
    cases h
    exact ⟨_, _, dp_of hc.1.1 bx.rep, dp_of hc.1.2 by_.rep, hc.2.1, hc.2.2, k _ rfl⟩
  · cases h
def ltD : D → D → Option D
  | .int i, .int j => some (.bl (decide (i < j)))
  | _, _ => none
def leD : D → D → Option D
  | .int i, .int j => some (.bl (decide (i ≤ j)))
  | _, _ => none
def gtD : D → D → Option D
  | .int i, .int j => some (.bl (decide (j < i)))
  | _, _ => none
def geD : D → D → Option D
  | .int i, .int j => some (.bl (decide (j ≤ i)))
  | _, _ => none
def isNonD : D → Bool
  | .non => true
  | _ => false
def isN : D → D → Option D
  | x, .non => some (.bl (isNonD x))
  | _, _ => none
def isnN : D → D → Option D
  | x, .non => some (.bl (!isNonD x))
  | _, _ => none
theorem isNon_iff {K : PySem.W.Frag} {H : Hp} : ∀ {d : D} {v : V}, Rep K H d v → decide (v = .non) = isNonD d
  | .non, _, h => by cases h; rfl
  | .bl _, _, h => by cases h; rfl
  | .int _, _, h => by cases h; rfl
  | .str _, _, h => by cases h; rfl
  | .lst _, _, ⟨a, _, h, _⟩ => by subst h; rfl
  | .tup _, _, ⟨a, _, h, _⟩ => by subst h; rfl
  | .ins _ _ _, _, ⟨a, _, _, h, _⟩ => by subst h; rfl
  | .dic _ _, _, ⟨a, _, h, _⟩ => by subst h; rfl
  | .obj _, _, h => by cases h; rfl
  | .scr _, _, ⟨a, h, _⟩ => by subst h; rfl
theorem bin_cmpI {K : PySem.W.Frag} {g : Int → Int → Bool} {f : D → D → Option D} (hf : ∀ x y z, f x y = some z → ∃ i j, x = .int i ∧ y = .int j ∧ z = .bl (g i j)) : Bin K (rI0 fun i j => .bl (g i j)) f := fun e bx by_ h k => by
  obtain ⟨i, j, rfl, rfl, rfl⟩ := hf _ _ _ h
  exact ⟨i, j, bx.int, by_.int, k _ rfl⟩
theorem bin_lt {K : PySem.W.Frag} : Bin K (rI0 fun i j => .bl (decide (i < j))) ltD := bin_cmpI fun x y z h => by
  unfold ltD at h; split at h
  · cases h; exact ⟨_, _, rfl, rfl, rfl⟩
  · cases h
theorem bin_le {K : PySem.W.Frag} : Bin K (rI0 fun i j => .bl (decide (i ≤ j))) leD := bin_cmpI fun x y z h => by
  unfold leD at h; split at h
  · cases h; exact ⟨_, _, rfl, rfl, rfl⟩
  · cases h
theorem bin_gt {K : PySem.W.Frag} : Bin K (rI0 fun i j => .bl (decide (j < i))) gtD := bin_cmpI fun x y z h => by
  unfold gtD at h; split at h
  · cases h; exact ⟨_, _, rfl, rfl, rfl⟩
  · cases h
theorem bin_ge {K : PySem.W.Frag} : Bin K (rI0 fun i j => .bl (decide (j ≤ i))) geD := bin_cmpI fun x y z h => by
  unfold geD at h; split at h
  · cases h; exact ⟨_, _, rfl, rfl, rfl⟩
  · cases h
theorem bin_isN {K : PySem.W.Frag} : Bin K (fun x y H Q => y = .non ∧ Q (.bl (decide (x = .non))) H) isN := fun e bx by_ h k => by
  unfold isN at h; split at h
  · cases h; exact ⟨by_.non, k _ (by rw [isNon_iff bx.rep]; rfl)⟩
  · cases h
theorem bin_isnN {K : PySem.W.Frag} : Bin K (fun x y H Q => y = .non ∧ Q (.bl (!decide (x = .non))) H) isnN := fun e bx by_ h k => by
  unfold isnN at h; split at h
  · cases h; exact ⟨by_.non, k _ (by rw [isNon_iff bx.rep]; rfl)⟩
  · cases h
/-- a test that is a comparison -/
def tst (f : P) : List Sl → Res Bool := fun env => (f env).bind fun d e => match d with
  | .bl k => .ok k e
  | _ => .bad
theorem tst_rd {K : PySem.W.Frag} {t : TE} {f : P} (h : ∀ σ H Q, tP K W f σ H Q → t σ H Q) : ∀ σ H Q, tT K W (tst f) σ H Q → tTest t σ H Q := fun σ H Q w => by
  obtain ⟨env, IO, Fr, e, w⟩ := tT_run.mp w
  refine h σ H _ (tP_run.mpr ⟨env, IO, Fr, e, Run.mono (Stp.refl _ _ _) w.split fun d env' H' e' st y v r => ?_⟩)
  cases d with
  | bl k => cases r; exact ⟨k, rfl, y H' e' (Stp.refl _ _ _)⟩
  | _ => exact y.elim
theorem c_tcmp {op : CmpOp} {r : R2} {f : D → D → Option D} (ho : OpR X (compareOp op) r) (hb : Bin X.K r f) (hm : behindInMarks op b = false) (ha : PE X a (tA X.K W o1)) (hb' : PE X b (tA X.K W o2)) : PT X (.Compare a [op] [b] pos) (tT X.K W (tst (bin f o1 o2))) :=
  PT.imp (pt_cmpR ho ha hb' hm) (tst_rd fun _ _ _ h => bin_rd hb h)
end
end PL

/-! Pl4: tests, conditional expressions, chains, argument lists, displays, fields, subscripts, slices, built-in calls. -/
namespace PL
open PySem L2

/-! ### tests -/
abbrev T := List Sl → Res Bool
def andT (f g : T) : T := fun env => (f env).bind fun b e => if b then g e else .ok false e
def orT (f g : T) : T := fun env => (f env).bind fun b e => if b then .ok true e else g e
def notT (f : T) : T := fun env => (f env).bind fun b e => .ok (!b) e
/-- a value's truth -/
def tru : D → Option Bool
  | .non => some false
  | .bl b => some b
  | .int i => some (i != 0)
  | .str x => if x.length ≤ 16777216 then some ((x.length : Int) != 0) else none
  | .lst xs => some (!xs.isEmpty)
  | .tup xs => some (!xs.isEmpty)
  | _ => none
def truT (a : PL.A) : T := fun env => (one a env).bind fun d e => opt (tru d) e
/-- a value as a test, its value known to be a bool -/
def bl? : D → Option Bool
  | .bl b => some b
  | _ => none
theorem isEmpty_rep {K : PySem.W.Frag} {H : Hp} {ds : List D} {vs : List V} (r : RepL K H ds vs) : vs.isEmpty = ds.isEmpty := by
  have := r.len
  cases ds <;> cases vs <;> simp_all
section
variable {X : Cx} {W : WX} {a b c : Expr} {rest : List Expr} {o1 o2 o3 : PL.A} {f g h : T} {pos : Pos}
theorem c_and1 (ha : PT X a (tT X.K W f)) : PW X (.BoolOp .And [a] pos) (tT X.K W f) := pw_and1 ha
theorem c_or1 (ha : PT X a (tT X.K W f)) : PW X (.BoolOp .Or [a] pos) (tT X.K W f) := pw_or1 ha
theorem c_and (ha : PT X a (tT X.K W f)) (hb : PW X (.BoolOp .And (b :: rest) pos) (tT X.K W g)) : PW X (.BoolOp .And (a :: b :: rest) pos) (tT X.K W (andT f g)) :=
  PW.imp (pw_and ha hb) fun σ H Q w => by
    obtain ⟨env, IO, Fr, e, w⟩ := tT_run.mp w
    refine tT_run.mpr ⟨env, IO, Fr, e, Run.mono (Stp.refl _ _ _) w.split fun k env' H' e' st y => ?_⟩
    cases k with
    | true => exact tT_run.mpr ⟨env', IO, Fr, e', y⟩
    | false => exact y H' e' (Stp.refl _ _ _)
theorem c_or (ha : PT X a (tT X.K W f)) (hb : PW X (.BoolOp .Or (b :: rest) pos) (tT X.K W g)) : PW X (.BoolOp .Or (a :: b :: rest) pos) (tT X.K W (orT f g)) :=
  PW.imp (pw_or ha hb) fun σ H Q w => by
    obtain ⟨env, IO, Fr, e, w⟩ := tT_run.mp w
    refine tT_run.mpr ⟨env, IO, Fr, e, Run.mono (Stp.refl _ _ _) w.split fun k env' H' e' st y => ?_⟩
    cases k with
    | true => exact y H' e' (Stp.refl _ _ _)
    | false => exact tT_run.mpr ⟨env', IO, Fr, e', y⟩
theorem c_not (ha : PT X a (tT X.K W f)) : PT X (.UnaryOp .Not a pos) (tT X.K W (notT f)) :=
  PT.imp (pt_not ha) fun σ H Q w => by
    obtain ⟨env, IO, Fr, e, w⟩ := tT_run.mp w
    exact tT_run.mpr ⟨env, IO, Fr, e, Run.mono (Stp.refl _ _ _) w.split fun k env' H' e' st y => y H' e' (Stp.refl _ _ _)⟩
theorem tru_ok' {K : PySem.W.Frag} {env : List Sl} {IO : List (Option Addr)} {Fr : List Addr} {σ : L2.St} {H : Hp} {d : D} {v : V} {k : Bool} (h : BRep K env Fr σ H d v) (t : tru d = some k) : TruV K v H k := by
  cases d with
  | non => cases h.non; cases t; rfl
  | bl i => cases h.bl; cases t; rfl
  | int i => cases h.int; cases t; rfl
  | str x =>
    cases h.str
    simp only [tru] at t
    split at t
    · cases t; exact ⟨by assumption, rfl⟩
    · cases t
  | lst xs =>
    obtain ⟨p, vs, rfl, h1, r⟩ := h.lst
    cases t
    exact .inl ⟨vs, .of h1, by rw [isEmpty_rep r]⟩
  | tup xs =>
    obtain ⟨p, vs, rfl, h1, r⟩ := h.tup
    cases t
    exact .inr (.inl ⟨vs, h1, by rw [isEmpty_rep r]⟩)
  | ins _ _ _ => cases t
  | dic _ _ => cases t
  | obj _ => cases t
  | scr _ => cases t
/-- any expression whose test is its value's truth -/
theorem c_tru (ha : PE X a (tA X.K W o1)) (he : ∀ whole, isTrue a X.env whole = (do let v ← whole; standAt a.pos; holding [v] (truthy v)) := by intro _; rfl) : PT X a (tT X.K W (truT o1)) :=
  PT.imp (pt_truth ha he) fun σ H Q w => by
    obtain ⟨env, IO, Fr, e, w⟩ := tT_run.mp w
    refine one_of e (Run.mono (Stp.refl _ _ _) w.split fun d env' H' e' st y v _ bx => ?_)
    cases ht : tru d with
    | none => rw [ht] at y; exact y.elim
    | some k => rw [ht] at y; exact ⟨k, tru_ok' (IO := IO) bx ht, y H' e' (Stp.refl _ _ _)⟩
/-- a test as a value: and, or, not of bools -/
def andP (f g : P) : P := fun env => (f env).bind fun d e => match d with
  | .bl true => g e
  | .bl false => .ok (.bl false) e
  | _ => .bad
def orP (f g : P) : P := fun env => (f env).bind fun d e => match d with
  | .bl true => .ok (.bl true) e
  | .bl false => g e
  | _ => .bad
def notP (f : P) : P := fun env => (f env).bind fun d e => match d with
  | .bl k => .ok (.bl (!k)) e
  | _ => .bad
theorem c_one {op} {p : P} (h : PE X a (tP X.K W p)) : PE X (.BoolOp op [a] pos) (tP X.K W p) := pe_one h
theorem c_vand {p q : P} (ha : PE X a (tP X.K W p)) (hb : PE X (.BoolOp .And (b :: rest) pos) (tP X.K W q)) : PE X (.BoolOp .And (a :: b :: rest) pos) (tP X.K W (andP p q)) :=
  PE.imp (pe_and ha hb) fun σ H Q w => by
    obtain ⟨env, IO, Fr, e, w⟩ := tP_run.mp w
    refine tP_run.mpr ⟨env, IO, Fr, e, Run.mono (Stp.refl _ _ _) w.split fun d env' H' e' st y v r => ?_⟩
    cases d with
    | bl k =>
      cases r
      cases k with
      | true => exact ⟨true, rfl, tP_run.mpr ⟨env', IO, Fr, e', y⟩⟩
      | false => exact ⟨false, rfl, y H' e' (Stp.refl _ _ _) _ rfl⟩
    | _ => exact y.elim
theorem c_vor {p q : P} (ha : PE X a (tP X.K W p)) (hb : PE X (.BoolOp .Or (b :: rest) pos) (tP X.K W q)) : PE X (.BoolOp .Or (a :: b :: rest) pos) (tP X.K W (orP p q)) :=
  PE.imp (pe_or ha hb) fun σ H Q w => by
    obtain ⟨env, IO, Fr, e, w⟩ := tP_run.mp w
    refine tP_run.mpr ⟨env, IO, Fr, e, Run.mono (Stp.refl _ _ _) w.split fun d env' H' e' st y v r => ?_⟩
    cases d with
    | bl k =>
      cases r
      cases k with
      | true => exact ⟨true, rfl, y H' e' (Stp.refl _ _ _) _ rfl⟩
      | false => exact ⟨false, rfl, tP_run.mpr ⟨env', IO, Fr, e', y⟩⟩
    | _ => exact y.elim
theorem c_vnot {p : P} (ha : PE X a (tP X.K W p)) : PE X (.UnaryOp .Not a pos) (tP X.K W (notP p)) :=
  PE.imp (pe_not ha) fun σ H Q w => by
    obtain ⟨env, IO, Fr, e, w⟩ := tP_run.mp w
    refine tP_run.mpr ⟨env, IO, Fr, e, Run.mono (Stp.refl _ _ _) w.split fun d env' H' e' st y v r => ?_⟩
    cases d with
    | bl k => cases r; exact ⟨k, rfl, y H' e' (Stp.refl _ _ _) _ rfl⟩
    | _ => exact y.elim
/-- a if t else b -/
def ifE (t : T) (f g : E) : E := fun env => (t env).bind fun b e => if b then f e else g e
def ifP (t : T) (f g : P) : P := fun env => (t env).bind fun b e => if b then f e else g e
theorem c_ifE {p q : E} (hc : PT X c (tT X.K W f)) (ha : PE X a (tE X.K W p)) (hb : PE X b (tE X.K W q)) : PE X (.IfExp c a b pos) (tE X.K W (ifE f p q)) :=
  PE.imp (pe_ifExp hc ha hb) fun σ H Q w => by
    obtain ⟨env, IO, Fr, e, w⟩ := tE_run.mp w
    refine tT_run.mpr ⟨env, IO, Fr, e, Run.mono (Stp.refl _ _ _) w.split fun k env' H' e' st y => ?_⟩
    cases k with
    | true => exact tE_run.mpr ⟨env', IO, Fr, e', y⟩
    | false => exact tE_run.mpr ⟨env', IO, Fr, e', y⟩
theorem c_ifP {p q : P} (hc : PT X c (tT X.K W f)) (ha : PE X a (tP X.K W p)) (hb : PE X b (tP X.K W q)) : PE X (.IfExp c a b pos) (tP X.K W (ifP f p q)) :=
  PE.imp (pe_ifExp hc ha hb) fun σ H Q w => by
    obtain ⟨env, IO, Fr, e, w⟩ := tP_run.mp w
    refine tT_run.mpr ⟨env, IO, Fr, e, Run.mono (Stp.refl _ _ _) w.split fun k env' H' e' st y => ?_⟩
    cases k with
    | true => exact tP_run.mpr ⟨env', IO, Fr, e', y⟩
    | false => exact tP_run.mpr ⟨env', IO, Fr, e', y⟩
/-- a op b op' c -/
def chainP (p q : D → D → Option D) (a b c : PL.A) : P := fun env => (a.ev env).bind fun oa e1 => (b.ev e1).bind fun ob e2 => match a.fin oa e2, b.fin ob e2 with
  | some x, some y => (match p x y with
    | some (.bl true) => (c.ev e2).bind fun oc e3 => (match b.fin ob e3, c.fin oc e3 with
      | some y', some z => opt (q y' z) e3
      | _, _ => .bad)
    | some (.bl false) => .ok (.bl false) e2
    | _ => .bad)
  | _, _ => .bad
theorem chain_rd {K : PySem.W.Frag} {r r' : R2} {p q : D → D → Option D} (hp : Bin K r p) (hq : Bin K r' q) {σ : L2.St} {H : Hp} {Q : VK} (w : tP K W (chainP p q o1 o2 o3) σ H Q) : tChain r r' (tA K W o1) (tA K W o2) (tA K W o3) σ H Q := by
  obtain ⟨env, IO, Fr, e, w⟩ := tP_run.mp w
  unfold chainP at w
  refine tA_of e (Run.mono (Stp.refl _ _ _) w.split fun oa e1 H1 ok1 s1 h1 vx ax => ?_)
  refine tA_of ok1 (Run.mono (Stp.refl _ _ _) h1.split fun ob e2 H2 ok2 s2 h2 vy ay => ?_)
  have ax2 := ax.step s2
  cases hx : o1.fin oa e2 with
  | none => rw [hx] at h2; exact h2.elim
  | some x =>
    cases hy : o2.fin ob e2 with
    | none => rw [hx, hy] at h2; exact h2.elim
    | some y =>
      rw [hx, hy] at h2
      simp only [] at h2
      cases hz : p x y with
      | none => rw [hz] at h2; exact h2.elim
      | some z =>
        rw [hz] at h2
        refine hp ok2 (ax2.fin ok2 hx) (ay.fin ok2 hy) hz fun v rv => ?_
        cases z with
        | bl k =>
          cases rv
          refine ⟨k, rfl, ?_⟩
          cases k with
          | false => exact h2 H2 ok2 (Stp.refl _ _ _) _ rfl
          | true =>
            simp only [] at h2
            refine tA_of ok2 (Run.mono (Stp.refl _ _ _) h2.split fun oc e3 H3 ok3 s3 h3 vz az => ?_)
            have ay3 := ay.step s3
            cases hy3 : o2.fin ob e3 with
            | none => rw [hy3] at h3; exact h3.elim
            | some y3 =>
              cases hz3 : o3.fin oc e3 with
              | none => rw [hy3, hz3] at h3; exact h3.elim
              | some z3 =>
                rw [hy3, hz3] at h3
                simp only [] at h3
                cases hq3 : q y3 z3 with
                | none => rw [hq3] at h3; exact h3.elim
                | some r3 => rw [hq3] at h3; exact hq ok3 (ay3.fin ok3 hy3) (az.fin ok3 hz3) hq3 (h3 H3 ok3 (Stp.refl _ _ _))
        | _ => exact h2.elim
theorem c_chain {op op' : CmpOp} {r r' : R2} {p q : D → D → Option D} (ho : OpR X (compareOp op) r) (ho' : OpR X (compareOp op') r') (hp : Bin X.K r p) (hq : Bin X.K r' q) (ha : PE X a (tA X.K W o1)) (hb : PE X b (tA X.K W o2)) (hc : PE X c (tA X.K W o3))
    (hm : lastMarks [op, op'] [b, c] = false := by with_unfolding_all rfl) : PE X (.Compare a [op, op'] [b, c] pos) (tP X.K W (chainP p q o1 o2 o3)) :=
  PE.imp (pe_chain ho ho' ha hb hc hm) fun _ _ _ w => chain_rd hp hq w
theorem c_tchain {op op' : CmpOp} {r r' : R2} {p q : D → D → Option D} (ho : OpR X (compareOp op) r) (ho' : OpR X (compareOp op') r') (hp : Bin X.K r p) (hq : Bin X.K r' q) (ha : PE X a (tA X.K W o1)) (hb : PE X b (tA X.K W o2)) (hc : PE X c (tA X.K W o3))
    (hm : lastMarks [op, op'] [b, c] = false := by with_unfolding_all rfl) : PT X (.Compare a [op, op'] [b, c] pos) (tT X.K W (tst (chainP p q o1 o2 o3))) :=
  PT.imp (pt_chain ho ho' ha hb hc hm) (tst_rd fun _ _ _ w => chain_rd hp hq w)
end

/-! ### argument lists -/
def evs : List PL.A → List Sl → Res (List (Option D))
  | [], env => .ok [] env
  | a :: as, env => (a.ev env).bind fun o e => (evs as e).bind fun os e' => .ok (o :: os) e'
def fins : List PL.A → List (Option D) → List Sl → Option (List D)
  | [], _, _ => some []
  | a :: as, o :: os, env => match a.fin o env, fins as os env with
    | some d, some ds => some (d :: ds)
    | _, _ => none
  | _ :: _, [], _ => none
def many (as : List PL.A) (env : List Sl) : Res (List D) := (evs as env).bind fun os e => opt (fins as os e) e
def tAs (K : PySem.W.Frag) (W : WX) : List PL.A → TA
  | [] => tNil
  | a :: as => tCons (tA K W a) (tAs K W as)
def AVs (K : PySem.W.Frag) (env : List Sl) (Fr : List Addr) (σ : L2.St) (H : Hp) : List PL.A → List (Option D) → List V → Prop
  | [], os, vs => os = [] ∧ vs = []
  | a :: as, os, vs => ∃ o r v s, os = o :: r ∧ vs = v :: s ∧ AV K env Fr σ H a o v ∧ AVs K env Fr σ H as r s
def BReps (K : PySem.W.Frag) (env : List Sl) (Fr : List Addr) (σ : L2.St) (H : Hp) : List D → List V → Prop
  | [], vs => vs = []
  | d :: ds, vs => ∃ v r, vs = v :: r ∧ BRep K env Fr σ H d v ∧ BReps K env Fr σ H ds r
section
variable {K : PySem.W.Frag} {W : WX} {env env' : List Sl} {IO : List (Option Addr)} {Fr : List Addr} {σ : L2.St} {H H' : Hp}
theorem AVs.step (s : Stp Fr (Hd env σ Fr) H (Hd env' σ Fr) H') : ∀ {as : List PL.A} {os : List (Option D)} {vs : List V}, AVs K env Fr σ H as os vs → AVs K env' Fr σ H' as os vs
  | [], _, _, h => h
  | a :: as, _, _, ⟨o, r, v, q, h1, h2, h3, h4⟩ => ⟨o, r, v, q, h1, h2, h3.step s, AVs.step s h4⟩
theorem AVs.fin (e : EnvOk K env IO Fr σ H) : ∀ {as : List PL.A} {os : List (Option D)} {vs : List V} {ds : List D}, AVs K env Fr σ H as os vs → fins as os env = some ds → BReps K env Fr σ H ds vs
  | [], _, _, _, ⟨h1, h2⟩, h => by subst h1 h2; cases h; rfl
  | a :: as, _, _, ds, ⟨o, r, v, q, h1, h2, h3, h4⟩, h => by
    subst h1 h2
    unfold fins at h
    split at h
    · rename_i d ds' hd hds
      cases h
      exact ⟨v, q, rfl, h3.fin e hd, AVs.fin e h4 hds⟩
    · cases h
theorem tAs_of : ∀ {as : List PL.A} {env : List Sl} {H : Hp} {Y : List V → Hp → Prop}, EnvOk K env IO Fr σ H →
    Run K W IO Fr (Hd env σ Fr) H σ (evs as env) (fun os env' H' => ∀ vs, EnvOk K env' IO Fr σ H' → AVs K env' Fr σ H' as os vs → Y vs H') → tAs K W as σ H Y
  | [], env, H, Y, e, h => h H e (Stp.refl _ _ _) [] e ⟨rfl, rfl⟩
  | a :: as, env, H, Y, e, h => by
    unfold evs at h
    refine tA_of e (Run.mono (Stp.refl _ _ _) h.split fun o e1 H1 ok1 s1 h1 v av => ?_)
    refine tAs_of ok1 (Run.mono (Stp.refl _ _ _) h1.split fun os e2 H2 ok2 s2 h2 vs ok2' avs => ?_)
    exact h2 H2 ok2 (Stp.refl _ _ _) (v :: vs) ok2 ⟨o, os, v, vs, rfl, rfl, av.step s2, avs⟩
theorem many_of {as : List PL.A} {Y : List V → Hp → Prop} (e : EnvOk K env IO Fr σ H)
    (h : Run K W IO Fr (Hd env σ Fr) H σ (many as env) fun ds env' H' => ∀ vs, EnvOk K env' IO Fr σ H' → BReps K env' Fr σ H' ds vs → Y vs H') : tAs K W as σ H Y := by
  unfold many at h
  refine tAs_of e (Run.mono (Stp.refl _ _ _) h.split fun os e1 H1 ok1 s1 h1 vs ok1' avs => ?_)
  cases hf : fins as os e1 with
  | none => rw [hf] at h1; exact h1.elim
  | some ds => rw [hf] at h1; exact h1 H1 ok1 (Stp.refl _ _ _) vs ok1 (avs.fin ok1 hf)
end
section
variable {X : Cx} {W : WX} {a : Expr} {es : List Expr} {o : PL.A} {as : List PL.A} {pos : Pos}
theorem c_pn : PA X [] (tAs X.K W []) := pa_nil
theorem c_pc (ha : PE X a (tA X.K W o)) (hr : PA X es (tAs X.K W as)) (hs : starEach (a :: es) X.env = (false, eval a X.env) :: starEach es X.env := by rfl) : PA X (a :: es) (tAs X.K W (o :: as)) := pa_cons ha hr hs
end

/-! ### built-in calls -/
def CallD (K : PySem.W.Frag) (r : List V → Hp → VK → Prop) (op : List D → Option Sl) : Prop := ∀ {env : List Sl} {IO : List (Option Addr)} {Fr : List Addr} {σ : L2.St} {H : Hp} {ds : List D} {s : Sl} {vs : List V} {Q : VK}, EnvOk K env IO Fr σ H → BReps K env Fr σ H ds vs →
  op ds = some s → (∀ v H', ResOk K s v env IO Fr σ H' → Stp Fr (Hd env σ Fr) H (Hd env σ (frOf s v Fr)) H' → Q v H') → r vs H Q
def blt (op : List D → Option Sl) (as : List PL.A) : E := fun env => (many as env).bind fun ds e => opt (op ds) e
theorem blt_rd {K : PySem.W.Frag} {W : WX} {r : List V → Hp → VK → Prop} {op : List D → Option Sl} {as : List PL.A} (h : CallD K r op) {σ : L2.St} {H : Hp} {Q : VK} (t : tE K W (blt op as) σ H Q) : tCB r (tAs K W as) σ H Q := by
  obtain ⟨env, IO, Fr, e, t⟩ := tE_run.mp t
  refine many_of e (Run.mono (Stp.refl _ _ _) t.split fun ds env' H' e' s' y vs _ bx => ?_)
  cases ho : op ds with
  | none => rw [ho] at y; exact y.elim
  | some z => rw [ho] at y; exact h e' bx ho y
section
variable {X : Cx} {W : WX} {e : Expr} {es : List Expr} {as : List PL.A} {x : Str} {p pos : Pos} {id T : String} {r : List V → Hp → VK → Prop} {op : List D → Option Sl}
theorem c_callB (hc : CallR X (.builtin id) r) (hd : CallD X.K r op) (hg : Gl X x) (hm : X.mg x = none) (hv : bootBuiltins x = some (.builtin id)) (ha : PA X (e :: es) (tAs X.K W as)) (hn : x ≠ "__name__" := by decide) (hdb : (x == ("__debug__" : Str)) = false := by decide)
    (he : starEach (e :: es) X.env = (false, eval e X.env) :: starEach es X.env := by rfl) (hpl : (backTo pos (starEach es X.env)).any (·.1) = false := by rfl) : PE X (.Call (.Name x p) (e :: es) [] pos) (tE X.K W (blt op as)) :=
  PE.imp (pe_callB hc hg hm hv ha hn hdb he hpl) fun _ _ _ h => blt_rd hd h
theorem c_callTy (hc : CallR X (.type T) r) (hd : CallD X.K r op) (hg : Gl X x) (hm : X.mg x = none) (hv : bootBuiltins x = some (.type T)) (ha : PA X (e :: es) (tAs X.K W as)) (hn : x ≠ "__name__" := by decide) (hdb : (x == ("__debug__" : Str)) = false := by decide)
    (he : starEach (e :: es) X.env = (false, eval e X.env) :: starEach es X.env := by rfl) (hpl : (backTo pos (starEach es X.env)).any (·.1) = false := by rfl) : PE X (.Call (.Name x p) (e :: es) [] pos) (tE X.K W (blt op as)) :=
  PE.imp (pe_callTy hc hg hm hv ha hn hdb he hpl) fun _ _ _ h => blt_rd hd h
end
def lenL : List D → Option Sl
  | [.str x] => if x.length ≤ 16777216 then some (.shr (.int x.length)) else none
  | [.lst xs] => some (.shr (.int xs.length))
  | [.tup xs] => some (.shr (.int xs.length))
  | [.scr xs] => some (.shr (.int xs.length))
  | _ => none
def intL : List D → Option Sl
  | [.int i] => some (.shr (.int i))
  | [.bl k] => some (.shr (.int (if k then 1 else 0)))
  | _ => none
def max2L : List D → Option Sl
  | [.int i, .int j] => some (.shr (.int (if j > i then j else i)))
  | _ => none
def min2L : List D → Option Sl
  | [.int i, .int j] => some (.shr (.int (if j < i then j else i)))
  | _ => none
def absL : List D → Option Sl
  | [.int i] => some (.shr (.int (if i < 0 then -i else i)))
  | _ => none
def bools? : List D → Option (List Bool)
  | [] => some []
  | .bl b :: ds => (bools? ds).map (b :: ·)
  | _ => none
def ints? : List D → Option (List Int)
  | [] => some []
  | .int b :: ds => (ints? ds).map (b :: ·)
  | _ => none
theorem bools_rep {K : PySem.W.Frag} {H : Hp} : ∀ {ds : List D} {bs : List Bool} {vs : List V}, bools? ds = some bs → RepL K H ds vs → vs = bs.map V.bl
  | [], _, _, h, r => by cases h; exact r
  | d :: ds, bs, _, h, ⟨v, r, h1, h2, h3⟩ => by
    cases d with
    | bl b =>
      simp only [bools?, Option.map_eq_some_iff] at h
      obtain ⟨cs, h4, rfl⟩ := h
      cases h2
      rw [h1, bools_rep h4 h3, List.map_cons]
    | _ => simp [bools?] at h
theorem ints_rep {K : PySem.W.Frag} {H : Hp} : ∀ {ds : List D} {bs : List Int} {vs : List V}, ints? ds = some bs → RepL K H ds vs → vs = bs.map V.int
  | [], _, _, h, r => by cases h; exact r
  | d :: ds, bs, _, h, ⟨v, r, h1, h2, h3⟩ => by
    cases d with
    | int b =>
      simp only [ints?, Option.map_eq_some_iff] at h
      obtain ⟨cs, h4, rfl⟩ := h
      cases h2
      rw [h1, ints_rep h4 h3, List.map_cons]
    | _ => simp [ints?] at h
def anyL : List D → Option Sl
  | [.lst ds] => (bools? ds).map fun bs => .shr (.bl (bs.any id))
  | _ => none
def allL : List D → Option Sl
  | [.lst ds] => (bools? ds).map fun bs => .shr (.bl (bs.all id))
  | _ => none
def sumL : List D → Option Sl
  | [.lst ds] => (ints? ds).map fun bs => .shr (.int bs.sum)
  | _ => none
/-- list(xs), list(t) -/
def listL : List D → Option Sl
  | [.lst ds] => some (.own (.lst ds))
  | [.tup ds] => some (.own (.lst ds))
  | _ => none
def tupleL : List D → Option Sl
  | [.lst ds] => some (.shr (.tup ds))
  | [.tup ds] => some (.shr (.tup ds))
  | _ => none
section
variable {K : PySem.W.Frag}
theorem BReps.one {env : List Sl} {Fr : List Addr} {σ : L2.St} {H : Hp} {d : D} {vs : List V} (h : BReps K env Fr σ H [d] vs) : ∃ v, vs = [v] ∧ BRep K env Fr σ H d v := by
  obtain ⟨v, r, rfl, h1, h2⟩ := h
  exact ⟨v, by rw [h2], h1⟩
theorem BReps.two {env : List Sl} {Fr : List Addr} {σ : L2.St} {H : Hp} {d d' : D} {vs : List V} (h : BReps K env Fr σ H [d, d'] vs) : ∃ v v', vs = [v, v'] ∧ BRep K env Fr σ H d v ∧ BRep K env Fr σ H d' v' := by
  obtain ⟨v, r, rfl, h1, v', r', rfl, h2, h3⟩ := h
  exact ⟨v, v', by rw [h3], h1, h2⟩
theorem cd_len : CallD K (fun xs H Q => ∃ x n, xs = [x] ∧ LenV K x H n ∧ Q (.int n) H) lenL := fun {env IO Fr σ H ds s vs Q} e b h k => by
  unfold lenL at h
  split at h
  · obtain ⟨v, rfl, q⟩ := b.one
    split at h
    · cases h; cases q.str
      exact ⟨_, _, rfl, ⟨by assumption, rfl⟩, k _ _ ⟨e, rfl⟩ (Stp.refl _ _ _)⟩
    · cases h
  · obtain ⟨v, rfl, q⟩ := b.one
    cases h
    obtain ⟨p, ws, rfl, h1, r⟩ := q.lst
    exact ⟨_, _, rfl, .inl ⟨ws, .of h1, r.len⟩, k _ _ ⟨e, rfl⟩ (Stp.refl _ _ _)⟩
  · obtain ⟨v, rfl, q⟩ := b.one
    cases h
    obtain ⟨p, ws, rfl, h1, r⟩ := q.tup
    exact ⟨_, _, rfl, .inr ⟨ws, h1, r.len⟩, k _ _ ⟨e, rfl⟩ (Stp.refl _ _ _)⟩
  · obtain ⟨v, rfl, q⟩ := b.one
    cases h
    obtain ⟨p, rfl, h1⟩ := q.scr
    exact ⟨_, _, rfl, .inl ⟨_, h1, by simp⟩, k _ _ ⟨e, rfl⟩ (Stp.refl _ _ _)⟩
  · cases h
theorem cd_int : CallD K (fun xs H Q => (∃ i, xs = [.int i] ∧ Q (.int i) H) ∨ ∃ k, xs = [.bl k] ∧ Q (.int (if k then 1 else 0)) H) intL := fun {env IO Fr σ H ds s vs Q} e b h k => by
  unfold intL at h
  split at h
  · obtain ⟨v, rfl, q⟩ := b.one
    cases h; cases q.int
    exact .inl ⟨_, rfl, k _ _ ⟨e, rfl⟩ (Stp.refl _ _ _)⟩
  · obtain ⟨v, rfl, q⟩ := b.one
    cases h; cases q.bl
    exact .inr ⟨_, rfl, k _ _ ⟨e, rfl⟩ (Stp.refl _ _ _)⟩
  · cases h
theorem cd_max2 : CallD K (fun xs H Q => ∃ i j, xs = [.int i, .int j] ∧ Q (.int (if j > i then j else i)) H) max2L := fun {env IO Fr σ H ds s vs Q} e b h k => by
  unfold max2L at h
  split at h
  · obtain ⟨v, v', rfl, q, q'⟩ := b.two
    cases h; cases q.int; cases q'.int
    exact ⟨_, _, rfl, k _ _ ⟨e, rfl⟩ (Stp.refl _ _ _)⟩
  · cases h
theorem cd_min2 : CallD K (fun xs H Q => ∃ i j, xs = [.int i, .int j] ∧ Q (.int (if j < i then j else i)) H) min2L := fun {env IO Fr σ H ds s vs Q} e b h k => by
  unfold min2L at h
  split at h
  · obtain ⟨v, v', rfl, q, q'⟩ := b.two
    cases h; cases q.int; cases q'.int
    exact ⟨_, _, rfl, k _ _ ⟨e, rfl⟩ (Stp.refl _ _ _)⟩
  · cases h
theorem cd_abs : CallD K (fun xs H Q => ∃ i, xs = [.int i] ∧ Q (.int (if i < 0 then -i else i)) H) absL := fun {env IO Fr σ H ds s vs Q} e b h k => by
  unfold absL at h
  split at h
  · obtain ⟨v, rfl, q⟩ := b.one
    cases h; cases q.int
    exact ⟨_, rfl, k _ _ ⟨e, rfl⟩ (Stp.refl _ _ _)⟩
  · cases h
theorem cd_any : CallD K (rAny K) anyL := fun {env IO Fr σ H ds s vs Q} e b h k => by
  unfold anyL at h
  split at h
  · obtain ⟨v, rfl, q⟩ := b.one
    obtain ⟨p, ws, rfl, h1, r⟩ := q.lst
    obtain ⟨bs, hb, rfl⟩ := Option.map_eq_some_iff.mp h
    exact ⟨p, bs, rfl, .of (by rw [h1, bools_rep hb r]), k _ _ ⟨e, rfl⟩ (Stp.refl _ _ _)⟩
  · cases h
theorem cd_all : CallD K (rAll K) allL := fun {env IO Fr σ H ds s vs Q} e b h k => by
  unfold allL at h
  split at h
  · obtain ⟨v, rfl, q⟩ := b.one
    obtain ⟨p, ws, rfl, h1, r⟩ := q.lst
    obtain ⟨bs, hb, rfl⟩ := Option.map_eq_some_iff.mp h
    exact ⟨p, bs, rfl, .of (by rw [h1, bools_rep hb r]), k _ _ ⟨e, rfl⟩ (Stp.refl _ _ _)⟩
  · cases h
theorem cd_sum : CallD K (rSum K) sumL := fun {env IO Fr σ H ds s vs Q} e b h k => by
  unfold sumL at h
  split at h
  · obtain ⟨v, rfl, q⟩ := b.one
    obtain ⟨p, ws, rfl, h1, r⟩ := q.lst
    obtain ⟨bs, hb, rfl⟩ := Option.map_eq_some_iff.mp h
    exact ⟨p, bs, rfl, .of (by rw [h1, ints_rep hb r]), k _ _ ⟨e, rfl⟩ (Stp.refl _ _ _)⟩
  · cases h
/-- a new tuple -/
theorem EnvOk.newT {env : List Sl} {IO : List (Option Addr)} {Fr : List Addr} {σ : L2.St} {H : Hp} {p : Addr} {ds : List D} {vs : List V} (e : EnvOk K env IO Fr σ H) (hp : H p = none) (r : RepL K (hid H (Hd env σ Fr)) ds vs) :
    ResOk K (.shr (.tup ds)) (.ref p) env IO Fr σ (upd H p (.tup vs)) ∧ Stp Fr (Hd env σ Fr) H (Hd env σ (frOf (.shr (.tup ds)) (.ref p) Fr)) (upd H p (.tup vs)) := by
  have sm := same_upd (o := .tup vs) hp
  exact ⟨⟨e.grow sm, p, _, rfl, .inl (.inl (hid_some.mpr ⟨e.fresh hp, upd_same⟩)), RepL.mono (same_hid.mpr fun b u z1 z2 => ⟨z1, sm b u z2⟩) r⟩, e.stp sm⟩
end
section
variable {X : Cx} {W : WX} {e : Expr} {es : List Expr} {as : List PL.A} {x : Str} {p pos : Pos}
theorem c_len (hg : Gl X "len") (hm : X.mg "len" = none) (ha : PA X (e :: es) (tAs X.K W as))
    (he : starEach (e :: es) X.env = (false, eval e X.env) :: starEach es X.env := by rfl) (hpl : (backTo pos (starEach es X.env)).any (·.1) = false := by rfl) : PE X (.Call (.Name "len" p) (e :: es) [] pos) (tE X.K W (blt lenL as)) :=
  c_callB call_len cd_len hg hm PySem.boot_len ha (by decide) (by decide) he hpl
/-- displays -/
def lstL (ds : List D) : Option Sl := if ds.length ≤ 16777216 then some (.own (.lst ds)) else none
def tupL (ds : List D) : Option Sl := if ds.length ≤ 16777216 then some (.shr (.tup ds)) else none
theorem BReps.repL {K : PySem.W.Frag} {env : List Sl} {Fr : List Addr} {σ : L2.St} {H : Hp} : ∀ {ds : List D} {vs : List V}, BReps K env Fr σ H ds vs → ds.length = vs.length
  | [], _, h => by cases h; rfl
  | d :: ds, _, ⟨v, r, h1, _, h3⟩ => by subst h1; simp [BReps.repL h3]
/-- a list of shared values -/
def evP : List P → List Sl → Res (List D)
  | [], env => .ok [] env
  | f :: fs, env => (f env).bind fun d e => (evP fs e).bind fun ds e' => .ok (d :: ds) e'
def tPs (K : PySem.W.Frag) (W : WX) : List P → TA
  | [] => tNil
  | f :: fs => tCons (tP K W f) (tPs K W fs)
theorem tPs_of {K : PySem.W.Frag} {W : WX} {IO : List (Option Addr)} {Fr : List Addr} {σ : L2.St} : ∀ {fs : List P} {env : List Sl} {H : Hp} {Y : List V → Hp → Prop}, EnvOk K env IO Fr σ H →
    Run K W IO Fr (Hd env σ Fr) H σ (evP fs env) (fun ds env' H' => ∀ vs, EnvOk K env' IO Fr σ H' → RepL K (hid H' (Hd env' σ Fr)) ds vs → Y vs H') → tPs K W fs σ H Y
  | [], env, H, Y, e, h => h H e (Stp.refl _ _ _) [] e rfl
  | f :: fs, env, H, Y, e, h => by
    unfold evP at h
    refine tP_run.mpr ⟨env, IO, Fr, e, Run.mono (Stp.refl _ _ _) h.split fun d e1 H1 ok1 s1 h1 v rv => ?_⟩
    refine tPs_of ok1 (Run.mono (Stp.refl _ _ _) h1.split fun ds e2 H2 ok2 s2 h2 vs _ rs => ?_)
    exact h2 H2 ok2 (Stp.refl _ _ _) (v :: vs) ok2 ⟨v, vs, rfl, s2.rep rv, rs⟩
theorem c_qn : PA X [] (tPs X.K W []) := pa_nil
theorem c_qc {f : P} {fs : List P} (ha : PE X e (tP X.K W f)) (hr : PA X es (tPs X.K W fs)) (hs : starEach (e :: es) X.env = (false, eval e X.env) :: starEach es X.env := by rfl) : PA X (e :: es) (tPs X.K W (f :: fs)) := pa_cons ha hr hs
def lstP (fs : List P) : E := fun env => (evP fs env).bind fun ds e => opt (lstL ds) e
def tupP (fs : List P) : P := fun env => (evP fs env).bind fun ds e => opt (if ds.length ≤ 16777216 then some (.tup ds) else none) e
theorem c_lst {fs : List P} (h : PA X es (tPs X.K W fs)) : PE X (.List es pos) (tE X.K W (lstP fs)) :=
  PE.imp (pe_lst h) fun σ H Q w => by
    obtain ⟨env, IO, Fr, e, w⟩ := tE_run.mp w
    refine tPs_of e (Run.mono (Stp.refl _ _ _) w.split fun ds e1 H1 ok1 s1 h1 vs _ r => ?_)
    unfold lstL at h1
    split at h1
    · rename_i hl
      refine ⟨by rw [← r.len]; exact hl, fun p hp => ?_⟩
      obtain ⟨ro, st⟩ := ok1.new (d := .lst ds) hp ⟨vs, rfl, r⟩
      exact h1 _ _ ro st
    · exact h1.elim
theorem c_tup {fs : List P} {x1} (h : PA X es (tPs X.K W fs)) : PE X (.Tuple es x1 pos) (tP X.K W (tupP fs)) :=
  PE.imp (pe_tup h) fun σ H Q w => by
    obtain ⟨env, IO, Fr, e, w⟩ := tP_run.mp w
    refine tPs_of e (Run.mono (Stp.refl _ _ _) w.split fun ds e1 H1 ok1 s1 h1 vs _ r => ?_)
    split at h1
    · rename_i hl
      refine ⟨by rw [← r.len]; exact hl, fun p hp => ?_⟩
      obtain ⟨⟨e2, rt⟩, st⟩ := ok1.newT hp r
      exact h1 _ e2 st _ rt
    · exact h1.elim
end
end PL

/-! Pl5: subscripts, slices, in, dicts, fields. -/
namespace PL
open PySem L2

theorem PE.or {X : Cx} {e : Expr} {t t' : TE} (h : PE X e t) (h' : PE X e t') : PE X e (fun σ H Q => t σ H Q ∨ t' σ H Q) :=
  ⟨fun pins s σ H Q I w => w.elim (h.run pins s σ H Q I) (h'.run pins s σ H Q I)⟩

/-! ### xs[i] -/
def idx : D → D → Option D
  | .lst ds, .int i => atI ds i
  | .tup ds, .int i => atI ds i
  | .scr ns, .int i => (atI ns i).map .int
  | .str z, .int i => if z.length ≤ 16777216 then (atI z.cps.toList i).map fun c => .str ⟨#[c]⟩ else none
  | _, _ => none
theorem atI_rep {K : PySem.W.Frag} {H : Hp} {ds : List D} {vs : List V} {i : Int} {d : D} (r : RepL K H ds vs) (h : atI ds i = some d) : ∃ v, atI vs i = some v ∧ Rep K H d v := by
  unfold atI at h ⊢
  rw [← r.len]
  cases hj : ixN ds.length i with
  | none => rw [hj] at h; cases h
  | some j =>
    rw [hj] at h
    exact r.get (i := j) h
theorem bin_idx {K : PySem.W.Frag} : Bin K (rIx K) idx := fun {env IO Fr σ H x y z vx vy Q} e bx by_ h k => by
  unfold idx at h
  split at h
  · cases by_.int
    obtain ⟨p, vs, rfl, h1, r⟩ := bx.lst
    obtain ⟨v, g1, g2⟩ := atI_rep r h
    exact .inl ⟨p, vs, _, v, rfl, rfl, .of h1, g1, k v g2⟩
  · cases by_.int
    obtain ⟨p, vs, rfl, h1, r⟩ := bx.tup
    obtain ⟨v, g1, g2⟩ := atI_rep r h
    exact .inr (.inl ⟨p, vs, _, v, rfl, rfl, h1, g1, k v g2⟩)
  · cases by_.int
    obtain ⟨p, rfl, h1⟩ := bx.scr
    rename_i ns i
    obtain ⟨n, h2, rfl⟩ := Option.map_eq_some_iff.mp h
    refine .inl ⟨p, _, _, .int n, rfl, rfl, h1, ?_, k _ rfl⟩
    unfold atI at h2 ⊢
    rw [List.length_map]
    cases hj : ixN ns.length i with
    | none => rw [hj] at h2; cases h2
    | some j =>
      rw [hj] at h2
      have h3 : ns[j]? = some n := h2
      show (ns.map V.int)[j]? = _
      rw [List.getElem?_map, h3]
      rfl
  · cases by_.int
    cases bx.str
    split at h
    · obtain ⟨c, h2, rfl⟩ := Option.map_eq_some_iff.mp h
      exact .inr (.inr ⟨_, _, c, rfl, rfl, by assumption, h2, k _ rfl⟩)
    · cases h
  · cases h

/-! ### dicts of ints and texts -/
def keyD : D → Option Key
  | .int i => some (.inl i)
  | .str x => some (.inr x)
  | _ => none
def lk : List Key → List D → Key → Option D
  | k :: ks, d :: ds, j => if k = j then some d else lk ks ds j
  | _, _, _ => none
def pt : List Key → List D → Key → D → List Key × List D
  | k :: ks, d :: ds, j, e => if k = j then (k :: ks, e :: ds) else ((k :: (pt ks ds j e).1), (d :: (pt ks ds j e).2))
  | _, _, j, e => ([j], [e])
theorem keyD_rep {K : PySem.W.Frag} {H : Hp} : ∀ {d : D} {v : V} {k : Key}, keyD d = some k → Rep K H d v → v = kV k
  | .int i, _, _, h, r => by cases h; exact r
  | .str i, _, _, h, r => by cases h; exact r
  | .non, _, _, h, _ => by cases h
  | .bl _, _, _, h, _ => by cases h
  | .lst _, _, _, h, _ => by cases h
  | .tup _, _, _, h, _ => by cases h
  | .ins _ _ _, _, _, h, _ => by cases h
  | .dic _ _, _, _, h, _ => by cases h
  | .obj _, _, _, h, _ => by cases h
  | .scr _, _, _, h, _ => by cases h
theorem lk_some {K : PySem.W.Frag} {H : Hp} {j : Key} : ∀ {ks : List Key} {ds : List D} {vs : List V} {d : D}, ks.length = vs.length → RepL K H ds vs → lk ks ds j = some d → ∃ v, valV (ks.zip vs) j = some v ∧ Rep K H d v
  | [], _, _, _, _, _, h => by simp [lk] at h
  | k :: ks, [], _, _, _, _, h => by simp [lk] at h
  | k :: ks, d :: ds, _, e, hl, ⟨v, r, h1, h2, h3⟩, h => by
    subst h1
    unfold lk at h
    rw [List.zip_cons_cons]
    by_cases hk : k = j
    · rw [if_pos hk] at h
      cases h
      exact ⟨v, valV_pos hk, h2⟩
    · rw [if_neg hk] at h
      rw [valV_neg hk]
      exact lk_some (by simpa using hl) h3 h
theorem lk_none {K : PySem.W.Frag} {H : Hp} {j : Key} : ∀ {ks : List Key} {ds : List D} {vs : List V}, ks.length = vs.length → RepL K H ds vs → lk ks ds j = none → valV (ks.zip vs) j = none
  | [], _, _, _, _, h => rfl
  | k :: ks, [], _, hl, r, h => by cases r; simp at hl
  | k :: ks, d :: ds, _, hl, ⟨v, r, h1, h2, h3⟩, h => by
    subst h1
    unfold lk at h
    rw [List.zip_cons_cons]
    by_cases hk : k = j
    · rw [if_pos hk] at h; cases h
    · rw [if_neg hk] at h
      rw [valV_neg hk]
      exact lk_none (by simpa using hl) h3 h
theorem putK_cons {p : Key × V} {r : List (Key × V)} {j : Key} {w : V} (hn : (r.map (·.1)).contains p.1 = false ∨ True) (hk : ¬ p.1 = j) : putK (p :: r) j w = p :: putK r j w := by
  unfold putK
  simp only [List.any_cons, hk, decide_false, Bool.false_or, List.map_cons, if_false, List.cons_append]
  split <;> rfl
/-- a key is put: with keys told once -/
theorem pt_rep {K : PySem.W.Frag} {H : Hp} {j : Key} {e : D} {w : V} (he : Rep K H e w) : ∀ {ks : List Key} {ds : List D} {vs : List V}, ks.Nodup → ks.length = vs.length → RepL K H ds vs →
    ∃ ws, putK (ks.zip vs) j w = (pt ks ds j e).1.zip ws ∧ (pt ks ds j e).1.length = ws.length ∧ RepL K H (pt ks ds j e).2 ws
  | [], ds, vs, _, hl, r => by
    have : vs = [] := by cases vs with | nil => rfl | cons _ _ => simp at hl
    subst this
    have : ds = [] := by cases ds with | nil => rfl | cons _ _ => exact absurd r.len (by simp)
    subst this
    exact ⟨[w], rfl, rfl, w, [], rfl, he, rfl⟩
  | k :: ks, [], vs, _, hl, r => by cases r; simp at hl
  | k :: ks, d :: ds, _, nd, hl, ⟨v, r, h1, h2, h3⟩ => by
    subst h1
    have nd' := List.nodup_cons.mp nd
    unfold pt
    rw [List.zip_cons_cons]
    by_cases hk : k = j
    · subst hk
      rw [if_pos rfl]
      refine ⟨w :: r, ?_, by simpa using hl, w, r, rfl, he, h3⟩
      unfold putK
      simp only [List.any_cons, decide_true, Bool.true_or, if_true, List.map_cons, List.zip_cons_cons]
      congr 1
      have : ∀ (as : List Key) (bs : List V), k ∉ as → (as.zip bs).map (fun kv => if kv.1 = k then (kv.1, w) else kv) = as.zip bs := by
        intro as
        induction as with
        | nil => intro bs _; rfl
        | cons a as ih =>
          intro bs hm
          cases bs with
          | nil => rfl
          | cons b bs =>
            simp only [List.mem_cons, not_or] at hm
            rw [List.zip_cons_cons, List.map_cons, ih bs hm.2, if_neg (Ne.symm hm.1)]
      exact this ks r nd'.1
    · rw [if_neg hk]
      obtain ⟨ws, g1, g2, g3⟩ := pt_rep he nd'.2 (by simpa using hl) h3
      exact ⟨v :: ws, by rw [putK_cons (.inr trivial) hk, g1]; rfl, by simpa using g2, v, ws, rfl, h2, g3⟩
/-- d[k] -/
def dget : D → D → Option D
  | .dic ks ds, k => (keyD k).bind fun j => lk ks ds j
  | _, _ => none
def dgetR : R2 := fun x y H Q => ∃ a v, x = .ref a ∧ DGet H a y (some v) ∧ Q v H
theorem bin_dget {K : PySem.W.Frag} : Bin K dgetR dget := fun {env IO Fr σ H x y z vx vy Q} e bx by_ h k => by
  unfold dget at h
  split at h
  · obtain ⟨j, hj, hl⟩ := Option.bind_eq_some_iff.mp h
    obtain ⟨p, vs, rfl, h1, h2, r⟩ := bx.dic
    obtain ⟨v, g1, g2⟩ := lk_some h2.1 r hl
    exact ⟨p, v, rfl, .inl ⟨_, j, .inl h1, keyD_rep hj by_.rep, g1.symm⟩, k v g2⟩
  · cases h
/-- a[i]: of a list, a tuple, a text; of a dict -/
def sub (x y : D) : Option D := match x with
  | .dic _ _ => dget x y
  | _ => idx x y
section
variable {X : Cx} {W : WX} {a b : Expr} {o1 o2 : PL.A} {pos : Pos}
theorem c_idx (ha : PE X a (tA X.K W o1)) (hb : PE X b (tA X.K W o2)) (hs : PlainIx b := by exact fun _ _ => rfl) : PE X (.Subscript a b pos) (tP X.K W (bin idx o1 o2)) :=
  PE.imp (pe_ix ix_seq ha hb hs) fun _ _ _ h => bin_rd bin_idx h
theorem c_dget (hu : X.A.units + 1 < cLine) (ha : PE X a (tA X.K W o1)) (hb : PE X b (tA X.K W o2)) (hs : NoSl b := by exact fun _ _ => rfl) : PE X (.Subscript a b pos) (tP X.K W (bin dget o1 o2)) :=
  PE.imp (pe_dget hu ha hb hs) fun _ _ _ h => bin_rd bin_dget h
theorem c_sc (hu : X.A.units + 1 < cLine) (ha : PE X a (tA X.K W o1)) (hb : PE X b (tA X.K W o2)) (hs : PlainIx b := by exact fun _ _ => rfl) : PE X (.Subscript a b pos) (tP X.K W (bin sub o1 o2)) := by
  refine PE.imp (PE.or (c_dget (W := W) hu ha hb hs) (c_idx (W := W) ha hb hs)) fun σ H Q w => ?_
  obtain ⟨env, IO, Fr, e, w⟩ := tP_run.mp w
  have key : (bin sub o1 o2 env = bin dget o1 o2 env) ∨ (bin sub o1 o2 env = bin idx o1 o2 env) := by
    unfold bin
    cases two o1 o2 env with
    | ok p e2 =>
      obtain ⟨x, y⟩ := p
      cases x <;> first | exact .inl rfl | exact .inr rfl
    | exc x e2 => exact .inl rfl
    | bad => exact .inl rfl
  rcases key with k | k
  · rw [k] at w; exact .inl (tP_run.mpr ⟨env, IO, Fr, e, w⟩)
  · rw [k] at w; exact .inr (tP_run.mpr ⟨env, IO, Fr, e, w⟩)
end

/-! ### xs[i:j] -/
def cutL {α : Type} (xs : List α) (lo hi : Option Int) : List α := (xs.drop (HT.sIx xs.length 0 lo)).take (HT.sIx xs.length xs.length hi - HT.sIx xs.length 0 lo)
def partD : Option D → Option (Option Int)
  | none => some none
  | some (.int i) => some (some i)
  | _ => none
/-- an optional part -/
def opA : Option P → List Sl → Res (Option Int)
  | none, env => .ok none env
  | some f, env => (f env).bind fun d e => opt (partD (some d)) e
def tO (K : PySem.W.Frag) (W : WX) (f : Option P) : TO := match f with
  | none => tNoPart
  | some f => tPart (tP K W f)
def slL (x : D) (lo hi : Option Int) : Option Sl := match x with
  | .lst ds => some (.own (.lst (cutL ds lo hi)))
  | .tup ds => if HT.sIx ds.length 0 lo = 0 ∧ HT.sIx ds.length ds.length hi = ds.length then none else some (.shr (.tup (cutL ds lo hi)))
  | .str z => if z.length ≤ 16777216 then some (.shr (.str (cutS z lo hi))) else none
  | _ => none
def slE (a : PL.A) (lo hi : Option P) : E := fun env => (a.ev env).bind fun oa e1 => (opA lo e1).bind fun l e2 => (opA hi e2).bind fun u e3 => opt ((a.fin oa e3).bind fun x => slL x l u) e3
theorem cut_rep {K : PySem.W.Frag} {H : Hp} {ds : List D} {vs : List V} (r : RepL K H ds vs) (lo hi : Option Int) : RepL K H (cutL ds lo hi) (cutV vs lo hi) := by
  unfold cutL cutV
  rw [r.len]
  exact (r.drop _).take _
section
variable {X : Cx} {W : WX} {a : Expr} {lo hi : Option Expr} {o1 : PL.A} {l u : Option P} {pos p2 : Pos}
theorem c_ono : PO X none (tO X.K W none) := po_none
theorem c_oyes {e : Expr} {f : P} (h : PE X e (tP X.K W f)) : PO X (some e) (tO X.K W (some f)) := po_some h
theorem tO_of {K : PySem.W.Frag} {env : List Sl} {IO : List (Option Addr)} {Fr : List Addr} {σ : L2.St} {H : Hp} {f : Option P} {Y : Option Int → Hp → Prop} (e : EnvOk K env IO Fr σ H)
    (h : Run K W IO Fr (Hd env σ Fr) H σ (opA f env) fun o env' H' => EnvOk K env' IO Fr σ H' → Y o H') : tO K W f σ H Y := by
  cases f with
  | none => exact h H e (Stp.refl _ _ _) e
  | some f =>
    refine tP_run.mpr ⟨env, IO, Fr, e, Run.mono (Stp.refl _ _ _) h.split fun d e1 H1 ok1 s1 h1 v r => ?_⟩
    cases d with
    | int i => cases r; exact ⟨i, rfl, h1 H1 ok1 (Stp.refl _ _ _) ok1⟩
    | _ => exact h1.elim
theorem c_slice (ha : PE X a (tA X.K W o1)) (hl : PO X lo (tO X.K W l)) (hu : PO X hi (tO X.K W u)) : PE X (.Subscript a (.Slice lo hi none p2) pos) (tE X.K W (slE o1 l u)) :=
  PE.imp (pe_slice (SlR.or sl_list (SlR.or sl_tup sl_str)) ha hl hu) fun σ H Q w => by
    obtain ⟨env, IO, Fr, e, w⟩ := tE_run.mp w
    unfold slE at w
    refine tA_of e (Run.mono (Stp.refl _ _ _) w.split fun oa e1 H1 ok1 s1 h1 vx ax => ?_)
    refine tO_of ok1 (Run.mono (Stp.refl _ _ _) h1.split fun ol e2 H2 ok2 s2 h2 _ => ?_)
    refine tO_of ok2 (Run.mono (Stp.refl _ _ _) h2.split fun ou e3 H3 ok3 s3 h3 _ => ?_)
    have ax3 := (ax.step s2).step s3
    cases hx : o1.fin oa e3 with
    | none => rw [hx] at h3; exact h3.elim
    | some x =>
      rw [hx] at h3
      have bx := ax3.fin ok3 hx
      have h3 : RunE X.K W IO Fr (Hd e3 σ Fr) H3 σ (opt (slL x ol ou) e3) Q := h3
      cases x with
      | lst ds =>
        obtain ⟨p, vs, rfl, g1, r⟩ := bx.lst
        refine .inl ⟨p, vs, rfl, .of g1, fun q hq => ?_⟩
        obtain ⟨ro, st⟩ := ok3.new (d := .lst (cutL ds ol ou)) hq ⟨_, rfl, cut_rep r ol ou⟩
        exact h3 _ _ ro st
      | tup ds =>
        obtain ⟨p, vs, rfl, g1, r⟩ := bx.tup
        simp only [slL] at h3
        split at h3
        · exact h3.elim
        · rename_i hw
          refine .inr (.inl ⟨p, vs, rfl, g1, by rw [← r.len]; exact hw, fun q hq => ?_⟩)
          obtain ⟨ro, st⟩ := ok3.newT hq (cut_rep r ol ou)
          exact h3 _ _ ro st
      | str z =>
        cases bx.str
        simp only [slL] at h3
        split at h3
        · exact .inr (.inr ⟨z, rfl, by assumption, h3 _ _ ⟨ok3, rfl⟩ (Stp.refl _ _ _)⟩)
        · exact h3.elim
      | _ => exact h3.elim
end
end PL

/-! Pl6: fields; what a def promises; calls of defs. -/
namespace PL
open PySem L2

/-! ### fields -/
theorem lookup_zip {f : Str} : ∀ {ns : List Str} {vs : List V} {i : Nat}, ns.Nodup → ns.length = vs.length → ns[i]? = some f → (ns.zip vs).lookup f = vs[i]?
  | [], _, _, _, _, h => by simp at h
  | n :: ns, [], _, _, h, _ => by simp at h
  | n :: ns, v :: vs, 0, nd, hl, h => by
    simp at h; subst h
    rw [List.zip_cons_cons, List.lookup_cons]
    simp
  | n :: ns, v :: vs, i + 1, nd, hl, h => by
    have h' : ns[i]? = some f := by simpa using h
    have nd' := List.nodup_cons.mp nd
    have hne : f ≠ n := by rintro rfl; exact nd'.1 (List.mem_of_getElem? h')
    rw [List.zip_cons_cons, List.lookup_cons]
    have : (f == n) = false := by simpa using hne
    rw [this]
    simpa using lookup_zip (i := i) nd'.2 (by simpa using hl) h'
/-- the i-th field of an instance of class c with the fields ns -/
def fld (c : Str) (ns : List Str) (i : Nat) : D → Option D
  | .ins c' ns' ds => if c' = c ∧ ns' = ns then ds[i]? else none
  | _ => none
def fldR (K : PySem.W.Frag) (f : Str) : V → Hp → VK → Prop := fun x H Q => ∃ a C dx fs v, x = .ref a ∧ H a = some (.ins C dx fs) ∧ Cls K C ∧ NoAttr K C f ∧ fs.lookup f = some v ∧ Q v H
theorem una_fld {K : PySem.W.Frag} {c f : Str} {ns : List Str} {i : Nat} (hc : Cls K (He.ga K c)) (hn : NoAttr K (He.ga K c) f) (nd : ns.Nodup) (hi : ns[i]? = some f) : Una K (fldR K f) (fld c ns i) := fun {env IO Fr σ H x z vx Q} e bx h k => by
  unfold fld at h
  split at h
  · split at h
    · rename_i hcc
      obtain ⟨rfl, rfl⟩ := hcc
      obtain ⟨a, dx, vs, rfl, h1, h2, r⟩ := bx.ins
      obtain ⟨v, g1, g2⟩ := r.get h
      exact ⟨a, _, dx, _, v, rfl, h1, hc, hn, by rw [lookup_zip nd h2 hi, g1], k v g2⟩
    · cases h
  · cases h
section
variable {X : Cx} {W : WX} {a : Expr} {o1 : PL.A} {pos : Pos}
theorem c_fld {c f : Str} (ns : List Str) (i : Nat) (hc : Cls X.K (He.ga X.K c)) (hn : NoAttr X.K (He.ga X.K c) f) (ha : PE X a (tA X.K W o1)) (nd : ns.Nodup := by decide +kernel) (hi : ns[i]? = some f := by rfl)
    (hb : attributeBase a f X.env (eval a X.env) = eval a X.env := by rfl) : PE X (.Attribute a f pos) (tP X.K W (una (fld c ns i) o1)) :=
  PE.imp (pe_fld ha hb) fun _ _ _ h => una_rd (una_fld hc hn nd hi) h
/-- one of two readings of the same expression, by the datum of its operand -/
theorem una_or {f g : D → Option D} {e : Expr} {t t' : TE} (h1 : PE X e t) (h2 : PE X e t') (i1 : ∀ σ H Q, tP X.K W (una f o1) σ H Q → t σ H Q) (i2 : ∀ σ H Q, tP X.K W (una g o1) σ H Q → t' σ H Q) :
    PE X e (tP X.K W (una (fun x => (f x).or (g x)) o1)) := by
  refine PE.imp (PE.or h1 h2) fun σ H Q w => ?_
  obtain ⟨env, IO, Fr, e, w⟩ := tP_run.mp w
  have key : (una (fun x => (f x).or (g x)) o1 env = una f o1 env) ∨ (una (fun x => (f x).or (g x)) o1 env = una g o1 env) := by
    unfold una
    cases one o1 env with
    | ok x e2 => simp only [Res.bind_ok]; cases f x <;> simp
    | exc x e2 => exact .inl rfl
    | bad => exact .inl rfl
  rcases key with k | k
  · rw [k] at w; exact .inl (i1 _ _ _ (tP_run.mpr ⟨env, IO, Fr, e, w⟩))
  · rw [k] at w; exact .inr (i2 _ _ _ (tP_run.mpr ⟨env, IO, Fr, e, w⟩))
end

/-! ### what a def promises -/
def noOwn (args : List Sl) : Prop := ∀ (i : Nat) (d : D), args[i]? ≠ some (Sl.own d)
def spF (K : PySem.W.Frag) (n : Nat) (fn : Fn) : Sp := fun vs H Q E => ∃ args IO Fr, args.length = n ∧ EnvOk K args IO Fr (vs.map some) H ∧ noOwn args ∧
  match fn args with
  | .ok s outs => ∀ v H', ResOk K s v outs IO Fr (vs.map some) H' → Stp Fr (Hd args (vs.map some) Fr) H (Hd outs (vs.map some) (frOf s v Fr)) H' → Q v H'
  | .exc x outs => ∀ c a H', EnvOk K outs IO Fr (vs.map some) H' → Stp Fr (Hd args (vs.map some) Fr) H (Hd outs (vs.map some) Fr) H' → ExcOk K (hid H' (Hd outs (vs.map some) Fr)) x c a → E c a H'
  | .bad => False
/-- of the arguments what was lent to be changed -/
def outsOf : List Sl → List Sl → List Sl
  | [], _ => []
  | .io _ :: as, e :: es => e :: outsOf as es
  | _ :: as, es => .no :: outsOf as es.tail
/-- a def's meaning from its body's: m further names -/
def fnOf (m : Nat) (body : S) : Fn := fun args => match body (args ++ List.replicate m .no) with
  | .rt s env => .ok s (outsOf args env)
  | .nx env => .ok (.shr .non) (outsOf args env)
  | .ex x env => .exc x (outsOf args env)
  | _ => .bad
theorem outsOf_len : ∀ {args env : List Sl}, (outsOf args env).length = args.length
  | [], _ => by unfold outsOf; rfl
  | a :: as, [] => by
    have ih := outsOf_len (args := as) (env := [])
    cases a <;> simp [outsOf, ih]
  | a :: as, e :: es => by
    have ih := outsOf_len (args := as) (env := es)
    cases a <;> simp [outsOf, ih]
theorem outsOf_at : ∀ {args env : List Sl} {i : Nat} {s : Sl}, (outsOf args env)[i]? = some s → (∃ d, args[i]? = some (.io d) ∧ env[i]? = some s) ∨ s = .no
  | [], _, _, _, h => by simp [outsOf] at h
  | a :: as, [], 0, s, h => by
    cases a <;> simp [outsOf] at h <;> exact .inr h.symm
  | a :: as, [], i + 1, s, h => by
    have h' : (outsOf as [])[i]? = some s := by cases a <;> simpa [outsOf] using h
    rcases outsOf_at h' with ⟨d, _, g⟩ | g
    · simp at g
    · exact .inr g
  | a :: as, e :: es, 0, s, h => by
    cases a <;> simp [outsOf] at h
    · exact .inr h.symm
    · exact .inr h.symm
    · exact .inr h.symm
    · exact .inl ⟨_, rfl, by simpa using h⟩
  | a :: as, e :: es, i + 1, s, h => by
    have h' : (outsOf as es)[i]? = some s := by cases a <;> simpa [outsOf] using h
    simpa using outsOf_at h'
theorem outsOf_io : ∀ {args env : List Sl} {i : Nat} {d : D} {s : Sl}, args[i]? = some (.io d) → env[i]? = some s → (outsOf args env)[i]? = some s
  | [], _, _, _, _, h, _ => by simp at h
  | a :: as, [], _, _, _, _, h => by simp at h
  | a :: as, e :: es, 0, d, s, h, g => by
    simp at h g; subst h g
    simp [outsOf]
  | a :: as, e :: es, i + 1, d, s, h, g => by
    have ih := outsOf_io (args := as) (env := es) (i := i) (by simpa using h) (by simpa using g)
    cases a <;> simpa [outsOf] using ih
section
variable {K : PySem.W.Frag} {args env : List Sl} {IO : List (Option Addr)} {Fr : List Addr} {σ : L2.St} {H H' : Hp} {vs : List V}
/-- the further names, unset -/
theorem EnvOk.more (e : EnvOk K args IO Fr (vs.map some) H) (m : Nat) : EnvOk K (args ++ List.replicate m .no) IO Fr (vs.map some ++ List.replicate m none) H ∧
    ∀ b, Hd (args ++ List.replicate m .no) (vs.map some ++ List.replicate m none) Fr b ↔ Hd args (vs.map some) Fr b := by
  have hl := e.len
  have ge : ∀ (i : Nat) (s : Sl), s ≠ .no → ((args ++ List.replicate m .no)[i]? = some s ↔ args[i]? = some s) := fun i s hs => by
    by_cases h : i < args.length
    · rw [List.getElem?_append_left h]
    · rw [List.getElem?_append_right (by omega), List.getElem?_eq_none_iff.mpr (by omega : args.length ≤ i), List.getElem?_replicate]
      constructor
      · intro z
        split at z
        · cases z; exact absurd rfl hs
        · cases z
      · intro z; cases z
  have gs : ∀ (i : Nat) (v : V), ((vs.map some ++ List.replicate m none)[i]? = some (some v) ↔ (vs.map some)[i]? = some (some v)) := fun i v => by
    by_cases h : i < (vs.map some).length
    · rw [List.getElem?_append_left h]
    · rw [List.getElem?_append_right (by omega), List.getElem?_eq_none_iff.mpr (by omega : (vs.map some).length ≤ i), List.getElem?_replicate]
      constructor
      · intro z
        split at z <;> cases z
      · intro z; cases z
  have ow : ∀ i d, OwnAt (args ++ List.replicate m .no) i d ↔ OwnAt args i d := fun i d => by
    unfold OwnAt
    rw [ge i _ (by simp), ge i _ (by simp)]
  have hd : ∀ b, Hd (args ++ List.replicate m .no) (vs.map some ++ List.replicate m none) Fr b ↔ Hd args (vs.map some) Fr b := fun b => by
    unfold Hd
    constructor
    · rintro (h | ⟨i, d, h1, h2⟩)
      · exact .inl h
      · exact .inr ⟨i, d, (ow i d).mp h1, (gs i _).mp h2⟩
    · rintro (h | ⟨i, d, h1, h2⟩)
      · exact .inl h
      · exact .inr ⟨i, d, (ow i d).mpr h1, (gs i _).mpr h2⟩
  have he : hid H (Hd (args ++ List.replicate m .no) (vs.map some ++ List.replicate m none) Fr) = hid H (Hd args (vs.map some) Fr) := by
    congr 1
    funext b
    exact propext (hd b)
  refine ⟨⟨by simp [hl] , e.fr, fun i d h => ?_, fun i j d d' p h1 h2 h3 h4 => ?_, fun i d h => ?_, fun i p h => ?_, fun i d h => ?_⟩, hd⟩
  · obtain ⟨p, o, h1, h2, h3, h4⟩ := e.own i d ((ow i d).mp h)
    exact ⟨p, o, (gs i _).mpr h1, h2, h3, by rw [he]; exact h4⟩
  · exact e.inj i j d d' p ((ow _ _).mp h1) ((ow _ _).mp h2) ((gs _ _).mp h3) ((gs _ _).mp h4)
  · obtain ⟨v, h1, h2⟩ := e.shr i d ((ge i _ (by simp)).mp h)
    exact ⟨v, (gs i _).mpr h1, by rw [he]; exact h2⟩
  · obtain ⟨⟨d, h1⟩, h2⟩ := e.io i p h
    exact ⟨⟨d, (ge i _ (by simp)).mpr h1⟩, (gs i _).mpr h2⟩
  · exact e.oi i d ((ge i _ (by simp)).mp h)
/-- back to the arguments -/
theorem EnvOk.back (e0 : EnvOk K args IO Fr (vs.map some) H) {Fr' : List Addr} (hf : ∀ b ∈ Fr, b ∈ Fr') (e : EnvOk K env IO Fr' σ H') :
    EnvOk K (outsOf args env) IO Fr' (vs.map some) H' ∧ Same (hid H' (Hd env σ Fr')) (hid H' (Hd (outsOf args env) (vs.map some) Fr')) := by
  have ow : ∀ i d, OwnAt (outsOf args env) i d → env[i]? = some (.io d) ∧ ∃ p : Addr, σ[i]? = some (some (.ref p)) ∧ (vs.map some)[i]? = some (some (.ref p)) ∧ IO[i]? = some (some p) := fun i d h => by
    have key : ∀ s, (outsOf args env)[i]? = some s → s ≠ .no → (∃ d0, args[i]? = some (.io d0)) ∧ env[i]? = some s := fun s h hs => by
      rcases outsOf_at h with ⟨d0, h1, h2⟩ | h1
      · exact ⟨⟨d0, h1⟩, h2⟩
      · exact absurd h1 hs
    have fin : ∀ s, (outsOf args env)[i]? = some s → s ≠ .no → ∃ (d' : D) (p : Addr), env[i]? = some (.io d') ∧ env[i]? = some s ∧ σ[i]? = some (some (.ref p)) ∧ (vs.map some)[i]? = some (some (.ref p)) ∧ IO[i]? = some (some p) := fun s h hs => by
      obtain ⟨⟨d0, h1⟩, h2⟩ := key s h hs
      obtain ⟨p, hp⟩ := e0.oi i d0 h1
      obtain ⟨⟨d', h3⟩, h4⟩ := e.io i p hp
      obtain ⟨_, h5⟩ := e0.io i p hp
      exact ⟨d', p, h3, h2, h4, h5, hp⟩
    rcases h with h | h
    · obtain ⟨d', p, h1, h2, _⟩ := fin _ h (by simp)
      rw [h1] at h2; cases h2
    · obtain ⟨d', p, h1, h2, h3, h4, h5⟩ := fin _ h (by simp)
      rw [h1] at h2; cases h2
      exact ⟨h1, p, h3, h4, h5⟩
  have hd : ∀ b, Hd (outsOf args env) (vs.map some) Fr' b → Hd env σ Fr' b := fun b h => by
    rcases h with h | ⟨i, d, h1, h2⟩
    · exact .inl h
    · obtain ⟨g1, p, g2, g3, _⟩ := ow i d h1
      rw [g3] at h2; cases h2
      exact .inr ⟨i, d, .inr g1, g2⟩
  have m : Same (hid H' (Hd env σ Fr')) (hid H' (Hd (outsOf args env) (vs.map some) Fr')) := same_hid.mpr fun b u h1 h2 => ⟨fun z => h1 (hd b z), h2⟩
  refine ⟨⟨by rw [outsOf_len]; exact e0.len, e.fr, fun i d h => ?_, fun i j d d' p h1 h2 h3 h4 => ?_, fun i d h => ?_, fun i p h => ?_, fun i d h => ?_⟩, m⟩
  · obtain ⟨g1, p, g2, g3, _⟩ := ow i d h
    obtain ⟨q, o, h1, h2, h3, h4⟩ := e.own i d (.inr g1)
    rw [g2] at h1; cases h1
    exact ⟨p, o, g3, h2, h3, RepO.mono m h4⟩
  · obtain ⟨g1, q1, g2, g3, _⟩ := ow i d h1
    obtain ⟨k1, q2, k2, k3, _⟩ := ow j d' h2
    rw [g3] at h3; cases h3
    rw [k3] at h4; cases h4
    exact e.inj i j d d' p (.inr g1) (.inr k1) g2 k2
  · rcases outsOf_at h with ⟨d0, h1, h2⟩ | h1
    · obtain ⟨p, hp⟩ := e0.oi i d0 h1
      obtain ⟨⟨d', h3⟩, _⟩ := e.io i p hp
      rw [h3] at h2; cases h2
    · cases h1
  · obtain ⟨⟨d, h1⟩, h2⟩ := e.io i p h
    obtain ⟨⟨d0, h3⟩, h4⟩ := e0.io i p h
    exact ⟨⟨d, outsOf_io h3 h1⟩, h4⟩
  · obtain ⟨_, p, _, _, g⟩ := ow i d (.inr h)
    exact ⟨p, g⟩
end
/-- a def's body keeps the promise -/
theorem fn_rd {K : PySem.W.Frag} {n m : Nat} {body : S} {N : List Str} {vs : List V} {H : Hp} {Q : VK} {E : XK} (hN : N.length = n + m) (h : spF K n (fnOf m body) vs H Q E) :
    tS K (fun c d _ H => E c d H) body { nx := fun _ H' => Q .non H', rt := Q } (L2.start N vs) H := by
  obtain ⟨args, IO, Fr, hn, e, no, h⟩ := h
  obtain ⟨e1, hd⟩ := e.more m
  have hv : vs.length = n := by have := e.len; rw [List.length_map] at this; omega
  have hst : L2.start N vs = vs.map some ++ List.replicate m none := by
    unfold L2.start
    rw [hN, hv]
    congr 2
    omega
  have hdE : Hd (args ++ List.replicate m .no) (L2.start N vs) Fr = Hd args (vs.map some) Fr := by rw [hst]; funext b; exact propext (hd b)
  refine ⟨args ++ List.replicate m .no, IO, Fr, by rw [hst]; exact e1, ?_⟩
  unfold fnOf at h
  cases hb : body (args ++ List.replicate m .no) with
  | nx env' =>
    rw [hb] at h
    intro σ' H' e2 st
    obtain ⟨e3, m3⟩ := e.back (fun _ z => z) e2
    refine h .non H' ⟨e3, rfl⟩ ?_
    rw [hdE] at st
    exact ⟨fun b o z1 z2 => same_hid.mp m3 b o (st.same b o z1 z2).1 (st.same b o z1 z2).2, st.fr⟩
  | rt s env' =>
    rw [hb] at h
    intro v σ' H' r st
    rw [hdE] at st
    cases s with
    | no => exact r.elim
    | io d => exact r.elim
    | shr d =>
      obtain ⟨e2, rp⟩ := r
      obtain ⟨e3, m3⟩ := e.back (fun _ z => z) e2
      exact h v H' ⟨e3, Rep.mono m3 rp⟩ ⟨fun b o z1 z2 => same_hid.mp m3 b o (st.same b o z1 z2).1 (st.same b o z1 z2).2, st.fr⟩
    | own d =>
      obtain ⟨p, o, rfl, np, e2, hp, ro⟩ := r
      obtain ⟨e3, m3⟩ := e.back (fun _ z => List.mem_cons_of_mem _ z) e2
      exact h _ H' ⟨p, o, rfl, np, e3, hp, RepO.mono m3 ro⟩ ⟨fun b o z1 z2 => same_hid.mp m3 b o (st.same b o z1 z2).1 (st.same b o z1 z2).2, st.fr⟩
  | ex x env' =>
    rw [hb] at h
    intro c a σ' H' e2 st ec
    rw [hdE] at st
    obtain ⟨e3, m3⟩ := e.back (fun _ z => z) e2
    exact h c a H' e3 ⟨fun b o z1 z2 => same_hid.mp m3 b o (st.same b o z1 z2).1 (st.same b o z1 z2).2, st.fr⟩ (ec.mono m3)
  | bk env' => rw [hb] at h; exact h.elim
  | ct env' => rw [hb] at h; exact h.elim
  | bad => rw [hb] at h; exact h.elim
theorem spF_len {K : PySem.W.Frag} {n : Nat} {fn : Fn} {vs : List V} {H : Hp} {Q : VK} {E : XK} (h : spF K n fn vs H Q E) : vs.length = n := by
  obtain ⟨args, IO, Fr, hn, e, _⟩ := h
  have := e.len
  rw [List.length_map] at this
  omega
section
variable {P : Program} {w : World} {K : PySem.W.Frag} {mg : Str → Option Value} {base : Heap}
/-- THE RULE for a def -/
theorem fn_ok {x qual : Str} {st : Stmt} {f : Addr} {fd : FuncData} {N ps : List Str} {k m : Nat} {body : S} (F : Fun K x qual st f fd) (S : FnScope N ps (defScope st)) (hN : N.length = ps.length + m)
    (hb : ∀ (cdv : Value) (A : Around) (outer : List Env) (s : Shared) (H : Hp) (E : XK), Room k (A.deeper (PyProof.Rows.envOfC qual (defScope st) s.heap.objs.size f cdv)) →
      PSs (cxOf (L2.CX P w) P w K mg base N qual (defScope st) f cdv A outer s H E) (defBody st) (tS K (fun c d _ H => E c d H) body)) :
    FnOk P w K mg base (L2.CX P w) (k + 1) f fd ps (spF K ps.length (fnOf m body)) :=
  F.okX S (fun vs H Q E h => spF_len h) fun cdv A outer s H vs Q E hr h => ⟨_, hb cdv A outer s H E hr, fn_rd hN h⟩
end
end PL

/-! Pl7: calls of defs. -/
namespace PL
open PySem L2

def names : List PL.A → List Nat
  | [] => []
  | .nm i :: as => i :: names as
  | .ex _ :: as => names as
/-- of the owned slots the addresses, but those at L -/
def ownAs (env : List Sl) (σ : L2.St) (L : List Nat) : List Addr := (List.range env.length).filterMap fun i => if i ∈ L then none else match env[i]?, σ[i]? with
  | some (.own _), some (some (.ref p)) => some p
  | some (.io _), some (some (.ref p)) => some p
  | _, _ => none
theorem mem_ownAs {env : List Sl} {σ : L2.St} {L : List Nat} {p : Addr} : p ∈ ownAs env σ L ↔ ∃ i d, i ∉ L ∧ OwnAt env i d ∧ σ[i]? = some (some (.ref p)) := by
  unfold ownAs
  rw [List.mem_filterMap]
  constructor
  · rintro ⟨i, _, h⟩
    split at h
    · cases h
    · rename_i hL
      split at h
      · cases h; exact ⟨i, _, hL, .inl (by assumption), by assumption⟩
      · cases h; exact ⟨i, _, hL, .inr (by assumption), by assumption⟩
      · cases h
  · rintro ⟨i, d, hL, h, hs⟩
    refine ⟨i, List.mem_range.mpr h.lt, ?_⟩
    rw [if_neg hL]
    rcases h with h | h <;> rw [h, hs]
def frzN (env : List Sl) (i : Nat) : Option (List Sl) := match env[i]? with
  | some (.own d) => some (env.set i (.shr d))
  | some (.shr _) => some env
  | _ => none
def frzNs : List Nat → List Sl → Option (List Sl)
  | [], env => some env
  | i :: L, env => (frzN env i).bind (frzNs L)
mutual
/-- nothing that can be changed, at any depth -/
def nm : D → Bool
  | .non => true | .bl _ => true | .int _ => true | .str _ => true | .obj _ => true
  | .tup ds => nms ds
  | _ => false
def nms : List D → Bool
  | [] => true
  | d :: ds => nm d && nms ds
end
def nmO : D → Bool
  | .lst ds => nms ds
  | .ins _ _ ds => nms ds
  | .dic _ ds => nms ds
  | _ => false
def nmS : Sl → Bool
  | .shr d => nm d
  | .own d => nmO d
  | _ => false
def Imm (u : HO) : Prop := (∃ vs, u = .tup vs) ∨ ∃ o w, u = .frz o w
theorem RepO.notImm {K : PySem.W.Frag} {H : Hp} : ∀ {d : D} {o : HO}, RepO K H d o → ¬ Imm o
  | .lst _, _, ⟨_, h, _⟩, z => by subst h; rcases z with ⟨_, z⟩ | ⟨_, _, z⟩ <;> cases z
  | .ins _ _ _, _, ⟨_, _, h, _⟩, z => by subst h; rcases z with ⟨_, z⟩ | ⟨_, _, z⟩ <;> cases z
  | .dic _ _, _, ⟨_, h, _⟩, z => by subst h; rcases z with ⟨_, z⟩ | ⟨_, _, z⟩ <;> cases z
mutual
theorem nm_rep {K : PySem.W.Frag} {H1 H2 : Hp} (h : ∀ b u, H1 b = some u → Imm u → H2 b = some u) : ∀ {d : D} {v : V}, nm d = true → Rep K H1 d v → Rep K H2 d v
  | .non, _, _, r => r
  | .bl _, _, _, r => r
  | .int _, _, _, r => r
  | .str _, _, _, r => r
  | .obj _, _, _, r => r
  | .tup ds, _, f, ⟨a, vs, h1, h2, h3⟩ => by
    refine ⟨a, vs, h1, ?_, nms_rep h (by simpa [nm] using f) h3⟩
    rcases h2 with (h2 | ⟨o, h2⟩) | h2
    · exact .inl (.inl (h _ _ h2 (.inl ⟨_, rfl⟩)))
    · exact .inl (.inr ⟨o, h _ _ h2 (.inr ⟨_, _, rfl⟩)⟩)
    · exact .inr h2
theorem nms_rep {K : PySem.W.Frag} {H1 H2 : Hp} (h : ∀ b u, H1 b = some u → Imm u → H2 b = some u) : ∀ {ds : List D} {vs : List V}, nms ds = true → RepL K H1 ds vs → RepL K H2 ds vs
  | [], _, _, r => r
  | d :: ds, _, f, ⟨v, s, h1, h2, h3⟩ => by
    simp only [nms, Bool.and_eq_true] at f
    exact ⟨v, s, h1, nm_rep h f.1 h2, nms_rep h f.2 h3⟩
end
theorem nmO_rep {K : PySem.W.Frag} {H1 H2 : Hp} (h : ∀ b u, H1 b = some u → Imm u → H2 b = some u) : ∀ {d : D} {o : HO}, nmO d = true → RepO K H1 d o → RepO K H2 d o
  | .lst ds, _, f, ⟨vs, h1, h2⟩ => ⟨vs, h1, nms_rep h f h2⟩
  | .ins c ns ds, _, f, ⟨dx, vs, h1, h2, h3⟩ => ⟨dx, vs, h1, h2, nms_rep h f h3⟩
  | .dic ks ds, _, f, ⟨vs, h1, h2, h3⟩ => ⟨vs, h1, h2, nms_rep h f h3⟩
/-- lent names: as they were where nothing of them can be held by what came back, else shared from here on -/
def keepOr (k : Bool) (L : List Nat) (env : List Sl) : Option (List Sl) := if k then some env else frzNs L env
def flatS : Sl → Bool
  | .shr d => flat d
  | .own d => flatO d
  | _ => false
section
variable {K : PySem.W.Frag} {env env2 : List Sl} {IO : List (Option Addr)} {Fr : List Addr} {σ : L2.St} {H H' : Hp} {L : List Nat}
theorem frzNs_ok : ∀ {L : List Nat} {env env2 : List Sl}, frzNs L env = some env2 → EnvOk K env IO Fr σ H →
    EnvOk K env2 IO Fr σ H ∧ (∀ i d, OwnAt env2 i d → OwnAt env i d ∧ i ∉ L) ∧ (∀ i, i ∉ L → env2[i]? = env[i]?)
  | [], env, env2, h, e => by cases h; exact ⟨e, fun i d z => ⟨z, by simp⟩, fun _ _ => rfl⟩
  | i :: L, env, env2, h, e => by
    obtain ⟨env1, h1, h2⟩ := Option.bind_eq_some_iff.mp h
    unfold frzN at h1
    split at h1
    · rename_i d he
      cases h1
      obtain ⟨e1, _⟩ := e.frz he
      obtain ⟨e2, o2, n2⟩ := frzNs_ok h2 e1
      refine ⟨e2, fun j f z => ?_, fun j hj => ?_⟩
      · obtain ⟨z1, z2⟩ := o2 j f z
        have := ownAt_set.mp z1
        rcases this with ⟨_, _, q | q⟩ | ⟨q1, q2⟩
        · cases q
        · cases q
        · exact ⟨q2, by simp [q1, z2]⟩
      · simp only [List.mem_cons, not_or] at hj
        rw [n2 j hj.2, List.getElem?_set_ne (Ne.symm hj.1)]
    · rename_i d he
      cases h1
      obtain ⟨e2, o2, n2⟩ := frzNs_ok h2 e
      refine ⟨e2, fun j f z => ?_, fun j hj => ?_⟩
      · obtain ⟨z1, z2⟩ := o2 j f z
        refine ⟨z1, ?_⟩
        have : j ≠ i := by
          rintro rfl
          rcases z1 with q | q <;> rw [he] at q <;> cases q
        simp [this, z2]
      · simp only [List.mem_cons, not_or] at hj
        exact n2 j hj.2
    · cases h1
theorem keepOr_ok {k : Bool} (h : keepOr k L env = some env2) (e : EnvOk K env IO Fr σ H) :
    EnvOk K env2 IO Fr σ H ∧ (∀ i d, OwnAt env2 i d → OwnAt env i d ∧ (k = false → i ∉ L)) ∧ (∀ i, i ∉ L → env2[i]? = env[i]?) := by
  unfold keepOr at h
  cases k with
  | true => cases h; exact ⟨e, fun i d z => ⟨z, fun q => by cases q⟩, fun _ _ => rfl⟩
  | false =>
    obtain ⟨h1, h2, h3⟩ := frzNs_ok h e
    exact ⟨h1, fun i d z => ⟨(h2 i d z).1, fun _ => (h2 i d z).2⟩, h3⟩
theorem keepOr_hd {k : Bool} (ho : ∀ i d, OwnAt env2 i d → OwnAt env i d ∧ (k = false → i ∉ L)) : ∀ b, Hd env2 σ Fr b → Hd env σ Fr b := fun b h => by
  rcases h with h | ⟨i, d, h1, h2⟩
  · exact .inl h
  · exact .inr ⟨i, d, (ho i d h1).1, h2⟩
/-- the arguments as the callee sees them: C is what is hidden from it -/
theorem args_rep {C : Addr → Prop} (e : EnvOk K env IO Fr σ H) (hC : ∀ b, C b → Hd env σ Fr b) (hL : ∀ i d p, i ∈ L → OwnAt env i d → σ[i]? = some (some (.ref p)) → ¬ C p) :
    ∀ {as : List PL.A} {os : List (Option D)} {vs : List V} {ds : List D}, (∀ i ∈ names as, i ∈ L) → AVs K env Fr σ H as os vs → fins as os env = some ds → RepL K (hid H C) ds vs
  | [], _, _, _, _, ⟨h1, h2⟩, h => by subst h1 h2; cases h; rfl
  | a :: as, _, _, ds, hn, ⟨o, r, v, q, h1, h2, h3, h4⟩, h => by
    subst h1 h2
    have m : Same (hid H (Hd env σ Fr)) (hid H C) := same_hid.mpr fun b u z1 z2 => ⟨fun z => z1 (hC b z), z2⟩
    unfold fins at h
    split at h
    · rename_i d ds' hd hds
      cases h
      refine ⟨v, q, rfl, ?_, args_rep e hC hL (fun i hi => hn i ?_) h4 hds⟩
      · cases a with
        | ex f =>
          obtain ⟨d', g1, g2⟩ := h3
          have : o = some d := hd
          rw [this] at g1
          cases g1
          exact Rep.mono m g2
        | nm i =>
          have hσ : σ[i]? = some (some v) := h3
          have hp : PL.pk env i = some d := hd
          have hi : i ∈ L := hn i (by simp [names])
          unfold PL.pk at hp
          split at hp
          · cases hp
            obtain ⟨w, g1, g2⟩ := e.shr _ _ (by assumption)
            rw [hσ] at g1; cases g1
            exact Rep.mono m g2
          · rename_i d' he
            cases hp
            obtain ⟨p, o', g1, g2, g3, g4⟩ := e.own _ _ (.inl he)
            rw [hσ] at g1; cases g1
            exact RepO.rep m g4 (hid_some.mpr ⟨hL i _ p hi (.inl he) hσ, g3⟩)
          · rename_i d' he
            cases hp
            obtain ⟨p, o', g1, g2, g3, g4⟩ := e.own _ _ (.inr he)
            rw [hσ] at g1; cases g1
            exact RepO.rep m g4 (hid_some.mpr ⟨hL i _ p hi (.inr he) hσ, g3⟩)
          · cases hp
      · cases a <;> simp [names, hi]
    · cases h
theorem shr_at {ds : List D} {i : Nat} {s : Sl} (h : (ds.map Sl.shr)[i]? = some s) : ∃ d, s = .shr d ∧ ds[i]? = some d := by
  rw [List.getElem?_map] at h
  obtain ⟨d, h1, h2⟩ := Option.map_eq_some_iff.mp h
  exact ⟨d, h2.symm, h1⟩
/-- the callee's entry: shared arguments alone -/
theorem env_shr {ds : List D} {vs : List V} (hf : ∀ b ∈ Fr, H b ≠ none) (r : RepL K (hid H (· ∈ Fr)) ds vs) :
    EnvOk K (ds.map .shr) [] Fr (vs.map some) H ∧ (∀ b, Hd (ds.map .shr) (vs.map some) Fr b ↔ b ∈ Fr) ∧ noOwn (ds.map .shr) := by
  have no : ∀ i d, ¬ OwnAt (ds.map .shr) i d := fun i d h => by
    rcases h with h | h <;> (obtain ⟨_, h1, _⟩ := shr_at h; cases h1)
  have hd : ∀ b, Hd (ds.map .shr) (vs.map some) Fr b ↔ b ∈ Fr := fun b => ⟨fun h => h.elim id fun ⟨i, d, h1, _⟩ => absurd h1 (no i d), .inl⟩
  have he : hid H (Hd (ds.map .shr) (vs.map some) Fr) = hid H (· ∈ Fr) := by congr 1; funext b; exact propext (hd b)
  refine ⟨⟨by simp [r.len], hf, fun i d h => absurd h (no i d), fun i j d d' p h => absurd h (no i d), fun i d h => ?_, fun i p h => by simp at h, fun i d h => ?_⟩, hd, fun i d h => ?_⟩
  · obtain ⟨d', h1, h2⟩ := shr_at h
    cases h1
    obtain ⟨v, g1, g2⟩ := r.get h2
    exact ⟨v, by rw [List.getElem?_map, g1]; rfl, by rw [he]; exact g2⟩
  · exact absurd (.inr h) (no i d)
  · exact absurd (.inl h) (no i d)
/-- .. behind an object that is lent to be changed -/
theorem env_io {p : Addr} {o : HO} {d0 : D} {ds : List D} {vs : List V} (hf : ∀ b ∈ Fr, H b ≠ none) (np : p ∉ Fr) (hp : H p = some o) (ro : RepO K (hid H fun b => b ∈ Fr ∨ b = p) d0 o) (r : RepL K (hid H fun b => b ∈ Fr ∨ b = p) ds vs) :
    EnvOk K (.io d0 :: ds.map .shr) [some p] Fr ((V.ref p :: vs).map some) H ∧ (∀ b, Hd (.io d0 :: ds.map .shr) ((V.ref p :: vs).map some) Fr b ↔ b ∈ Fr ∨ b = p) ∧ noOwn (.io d0 :: ds.map .shr) := by
  have ow : ∀ i d, OwnAt (.io d0 :: ds.map .shr) i d → i = 0 ∧ d = d0 := fun i d h => by
    cases i with
    | zero => rcases h with h | h <;> simp at h; exact ⟨rfl, h.symm⟩
    | succ i =>
      rcases h with h | h <;> (simp only [List.getElem?_cons_succ] at h; obtain ⟨_, h1, _⟩ := shr_at h; cases h1)
  have hd : ∀ b, Hd (.io d0 :: ds.map .shr) ((V.ref p :: vs).map some) Fr b ↔ b ∈ Fr ∨ b = p := fun b => by
    constructor
    · rintro (h | ⟨i, d, h1, h2⟩)
      · exact .inl h
      · obtain ⟨rfl, _⟩ := ow i d h1
        simp at h2
        exact .inr h2.symm
    · rintro (h | rfl)
      · exact .inl h
      · exact .inr ⟨0, d0, .inr rfl, rfl⟩
  have he : hid H (Hd (.io d0 :: ds.map .shr) ((V.ref p :: vs).map some) Fr) = hid H (fun b => b ∈ Fr ∨ b = p) := by congr 1; funext b; exact propext (hd b)
  refine ⟨⟨by simp [r.len], hf, fun i d h => ?_, fun i j d d' q h1 h2 _ _ => by rw [(ow i d h1).1, (ow j d' h2).1], fun i d h => ?_, fun i q h => ?_, fun i d h => ?_⟩, hd, fun i d h => ?_⟩
  · obtain ⟨rfl, rfl⟩ := ow i d h
    exact ⟨p, o, rfl, np, hp, by rw [he]; exact ro⟩
  · cases i with
    | zero => simp at h
    | succ i =>
      simp only [List.getElem?_cons_succ] at h
      obtain ⟨d', h1, h2⟩ := shr_at h
      cases h1
      obtain ⟨v, g1, g2⟩ := r.get h2
      exact ⟨v, by simp [g1], by rw [he]; exact g2⟩
  · cases i with
    | zero => simp at h; subst h; exact ⟨⟨d0, rfl⟩, rfl⟩
    | succ i => simp at h
  · obtain ⟨rfl, _⟩ := ow i d (.inr h)
    exact ⟨p, rfl⟩
  · cases i with
    | zero => simp at h
    | succ i => simp only [List.getElem?_cons_succ] at h; obtain ⟨_, h1, _⟩ := shr_at h; cases h1
/-- a shared result of a call that changed nothing of ours -/
theorem post_shr {d : D} {v : V} (e : EnvOk K env IO Fr σ H) (sm : Same H H') (hk : keepOr (nm d) L env = some env2) (r : Rep K (hid H' (· ∈ Fr ++ ownAs env σ L)) d v) :
    ResOk K (.shr d) v env2 IO Fr σ H' ∧ Stp Fr (Hd env σ Fr) H (Hd env2 σ Fr) H' := by
  obtain ⟨e2, ho, _⟩ := keepOr_ok hk (e.grow sm)
  have hh := keepOr_hd (Fr := Fr) (σ := σ) ho
  refine ⟨⟨e2, ?_⟩, ⟨fun b o h1 h2 => ⟨fun z => h1 (hh b z), sm b o h2⟩, (e.stp sm).fr⟩⟩
  cases hf : nm d with
  | true =>
    refine nm_rep (fun b u hb im => ?_) hf r
    obtain ⟨z1, z2⟩ := hid_some.mp hb
    refine hid_some.mpr ⟨fun z => ?_, z2⟩
    rcases z with z | ⟨i, f, y1, y2⟩
    · exact z1 (List.mem_append_left _ z)
    · obtain ⟨q, o, m1, m2, m3, m4⟩ := e2.own i f y1
      rw [y2] at m1; cases m1
      rw [z2] at m3; cases m3
      exact m4.notImm im
  | false =>
    refine Rep.mono (same_hid.mpr fun b u h1 h2 => ⟨fun z => h1 ?_, h2⟩) r
    rw [List.mem_append]
    rcases z with z | ⟨i, f, z1, z2⟩
    · exact .inl z
    · exact .inr (mem_ownAs.mpr ⟨i, f, (ho i f z1).2 hf, (ho i f z1).1, z2⟩)
theorem post_own {d : D} {p : Addr} {o : HO} (e : EnvOk K env IO Fr σ H) (sm : Same H H') (hp : H p = none) (ho' : H' p = some o) (hk : keepOr (nmO d) L env = some env2) (r : RepO K (hid H' fun b => b ∈ Fr ++ ownAs env σ L ∨ b = p) d o) :
    ResOk K (.own d) (.ref p) env2 IO Fr σ H' ∧ Stp Fr (Hd env σ Fr) H (Hd env2 σ (frOf (.own d) (.ref p) Fr)) H' := by
  have hm : H' = upd (fun b => if b = p then none else H' b) p o := by
    funext b
    unfold upd
    split
    · rename_i h; rw [h, ho']
    · rename_i h
      show H' b = if b = p then none else H' b
      rw [if_neg h]
  have sm1 : Same H (fun b => if b = p then none else H' b) := fun b u h => by
    have : b ≠ p := ne_of_none h hp
    simp only [this, if_false]
    exact sm b u h
  have hpn : (fun b => if b = p then none else H' b) p = (none : Option HO) := by simp
  obtain ⟨e2, ho, _⟩ := keepOr_ok hk (e.grow sm1)
  have hh := keepOr_hd (Fr := Fr) (σ := σ) ho
  have ro : RepO K (hid (fun b => if b = p then none else H' b) (Hd env2 σ Fr)) d o := by
    cases hf : nmO d with
    | true =>
      refine nmO_rep (fun b u hb im => ?_) hf r
      obtain ⟨z1, z2⟩ := hid_some.mp hb
      have nb : b ≠ p := fun z => z1 (.inr z)
      refine hid_some.mpr ⟨fun z => ?_, by simp only [nb, if_false]; exact z2⟩
      rcases z with z | ⟨i, f, y1, y2⟩
      · exact z1 (.inl (List.mem_append_left _ z))
      · obtain ⟨q, o, m1, m2, m3, m4⟩ := e2.own i f y1
        rw [y2] at m1; cases m1
        simp only [nb, if_false] at m3
        rw [z2] at m3; cases m3
        exact m4.notImm im
    | false =>
      refine RepO.mono (same_hid.mpr fun b u h1 h2 => ?_) r
      have hb : b ≠ p := fun z => h1 (.inr z)
      refine ⟨fun z => h1 (.inl ?_), by simp only [hb, if_false]; exact h2⟩
      rw [List.mem_append]
      rcases z with z | ⟨i, f, z1, z2⟩
      · exact .inl z
      · exact .inr (mem_ownAs.mpr ⟨i, f, (ho i f z1).2 hf, (ho i f z1).1, z2⟩)
  obtain ⟨g1, g2⟩ := e2.new hpn ro
  rw [← hm] at g1 g2
  refine ⟨g1, ⟨fun b u h1 h2 => ?_, fun b hb => ?_⟩⟩
  · have h3 := sm1 b u h2
    exact g2.same b u (fun z => h1 (hh b z)) h3
  · rw [g2.fr b hb]
    exact ((e.stp sm1).fr b hb)
theorem post_exc {x : Exn} {c : Value} {a : Option Addr} (e : EnvOk K env IO Fr σ H) (sm : Same H H') (hk : keepOr (nms x.xs) L env = some env2) (r : ExcOk K (hid H' (· ∈ Fr ++ ownAs env σ L)) x c a) :
    EnvOk K env2 IO Fr σ H' ∧ Stp Fr (Hd env σ Fr) H (Hd env2 σ Fr) H' ∧ ExcOk K (hid H' (Hd env2 σ Fr)) x c a := by
  obtain ⟨e2, ho, _⟩ := keepOr_ok hk (e.grow sm)
  have hh := keepOr_hd (Fr := Fr) (σ := σ) ho
  refine ⟨e2, ⟨fun b o h1 h2 => ⟨fun z => h1 (hh b z), sm b o h2⟩, (e.stp sm).fr⟩, ?_⟩
  cases hf : nms x.xs with
  | true =>
    obtain ⟨h1, h2 | ⟨d, vs, h3, h4, h5, h6⟩⟩ := r
    · exact ⟨h1, .inl h2⟩
    · obtain ⟨g1, g2⟩ := hid_some.mp h4
      refine ⟨h1, .inr ⟨d, vs, h3, hid_some.mpr ⟨?_, g2⟩, h5, nms_rep (fun b u hb im => ?_) hf h6⟩⟩
      rotate_left
      · obtain ⟨z1, z2⟩ := hid_some.mp hb
        refine hid_some.mpr ⟨fun z => ?_, z2⟩
        rcases z with z | ⟨i, f, y1, y2⟩
        · exact z1 (List.mem_append_left _ z)
        · obtain ⟨q, o, m1, m2, m3, m4⟩ := e2.own i f y1
          rw [y2] at m1; cases m1
          rw [z2] at m3; cases m3
          exact m4.notImm im
      rintro (z | ⟨i, f, z1, z2⟩)
      · exact g1 (List.mem_append_left _ z)
      · obtain ⟨q, o, k1, k2, k3, k4⟩ := e2.own i f z1
        rw [z2] at k1; cases k1
        rw [g2] at k3; cases k3
        cases f with
        | lst _ => obtain ⟨_, q, _⟩ := k4; cases q
        | ins _ _ _ => obtain ⟨_, _, q, _⟩ := k4; cases q
        | dic _ _ => obtain ⟨_, q, _⟩ := k4; cases q
        | _ => exact k4.elim
  | false =>
    refine r.mono (same_hid.mpr fun b u h1 h2 => ⟨fun z => h1 ?_, h2⟩)
    rw [List.mem_append]
    rcases z with z | ⟨i, f, z1, z2⟩
    · exact .inl z
    · exact .inr (mem_ownAs.mpr ⟨i, f, (ho i f z1).2 hf, (ho i f z1).1, z2⟩)
end
end PL

/-! Pl8: the rules for calls. -/
namespace PL
open PySem L2

/-- f(..): names are lent, all else is shared -/
def callEnd (fn : Fn) (as : List PL.A) (os : List (Option D)) (e1 : List Sl) : Res Sl := match fins as os e1 with
  | none => .bad
  | some ds => match fn (ds.map .shr) with
    | .ok s _ => (match keepOr (nmS s) (names as) e1 with
      | some e2 => .ok s e2
      | none => .bad)
    | .exc x _ => (match keepOr (nms x.xs) (names as) e1 with
      | some e2 => .exc x e2
      | none => .bad)
    | .bad => .bad
def callF (fn : Fn) (as : List PL.A) : E := fun env => (evs as env).bind fun os e1 => callEnd fn as os e1
def ownOf (env : List Sl) (i : Nat) : Option D := match env[i]? with
  | some (.own d) => some d
  | some (.io d) => some d
  | _ => none
/-- f(p, ..): p's object is lent to be changed -/
def callIO (i0 : Nat) (fn : Fn) (as : List PL.A) : E := fun env => if (pk env i0).isNone then .bad else (evs as env).bind fun os e1 => match fins as os e1, ownOf e1 i0 with
  | some ds, some d0 => if i0 ∈ names as then .bad else (match fn (.io d0 :: ds.map .shr) with
    | .ok s (.io d' :: _) => (match keepOr (flatS s && flatO d') (names as) e1 with
      | some e2 => .ok s (setD e2 i0 d')
      | none => .bad)
    | .exc x (.io d' :: _) => (match keepOr (x.xs.all flat && flatO d') (names as) e1 with
      | some e2 => .exc x (setD e2 i0 d')
      | none => .bad)
    | _ => .bad)
  | _, _ => .bad
/-- C(..) -/
def mkE (c : Str) (fn : Fn) (as : List PL.A) : E := fun env => (evs as env).bind fun os e1 => match fins as os e1 with
  | none => .bad
  | some ds => match fn (.io (.ins c [] []) :: ds.map .shr) with
    | .ok (.shr .non) (.io d' :: _) => (match keepOr (nmO d') (names as) e1 with
      | some e2 => .ok (.own d') e2
      | none => .bad)
    | .exc x _ => (match keepOr (nms x.xs) (names as) e1 with
      | some e2 => .exc x e2
      | none => .bad)
    | _ => .bad
theorem fins_len : ∀ {as : List PL.A} {os : List (Option D)} {env : List Sl} {ds : List D}, fins as os env = some ds → ds.length = as.length
  | [], _, _, _, h => by cases h; rfl
  | a :: as, [], _, _, h => by cases h
  | a :: as, o :: os, env, ds, h => by
    unfold fins at h
    split at h
    · rename_i d ds' h1 h2
      cases h
      simp [fins_len h2]
    · cases h
section
variable {K : PySem.W.Frag} {W : WX} {env : List Sl} {IO : List (Option Addr)} {Fr : List Addr} {σ : L2.St} {H H' : Hp} {L : List Nat}
theorem EnvOk.frOwn (e : EnvOk K env IO Fr σ H) (L : List Nat) : ∀ b ∈ Fr ++ ownAs env σ L, H b ≠ none := fun b hb => by
  rcases List.mem_append.mp hb with h | h
  · exact e.fr b h
  · obtain ⟨i, d, _, h1, h2⟩ := mem_ownAs.mp h
    obtain ⟨p, o, g1, _, g3, _⟩ := e.own i d h1
    rw [h2] at g1; cases g1
    rw [g3]; simp
theorem hdOwn (L : List Nat) : ∀ b, b ∈ Fr ++ ownAs env σ L → Hd env σ Fr b := fun b hb => by
  rcases List.mem_append.mp hb with h | h
  · exact .inl h
  · obtain ⟨i, d, _, h1, h2⟩ := mem_ownAs.mp h
    exact .inr ⟨i, d, h1, h2⟩
theorem EnvOk.ownNot (e : EnvOk K env IO Fr σ H) (L : List Nat) : ∀ i d p, i ∈ L → OwnAt env i d → σ[i]? = some (some (.ref p)) → ¬ p ∈ Fr ++ ownAs env σ L := fun i d p hi h hs hp => by
  obtain ⟨q, o, g1, g2, _⟩ := e.own i d h
  rw [hs] at g1; cases g1
  rcases List.mem_append.mp hp with z | z
  · exact g2 z
  · obtain ⟨j, f, hj, h1, h2⟩ := mem_ownAs.mp z
    have := e.inj i j d f p h h1 hs h2
    subst this
    exact hj hi
/-- nothing of ours has changed behind a call that was lent nothing to change -/
theorem same_of {Fr' F2 : List Addr} {args outs : List Sl} {σ1 σ2 : L2.St} (ha : ∀ b, Hd args σ1 Fr' b ↔ b ∈ Fr') (st : Stp Fr' (Hd args σ1 Fr') H (Hd outs σ2 F2) H') : Same H H' := fun b o h => by
  by_cases hb : b ∈ Fr'
  · rw [st.fr b hb]; exact h
  · exact (st.same b o (fun z => hb ((ha b).mp z)) h).2
theorem callEnd_rd {fn : Fn} {as : List PL.A} {os : List (Option D)} {e1 : List Sl} {H1 : Hp} {vs : List V} {Q : VK} (ok1 : EnvOk K e1 IO Fr σ H1) (avs : AVs K e1 Fr σ H1 as os vs)
    (h1 : RunE K W IO Fr (Hd e1 σ Fr) H1 σ (callEnd fn as os e1) Q) : spF K as.length fn vs H1 Q fun c a H' => W c a σ H' := by
  unfold callEnd at h1
  cases hf : fins as os e1 with
  | none => rw [hf] at h1; exact h1.elim
  | some ds =>
    rw [hf] at h1
    simp only [] at h1
    have r := args_rep (C := (· ∈ Fr ++ ownAs e1 σ (names as))) (L := names as) ok1 (hdOwn _) (ok1.ownNot _) (fun _ z => z) avs hf
    obtain ⟨e2, hd2, no⟩ := env_shr (ok1.frOwn (names as)) r
    refine ⟨ds.map .shr, [], Fr ++ ownAs e1 σ (names as), by rw [List.length_map]; exact fins_len hf, e2, no, ?_⟩
    cases hfn : fn (ds.map .shr) with
    | bad => rw [hfn] at h1; exact h1.elim
    | ok s outs =>
      rw [hfn] at h1
      simp only [] at h1
      intro v H' rs st
      have sm := same_of hd2 st
      cases hk : keepOr (nmS s) (names as) e1 with
      | none => rw [hk] at h1; exact h1.elim
      | some e3 =>
        rw [hk] at h1
        cases s with
        | no => exact rs.elim
        | io d => exact rs.elim
        | shr d =>
          obtain ⟨_, rp⟩ := rs
          obtain ⟨g1, g2⟩ := post_shr ok1 sm hk (Rep.mono (same_hid.mpr fun b u z1 z2 => ⟨fun z => z1 (.inl z), z2⟩) rp)
          exact h1 v H' g1 g2
        | own d =>
          obtain ⟨p, o, rfl, np, _, hp, ro⟩ := rs
          have hpn : H1 p = none := by
            cases q : H1 p with
            | none => rfl
            | some u => exact absurd (.inl List.mem_cons_self) (st.same p u (fun z => np ((hd2 p).mp z)) q).1
          obtain ⟨g1, g2⟩ := post_own ok1 sm hpn hp hk (RepO.mono (same_hid.mpr fun b u z1 z2 => ⟨fun z => z1 (.inl (List.mem_cons.mpr (z.elim .inr .inl))), z2⟩) ro)
          exact h1 _ H' g1 g2
    | exc x outs =>
      rw [hfn] at h1
      simp only [] at h1
      intro c a H' eo st ec
      have sm := same_of hd2 st
      cases hk : keepOr (nms x.xs) (names as) e1 with
      | none => rw [hk] at h1; exact h1.elim
      | some e3 =>
        rw [hk] at h1
        obtain ⟨g1, g2, g3⟩ := post_exc ok1 sm hk (ec.mono (same_hid.mpr fun b u z1 z2 => ⟨fun z => z1 (.inl z), z2⟩))
        exact h1 c a H' g1 g2 g3
theorem call_rd {fn : Fn} {as : List PL.A} {Q : VK} (w : tE K W (callF fn as) σ H Q) : tAs K W as σ H fun vs H1 => spF K as.length fn vs H1 Q fun c a H' => W c a σ H' := by
  obtain ⟨env, IO, Fr, e, w⟩ := tE_run.mp w
  exact tAs_of e (Run.mono (Stp.refl _ _ _) w.split fun os e1 H1 ok1 s1 h1 vs _ avs => callEnd_rd ok1 avs h1)
theorem hd_setD {i : Nat} {d d' : D} (h : OwnAt env i d) : ∀ b, Hd (setD env i d') σ Fr b ↔ Hd env σ Fr b := fun b => by
  have hi := h.lt
  have ow : ∀ j f, OwnAt (setD env i d') j f ↔ (j = i ∧ f = d') ∨ (j ≠ i ∧ OwnAt env j f) := fun j f => by
    unfold setD
    rcases h with h | h <;> rw [h] <;> simp only [] <;> rw [ownAt_set] <;> constructor
    · rintro (⟨h1, _, h | h⟩ | h)
      · cases h; exact .inl ⟨h1, rfl⟩
      · cases h
      · exact .inr h
    · rintro (⟨h1, h2⟩ | h)
      · exact .inl ⟨h1, hi, .inl (by rw [h2])⟩
      · exact .inr h
    · rintro (⟨h1, _, h | h⟩ | h)
      · cases h
      · cases h; exact .inl ⟨h1, rfl⟩
      · exact .inr h
    · rintro (⟨h1, h2⟩ | h)
      · exact .inl ⟨h1, hi, .inr (by rw [h2])⟩
      · exact .inr h
  constructor
  · rintro (z | ⟨j, f, g1, g2⟩)
    · exact .inl z
    · rcases (ow j f).mp g1 with ⟨rfl, _⟩ | ⟨_, g'⟩
      · exact .inr ⟨j, d, h, g2⟩
      · exact .inr ⟨j, f, g', g2⟩
  · rintro (z | ⟨j, f, g1, g2⟩)
    · exact .inl z
    · by_cases hj : j = i
      · subst hj; exact .inr ⟨j, d', (ow _ _).mpr (.inl ⟨rfl, rfl⟩), g2⟩
      · exact .inr ⟨j, f, (ow _ _).mpr (.inr ⟨hj, g1⟩), g2⟩
theorem ownOf_at {i : Nat} {d : D} (h : ownOf env i = some d) : OwnAt env i d := by
  unfold ownOf at h
  split at h
  · cases h; exact .inl (by assumption)
  · cases h; exact .inr (by assumption)
  · cases h
/-- behind a call that changed the object at p0: Hg is the heap behind it with the old object there (and without what the result owns) -/
theorem post_io {i0 : Nat} {p0 : Addr} {d0 d' : D} {o0 o' : HO} {k : Bool} {e2 : List Sl} {Hg : Hp} {C : Addr → Prop} (e : EnvOk K env IO Fr σ H) (h0 : OwnAt env i0 d0) (hs : σ[i0]? = some (some (.ref p0))) (hn : i0 ∉ L) (ho : H p0 = some o0)
    (sm : Same H Hg) (hk : keepOr k L env = some e2) (hkf : k = true → flatO d' = true) (ro : RepO K (hid Hg C) d' o') (hC : ∀ b, (b ∈ Fr ++ ownAs env σ (i0 :: L) ∨ b = p0) → C b) :
    EnvOk K (setD e2 i0 d') IO Fr σ (upd Hg p0 o') ∧ Stp Fr (Hd env σ Fr) H (Hd (setD e2 i0 d') σ Fr) (upd Hg p0 o') ∧
      (∀ b, Hd (setD e2 i0 d') σ Fr b ↔ Hd e2 σ Fr b) ∧ (k = false → ∀ b, Hd e2 σ Fr b → (b ∈ Fr ++ ownAs env σ (i0 :: L) ∨ b = p0)) := by
  obtain ⟨g2, ow2, n2⟩ := keepOr_ok hk (e.grow sm)
  have hh := keepOr_hd (Fr := Fr) (σ := σ) ow2
  have h0' : OwnAt e2 i0 d0 := by unfold OwnAt; rw [n2 i0 hn]; exact h0
  have sub : k = false → ∀ b, Hd e2 σ Fr b → (b ∈ Fr ++ ownAs env σ (i0 :: L) ∨ b = p0) := fun hk0 b z => by
    rcases z with z | ⟨i, f, z1, z2⟩
    · exact .inl (List.mem_append_left _ z)
    · by_cases hi : i = i0
      · subst hi
        rw [hs] at z2; cases z2
        exact .inr rfl
      · exact .inl (List.mem_append_right _ (mem_ownAs.mpr ⟨i, f, by simp [hi, (ow2 i f z1).2 hk0], (ow2 i f z1).1, z2⟩))
  have ro' : RepO K (hid Hg (Hd e2 σ Fr)) d' o' := by
    cases hk1 : k with
    | true => exact flatO_rep (hkf hk1) ro
    | false => exact RepO.mono (same_hid.mpr fun b u z1 z2 => ⟨fun z => z1 (hC b (sub hk1 b z)), z2⟩) ro
  obtain ⟨c1, c2⟩ := g2.change h0' hs ro'
  refine ⟨c1, ⟨fun b u z1 z2 => c2.same b u (fun z => z1 (hh b z)) (sm b u z2), fun b hb => ?_⟩, hd_setD h0', sub⟩
  rw [c2.fr b hb]
  exact (e.stp sm).fr b hb
theorem callIO_rd {fn : Fn} {i0 : Nat} {as : List PL.A} {Q : VK} (w : tE K W (callIO i0 fn as) σ H Q) : tVar i0 σ H fun x H0 => tAs K W as σ H0 fun vs H1 => spF K (as.length + 1) fn (x :: vs) H1 Q fun c a H' => W c a σ H' := by
  obtain ⟨env, IO, Fr, e, w⟩ := tE_run.mp w
  unfold callIO at w
  cases hpk : PL.pk env i0 with
  | none => rw [hpk] at w; exact w.elim
  | some dx =>
  rw [hpk] at w
  simp only [Option.isNone_some, Bool.false_eq_true, if_false] at w
  obtain ⟨x, hx, _⟩ := e.pk hpk
  refine ⟨x, hx, tAs_of e (Run.mono (Stp.refl _ _ _) w.split fun os e1 H1 ok1 s1 h1 vs _ avs => ?_)⟩
  cases hf : fins as os e1 with
  | none => rw [hf] at h1; exact h1.elim
  | some ds =>
    cases ho : ownOf e1 i0 with
    | none => rw [hf, ho] at h1; exact h1.elim
    | some d0 =>
      rw [hf, ho] at h1
      simp only [] at h1
      by_cases hn : i0 ∈ names as
      · rw [if_pos hn] at h1; exact h1.elim
      rw [if_neg hn] at h1
      have h0 := ownOf_at ho
      obtain ⟨p0, o0, hs, np0, hp0, ro0⟩ := ok1.own i0 d0 h0
      rw [hx] at hs
      cases hs
      have np : p0 ∉ Fr ++ ownAs e1 σ (i0 :: names as) := ok1.ownNot (i0 :: names as) i0 d0 p0 List.mem_cons_self h0 hx
      have hC : ∀ b, (b ∈ Fr ++ ownAs e1 σ (i0 :: names as) ∨ b = p0) → Hd e1 σ Fr b := fun b z => z.elim (hdOwn _ b) fun z => .inr ⟨i0, d0, h0, z ▸ hx⟩
      have r := args_rep (C := fun b => b ∈ Fr ++ ownAs e1 σ (i0 :: names as) ∨ b = p0) (L := names as) ok1 hC (fun i d p hi ho' hs' z => by
        rcases z with z | z
        · exact ok1.ownNot (i0 :: names as) i d p (List.mem_cons_of_mem _ hi) ho' hs' z
        · subst z
          have := ok1.inj i i0 d d0 p ho' h0 hs' hx
          subst this
          exact hn hi) (fun _ z => z) avs hf
      have ro1 : RepO K (hid H1 fun b => b ∈ Fr ++ ownAs e1 σ (i0 :: names as) ∨ b = p0) d0 o0 := RepO.mono (same_hid.mpr fun b u z1 z2 => ⟨fun z => z1 (hC b z), z2⟩) ro0
      obtain ⟨e2, hd2, no⟩ := env_io (ok1.frOwn (i0 :: names as)) np hp0 ro1 r
      refine ⟨.io d0 :: ds.map .shr, [some p0], Fr ++ ownAs e1 σ (i0 :: names as), by rw [List.length_cons, List.length_map, fins_len hf], e2, no, ?_⟩
      -- all but p0 stands
      have keep : ∀ {outs : List Sl} {σ2 : L2.St} {F2 : List Addr} {H' : Hp}, Stp (Fr ++ ownAs e1 σ (i0 :: names as)) (Hd (.io d0 :: ds.map .shr) ((V.ref p0 :: vs).map some) (Fr ++ ownAs e1 σ (i0 :: names as))) H1 (Hd outs σ2 F2) H' →
          ∀ b o, b ≠ p0 → H1 b = some o → H' b = some o := fun st b o hb h => by
        by_cases hm : b ∈ Fr ++ ownAs e1 σ (i0 :: names as)
        · rw [st.fr b hm]; exact h
        · exact (st.same b o (fun z => ((hd2 b).mp z).elim hm hb) h).2
      have keepG : ∀ {H' : Hp}, (∀ b o, b ≠ p0 → H1 b = some o → H' b = some o) → Same H1 (fun b => if b = p0 then some o0 else H' b) := fun k b o h => by
        by_cases hb : b = p0
        · subst hb; rw [hp0] at h; cases h; simp
        · simp only [hb, if_false]; exact k b o hb h
      have back : ∀ {H' : Hp} {o' : HO}, H' p0 = some o' → upd (fun b => if b = p0 then some o0 else H' b) p0 o' = H' := fun h => by
        funext b
        unfold upd
        split
        · rename_i hb; rw [hb, h]
        · rename_i hb
          show (if b = p0 then some o0 else _) = _
          rw [if_neg hb]
      cases hfn : fn (.io d0 :: ds.map .shr) with
      | bad => rw [hfn] at h1; exact h1.elim
      | ok s outs =>
        rw [hfn] at h1
        intro v H' rs st
        have sm := keep st
        cases outs with
        | nil => exact h1.elim
        | cons a rest =>
          cases a with
          | no => exact h1.elim
          | shr _ => exact h1.elim
          | own _ => exact h1.elim
          | io d' =>
            simp only [] at h1
            cases hk : keepOr (flatS s && flatO d') (names as) e1 with
            | none => rw [hk] at h1; exact h1.elim
            | some e3 =>
              rw [hk] at h1
              cases s with
              | no => exact rs.elim
              | io d => exact rs.elim
              | shr d =>
                obtain ⟨eo, rp⟩ := rs
                obtain ⟨q0, o', g1, _, g3, g4⟩ := eo.own 0 d' (.inr rfl)
                simp at g1; subst g1
                obtain ⟨c1, c2, c3, c4⟩ := post_io (C := Hd (.io d' :: rest) ((V.ref p0 :: vs).map some) (Fr ++ ownAs e1 σ (i0 :: names as))) ok1 h0 hx hn hp0 (keepG sm) hk (fun z => (Bool.and_eq_true_iff.mp z).2) (RepO.mono (H := hid H' _) (same_hid.mpr fun b u z1 z2 => ⟨z1, by
                  have : b ≠ p0 := fun z => z1 (.inr ⟨0, d', .inr rfl, by rw [z]; rfl⟩)
                  simp only [this, if_false]; exact z2⟩) g4) (fun b z => z.elim .inl fun z => .inr ⟨0, d', .inr rfl, by rw [z]; rfl⟩)
                rw [back g3] at c1 c2
                refine h1 v H' ⟨c1, ?_⟩ c2
                cases hkk : (flatS (.shr d) && flatO d') with
                | true => exact flat_rep (Bool.and_eq_true_iff.mp hkk).1 rp
                | false =>
                  refine Rep.mono (same_hid.mpr fun b u z1 z2 => ⟨fun z => z1 ?_, z2⟩) rp
                  rcases c4 hkk b ((c3 b).mp z) with q | q
                  · exact .inl q
                  · exact .inr ⟨0, d', .inr rfl, by rw [q]; rfl⟩
              | own d =>
                obtain ⟨p, o, rfl, npp, eo, hp, ro⟩ := rs
                obtain ⟨q0, o', g1, g2, g3, g4⟩ := eo.own 0 d' (.inr rfl)
                simp at g1; subst g1
                have hpp0 : p ≠ p0 := fun z => g2 (by rw [z]; exact List.mem_cons_self)
                have hpn : H1 p = none := by
                  cases q : H1 p with
                  | none => rfl
                  | some u => exact absurd (.inl List.mem_cons_self) (st.same p u (fun z => ((hd2 p).mp z).elim npp hpp0) q).1
                -- without what the result owns
                have smG : Same H1 (fun b => if b = p0 then some o0 else (fun b => if b = p then none else H' b) b) := keepG fun b u hb h => by
                  have : b ≠ p := ne_of_none h hpn
                  simp only [this, if_false]; exact sm b u hb h
                have hCC : ∀ b, Hd (.io d' :: rest) ((V.ref p0 :: vs).map some) (p :: (Fr ++ ownAs e1 σ (i0 :: names as))) b → b ≠ p0 → b ≠ p → True := fun _ _ _ _ => trivial
                obtain ⟨c1, c2, c3, c4⟩ := post_io (C := Hd (.io d' :: rest) ((V.ref p0 :: vs).map some) (p :: (Fr ++ ownAs e1 σ (i0 :: names as)))) ok1 h0 hx hn hp0 smG hk (fun z => (Bool.and_eq_true_iff.mp z).2) (RepO.mono (H := hid H' _) (same_hid.mpr fun b u z1 z2 => ⟨z1, by
                  have n1 : b ≠ p0 := fun z => z1 (.inr ⟨0, d', .inr rfl, by rw [z]; rfl⟩)
                  have n2 : b ≠ p := fun z => z1 (.inl (by rw [z]; exact List.mem_cons_self))
                  simp only [n1, n2, if_false]; exact z2⟩) g4) (fun b z => z.elim (fun z => .inl (List.mem_cons_of_mem _ z)) fun z => .inr ⟨0, d', .inr rfl, by rw [z]; rfl⟩)
                have hpn2 : (upd (fun b => if b = p0 then some o0 else (fun b => if b = p then none else H' b) b) p0 o') p = none := by
                  rw [upd_ne hpp0]
                  simp [hpp0]
                have ro2 : RepO K (hid (upd (fun b => if b = p0 then some o0 else (fun b => if b = p then none else H' b) b) p0 o') (Hd (setD e3 i0 d') σ Fr)) d o := by
                  cases hkk : (flatS (.own d) && flatO d') with
                  | true => exact flatO_rep (Bool.and_eq_true_iff.mp hkk).1 ro
                  | false =>
                    refine RepO.mono (same_hid.mpr fun b u z1 z2 => ?_) ro
                    have n1 : b ≠ p0 := fun z => z1 (.inr ⟨0, d', .inr rfl, by rw [z]; rfl⟩)
                    have n2 : b ≠ p := fun z => z1 (.inl (by rw [z]; exact List.mem_cons_self))
                    refine ⟨fun z => z1 ?_, by rw [upd_ne n1]; simp only [n1, n2, if_false]; exact z2⟩
                    rcases c4 hkk b ((c3 b).mp z) with q | q
                    · exact .inl (List.mem_cons_of_mem _ q)
                    · exact .inr ⟨0, d', .inr rfl, by rw [q]; rfl⟩
                obtain ⟨k1, k2⟩ := c1.new hpn2 ro2
                have hfin : upd (upd (fun b => if b = p0 then some o0 else (fun b => if b = p then none else H' b) b) p0 o') p o = H' := by
                  funext b
                  by_cases n2 : b = p
                  · rw [n2, upd_same, hp]
                  · rw [upd_ne n2]
                    by_cases n1 : b = p0
                    · rw [n1, upd_same, g3]
                    · rw [upd_ne n1]; simp only [n1, n2, if_false]
                rw [hfin] at k1 k2
                refine h1 _ H' k1 ⟨fun b u z1 z2 => ?_, fun b hb => ?_⟩
                · obtain ⟨y1, y2⟩ := c2.same b u z1 z2
                  exact k2.same b u y1 y2
                · rw [k2.fr b hb, c2.fr b hb]
      | exc x outs =>
        rw [hfn] at h1
        intro c a H' eo st ec
        have sm := keep st
        cases outs with
        | nil => exact h1.elim
        | cons a0 rest =>
          cases a0 with
          | no => exact h1.elim
          | shr _ => exact h1.elim
          | own _ => exact h1.elim
          | io d' =>
            simp only [] at h1
            cases hk : keepOr (x.xs.all flat && flatO d') (names as) e1 with
            | none => rw [hk] at h1; exact h1.elim
            | some e3 =>
              rw [hk] at h1
              obtain ⟨q0, o', g1, _, g3, g4⟩ := eo.own 0 d' (.inr rfl)
              simp at g1; subst g1
              obtain ⟨c1, c2, c3, c4⟩ := post_io (C := Hd (.io d' :: rest) ((V.ref p0 :: vs).map some) (Fr ++ ownAs e1 σ (i0 :: names as))) ok1 h0 hx hn hp0 (keepG sm) hk (fun z => (Bool.and_eq_true_iff.mp z).2) (RepO.mono (H := hid H' _) (same_hid.mpr fun b u z1 z2 => ⟨z1, by
                have : b ≠ p0 := fun z => z1 (.inr ⟨0, d', .inr rfl, by rw [z]; rfl⟩)
                simp only [this, if_false]; exact z2⟩) g4) (fun b z => z.elim .inl fun z => .inr ⟨0, d', .inr rfl, by rw [z]; rfl⟩)
              rw [back g3] at c1 c2
              refine h1 c a H' c1 c2 ?_
              cases hkk : (x.xs.all flat && flatO d') with
              | true =>
                obtain ⟨k1, k2 | ⟨d, ws, k3, k4, k5, k6⟩⟩ := ec
                · exact ⟨k1, .inl k2⟩
                · obtain ⟨y1, y2⟩ := hid_some.mp k4
                  refine ⟨k1, .inr ⟨d, ws, k3, hid_some.mpr ⟨?_, y2⟩, k5, flat_repL (Bool.and_eq_true_iff.mp hkk).1 k6⟩⟩
                  rintro (z | ⟨i, f, z1, z2⟩)
                  · exact y1 (.inl (List.mem_append_left _ z))
                  · obtain ⟨q, o, m1, m2, m3, m4⟩ := c1.own i f z1
                    rw [z2] at m1; cases m1
                    rw [y2] at m3; cases m3
                    cases f with
                    | lst _ => obtain ⟨_, q, _⟩ := m4; cases q
                    | ins _ _ _ => obtain ⟨_, _, q, _⟩ := m4; cases q
                    | dic _ _ => obtain ⟨_, q, _⟩ := m4; cases q
                    | _ => exact m4.elim
              | false =>
                refine ec.mono (same_hid.mpr fun b u z1 z2 => ⟨fun z => z1 ?_, z2⟩)
                rcases c4 hkk b ((c3 b).mp z) with q | q
                · exact .inl q
                · exact .inr ⟨0, d', .inr rfl, by rw [q]; rfl⟩
end
end PL

/-! Pl9: the rules for calls, over expressions: f(..), C(..), o.m(..), o.p. -/
namespace PL
open PySem L2
section
variable {K : PySem.W.Frag} {W : WX} {σ : L2.St} {H : Hp}
theorem make_rd {c : Str} {fn : Fn} {as : List PL.A} {Q : VK} (w : tE K W (mkE c fn as) σ H Q) :
    tAs K W as σ H fun vs H1 => ∀ x dx, H1 x = none → H1 dx = none → dx ≠ x → spF K (as.length + 1) fn (.ref x :: vs) (upd (upd H1 dx (.own x)) x (.ins (He.ga K c) dx [])) (fun v H2 => v = .non ∧ Q (.ref x) H2) fun c a H' => W c a σ H' := by
  obtain ⟨env, IO, Fr, e, w⟩ := tE_run.mp w
  refine tAs_of e (Run.mono (Stp.refl _ _ _) w.split fun os e1 H1 ok1 s1 h1 vs _ avs => ?_)
  cases hf : fins as os e1 with
  | none => rw [hf] at h1; exact h1.elim
  | some ds =>
    rw [hf] at h1
    simp only [] at h1
    intro x dx nx ndx hne
    have smN : Same H1 (upd (upd H1 dx (.own x)) x (.ins (He.ga K c) dx [])) := fun b o h => by
      rw [upd_ne (ne_of_none h nx), upd_ne (ne_of_none h ndx)]; exact h
    have r := args_rep (C := (· ∈ Fr ++ ownAs e1 σ (names as))) (L := names as) ok1 (hdOwn _) (ok1.ownNot _) (fun _ z => z) avs hf
    have npx : x ∉ Fr ++ ownAs e1 σ (names as) := fun z => ok1.frOwn _ x z nx
    have r2 : RepL K (hid (upd (upd H1 dx (.own x)) x (.ins (He.ga K c) dx [])) fun b => b ∈ Fr ++ ownAs e1 σ (names as) ∨ b = x) ds vs :=
      RepL.mono (same_hid.mpr fun b u z1 z2 => ⟨fun z => z.elim z1 (ne_of_none z2 nx), smN b u z2⟩) r
    obtain ⟨e2, hd2, no⟩ := env_io (p := x) (o := .ins (He.ga K c) dx []) (d0 := .ins c [] []) (fun b hb => by
      have := ok1.frOwn (names as) b hb
      cases q : H1 b with
      | none => exact absurd q this
      | some o => rw [smN b o q]; simp) npx upd_same ⟨dx, [], rfl, rfl, rfl⟩ r2
    refine ⟨.io (.ins c [] []) :: ds.map .shr, [some x], Fr ++ ownAs e1 σ (names as), by rw [List.length_cons, List.length_map, fins_len hf], e2, no, ?_⟩
    have keep : ∀ {outs : List Sl} {σ2 : L2.St} {F2 : List Addr} {H' : Hp}, Stp (Fr ++ ownAs e1 σ (names as)) (Hd (.io (.ins c [] []) :: ds.map .shr) ((V.ref x :: vs).map some) (Fr ++ ownAs e1 σ (names as))) (upd (upd H1 dx (.own x)) x (.ins (He.ga K c) dx [])) (Hd outs σ2 F2) H' →
        Same H1 H' := fun st b o h => by
      have nb : b ≠ x := ne_of_none h nx
      by_cases hm : b ∈ Fr ++ ownAs e1 σ (names as)
      · rw [st.fr b hm]; exact smN b o h
      · exact (st.same b o (fun z => ((hd2 b).mp z).elim hm nb) (smN b o h)).2
    cases hfn : fn (.io (.ins c [] []) :: ds.map .shr) with
    | bad => rw [hfn] at h1; exact h1.elim
    | ok s outs =>
      rw [hfn] at h1
      intro v H' rs st
      have sm := keep st
      cases s with
      | no => exact rs.elim
      | io d => exact rs.elim
      | own d => exact h1.elim
      | shr d =>
        cases d with
        | non =>
          cases outs with
          | nil => exact h1.elim
          | cons a rest =>
            cases a with
            | no => exact h1.elim
            | shr _ => exact h1.elim
            | own _ => exact h1.elim
            | io d' =>
              simp only [] at h1
              cases hk : keepOr (nmO d') (names as) e1 with
              | none => rw [hk] at h1; exact h1.elim
              | some e3 =>
                rw [hk] at h1
                obtain ⟨eo, rp⟩ := rs
                obtain ⟨q0, o', g1, _, g3, g4⟩ := eo.own 0 d' (.inr rfl)
                simp at g1; subst g1
                obtain ⟨k1, k2⟩ := post_own ok1 sm nx g3 hk (RepO.mono (same_hid.mpr fun b u z1 z2 => ⟨fun z => z1 (z.elim .inl fun z => .inr ⟨0, d', .inr rfl, by rw [z]; rfl⟩), z2⟩) g4)
                exact ⟨rp, h1 _ H' k1 k2⟩
        | _ => exact h1.elim
    | exc y outs =>
      rw [hfn] at h1
      simp only [] at h1
      intro c' a H' eo st ec
      have sm := keep st
      cases hk : keepOr (nms y.xs) (names as) e1 with
      | none => rw [hk] at h1; exact h1.elim
      | some e3 =>
        rw [hk] at h1
        obtain ⟨g1, g2, g3⟩ := post_exc ok1 sm hk (ec.mono (same_hid.mpr fun b u z1 z2 => ⟨fun z => z1 (.inl z), z2⟩))
        exact h1 c' a H' g1 g2 g3
end
/-- an instance of c that has no field m -/
def rcvOk (c m : Str) : Option D → Bool
  | some (.ins c' ns _) => decide (c' = c) && !ns.contains m
  | _ => false
/-- o.m(..): the receiver is the first argument -/
def methF (c m : Str) (fn : Fn) (a : PL.A) (as : List PL.A) : E := fun env => (a.ev env).bind fun oa e1 => if rcvOk c m (a.fin oa e1) then (evs as e1).bind fun os e2 => callEnd fn (a :: as) (oa :: os) e2 else .bad
/-- o.p, a property -/
def propF (c : Str) (fn : Fn) (a : PL.A) : E := fun env => (a.ev env).bind fun oa e1 => if rcvOk c Str.empty (a.fin oa e1) then (match callEnd fn [a] [oa] e1 with
  | .ok s e2 => .ok s e2
  | _ => .bad) else .bad
theorem lookup_not {m : Str} : ∀ {ns : List Str} {vs : List V}, ns.contains m = false → (ns.zip vs).lookup m = none
  | [], _, _ => rfl
  | n :: ns, [], _ => rfl
  | n :: ns, v :: vs, h => by
    rw [List.contains_cons, Bool.or_eq_false_iff] at h
    rw [List.zip_cons_cons, List.lookup_cons, h.1]
    exact lookup_not h.2
section
variable {X : Cx} {W : WX} {k : Nat} {f : Addr} {fd : FuncData} {ps : List Str} {fn : Fn} {x m c : Str} {p pos apos : Pos} {e o : Expr} {es : List Expr} {a : PL.A} {as : List PL.A} {n : Nat}
/-- f(e, ..) -/
theorem c_call (tk : Takes X W) (F : FnOk X.prog X.w X.K X.mg X.base (L2.CX X.prog X.w) k f fd ps (spF X.K n fn)) (hr : Room k X.A) (hm : X.mg x = some (.ref f)) (hk : PySem.W.keepIn X.K (.ref f) = true) (hb : Binds X.K fd ps [])
    (ha : PA X (e :: es) (tAs X.K W as)) (hn : as.length = n := by rfl) (hg : Gl X x := by rfl) (hdb : (x == ("__debug__" : Str)) = false := by decide) (he : starEach (e :: es) X.env = (false, eval e X.env) :: starEach es X.env := by rfl) (hpl : (backTo pos (starEach es X.env)).any (·.1) = false := by rfl) :
    PE X (.Call (.Name x p) (e :: es) [] pos) (tE X.K W (callF fn as)) := by
  subst hn
  exact PE.imp (pe_callS F hr hg hm hk hb (fun σ => passAt tk σ) ha hdb he hpl) fun σ H Q w => call_rd w
/-- f(p, e, ..), p's object lent to be changed -/
theorem c_callIO {i0 : Nat} (tk : Takes X W) (F : FnOk X.prog X.w X.K X.mg X.base (L2.CX X.prog X.w) k f fd ps (spF X.K n fn)) (hr : Room k X.A) (hm : X.mg x = some (.ref f)) (hk : PySem.W.keepIn X.K (.ref f) = true) (hb : Binds X.K fd ps [])
    (h0 : PE X e (tA X.K W (.nm i0))) (ha : PA X es (tAs X.K W as)) (hn : as.length + 1 = n := by rfl) (hg : Gl X x := by rfl) (hdb : (x == ("__debug__" : Str)) = false := by decide) (he : starEach (e :: es) X.env = (false, eval e X.env) :: starEach es X.env := by rfl) (hpl : (backTo pos (starEach es X.env)).any (·.1) = false := by rfl) :
    PE X (.Call (.Name x p) (e :: es) [] pos) (tE X.K W (callIO i0 fn as)) := by
  subst hn
  exact PE.imp (pe_callS F hr hg hm hk hb (fun σ => passAt tk σ) (pa_cons h0 ha he) hdb he hpl) fun σ H Q w => callIO_rd w
/-- C(e, ..) -/
theorem run_makeS {C : Addr} {pins : List (Addr × Obj)} {σ : L2.St} {H : Hp} {s : Shared} {Q : VK} {E : XK} {us : List Value} {vs : List V} {sp : Sp} (M : Mk X.K C f) (F : FnOk X.prog X.w X.K X.mg X.base (L2.CX X.prog X.w) k f fd ps sp) (hr : Room (k + 1) X.A) (hb : Binds X.K fd ps [])
    (hx : PassesAt (L2.CX X.prog X.w) X σ E) (I : Inv X pins σ H s) (r : Vals vs us)
    (h : ∀ x dx, H x = none → H dx = none → dx ≠ x → sp (.ref x :: vs) (upd (upd H dx (.own x)) x (.ins C dx [])) (fun v H2 => v = .non ∧ Q (.ref x) H2) E) :
    wpAny (model X.prog X.w) X.A (call (.ref C) us) (EP X pins σ Q) X.xe s := by
  have hq := h (s.heap.objs.size + 1) s.heap.objs.size (I.hok.fresh (Nat.le_succ _)) (I.hok.fresh (Nat.le_refl _)) (Nat.ne_of_lt (Nat.lt_succ_self _))
  have I2 := Inv.made (C := C) I
  have r2 : Vals (V.ref (s.heap.objs.size + 1) :: vs) (Value.ref (s.heap.objs.size + 1) :: us) := .cons rfl r
  have hl : ((Value.ref (s.heap.objs.size + 1) :: us) ++ []).length = ps.length := by
    have e := r2.length
    rw [F.len _ _ _ _ hq] at e
    rw [List.append_nil]
    exact e.symm
  have hb' := hb _ (Value.ref (s.heap.objs.size + 1) :: us) I2.kIn hl
  rw [List.append_nil] at hb'
  refine wpAny_call (make_map (f := f) I.kIn M.makes M.init (beq_iff_eq.mp M.fn) (codeAny_mono (F.run _ X.stack _ _ ⟨Value.ref (s.heap.objs.size + 1) :: us, []⟩ (Value.ref (s.heap.objs.size + 1) :: us) _ _ E (hr.make C us [])
    (I2.env0.make C us []) hb' r2 hq) fun r s' hq' => ?_))
  cases r with
  | error e => exact hx pins _ _ e s' I2 hq'
  | ok fl =>
    cases fl with
    | ret u =>
      obtain ⟨v, H', I3, rv, ev, q3⟩ := I2.after hq'
      subst ev
      exact ⟨rv, ⟨V.ref (s.heap.objs.size + 1), H', I3, rfl, q3⟩⟩
    | next => exact False.elim hq'
    | brk => exact False.elim hq'
    | cont => exact False.elim hq'
theorem c_make (tk : Takes X W) (M : Mk X.K (He.ga X.K c) f) (F : FnOk X.prog X.w X.K X.mg X.base (L2.CX X.prog X.w) k f fd ps (spF X.K n fn)) (hr : Room (k + 1) X.A) (hm : X.mg x = some (.ref (He.ga X.K c))) (hb : Binds X.K fd ps [])
    (ha : PA X (e :: es) (tAs X.K W as)) (hn : as.length + 1 = n := by rfl) (hg : Gl X x := by rfl) (hdb : (x == ("__debug__" : Str)) = false := by decide) (he : starEach (e :: es) X.env = (false, eval e X.env) :: starEach es X.env := by rfl) (hpl : (backTo pos (starEach es X.env)).any (·.1) = false := by rfl) :
    PE X (.Call (.Name x p) (e :: es) [] pos) (tE X.K W (mkE c fn as)) := by
  subst hn
  refine ⟨fun pins s σ H Q I h => ?_⟩
  refine wpAny_Call_Name_kw (ld_glob I hg hm ?_ hdb)
  refine PySem.W.callWith_K (h₀ := X.base) I.ok.mod.kin M.kp (thn (ha.run pos pins s σ H _ I (make_rd h)) fun us s1 ⟨vs, H1, I1, r, q⟩ => ⟨I1.kIn, ?_⟩) he hpl
  exact run_makeS M F hr hb (passAt tk σ) I1 r q
/-- o.m(e, ..) -/
theorem meth_rd {K : PySem.W.Frag} {σ : L2.St} {H : Hp} {Q : VK} (w : tE K W (methF c m fn a as) σ H Q) :
    tA K W a σ H fun x H1 => ∃ a0 dx fs, x = .ref a0 ∧ H1 a0 = some (.ins (He.ga K c) dx fs) ∧ fs.lookup m = none ∧ tAs K W as σ H1 fun vs H2 => spF K (as.length + 1) fn (x :: vs) H2 Q fun c a H' => W c a σ H' := by
  obtain ⟨env, IO, Fr, e, w⟩ := tE_run.mp w
  refine tA_of e (Run.mono (Stp.refl _ _ _) w.split fun oa e1 H1 ok1 s1 h1 v av => ?_)
  cases hf : a.fin oa e1 with
  | none => rw [hf] at h1; exact h1.elim
  | some d =>
    rw [hf] at h1
    by_cases hc : rcvOk c m (some d) = true
    · rw [if_pos hc] at h1
      cases d with
      | ins c' ns ds =>
        simp only [rcvOk, Bool.and_eq_true, decide_eq_true_eq, Bool.not_eq_true'] at hc
        obtain ⟨rfl, hns⟩ := hc
        obtain ⟨a0, dx, vs0, rfl, g1, g2, g3⟩ := (av.fin ok1 hf).ins
        refine ⟨a0, dx, _, rfl, g1, lookup_not hns, ?_⟩
        exact tAs_of ok1 (Run.mono (Stp.refl _ _ _) h1.split fun os e2 H2 ok2 s2 h2 vs _ avs => callEnd_rd (as := a :: as) (os := oa :: os) ok2 ⟨oa, os, _, vs, rfl, rfl, av.step s2, avs⟩ h2)
      | _ => simp [rcvOk] at hc
    · rw [if_neg hc] at h1; exact h1.elim
theorem c_meth {pl : Sem Bool} (tk : Takes X W) (ho : PE X o (tA X.K W a)) (hc : Cls X.K (He.ga X.K c)) (hm : Meth X.K (He.ga X.K c) m f) (F : FnOk X.prog X.w X.K X.mg X.base (L2.CX X.prog X.w) k f fd ps (spF X.K n fn)) (hr : Room k X.A) (hb : Binds X.K fd ps []) (ha : PA X (e :: es) (tAs X.K W as))
    (hn : as.length + 1 = n := by rfl) (hst : starEach (e :: es) X.env = (false, eval e X.env) :: starEach es X.env := by rfl) (hpl : (backTo pos (starEach es X.env)).any (·.1) = false := by rfl)
    (ht : eval (.Call (.Attribute o m apos) (e :: es) [] pos) X.env = (do
      let ov ← eval o X.env
      standAt apos.atName
      let (f, first) ← holding [ov] (getMethod ov m pl)
      callWith pos f first (backTo pos (starEach (e :: es) X.env)) (backToKw pos (keywordEach [] X.env))) := by rfl) :
    PE X (.Call (.Attribute o m apos) (e :: es) [] pos) (tE X.K W (methF c m fn a as)) := by
  subst hn
  refine ⟨fun pins s σ H Q I h => ?_⟩
  refine PySem.W.methodCall_KW (pl := pl) (thn (ho.run pins s σ H _ I (meth_rd h)) fun u s1 ⟨x, H1, I1, rx, a, dx, fs, ex, ea, l, q⟩ => ?_) ht
  subst ex
  obtain rfl : u = Value.ref a := rx
  refine getmeth_ok I1 ea hc hm l ?_
  refine PySem.W.callWith_K (first := [.ref a]) (h₀ := X.base) I.ok.mod.kin hm.kp (thn (ha.run pos pins s1 σ H1 _ I1 q) fun us s2 ⟨vs, H2, I2, r, q2⟩ => ⟨I2.kIn, ?_⟩) hst hpl
  exact run_fnS (us := .ref a :: us) (vs := .ref a :: vs) (E := WE W) F hr hb (passAt tk σ) I2 (.cons rfl r) q2
/-- o.m() -/
theorem c_meth0 {pl : Sem Bool} (tk : Takes X W) (ho : PE X o (tA X.K W a)) (hc : Cls X.K (He.ga X.K c)) (hm : Meth X.K (He.ga X.K c) m f) (F : FnOk X.prog X.w X.K X.mg X.base (L2.CX X.prog X.w) k f fd ps (spF X.K 1 fn)) (hr : Room k X.A) (hb : Binds X.K fd ps [])
    (ht : eval (.Call (.Attribute o m apos) [] [] pos) X.env = (do
      let ov ← eval o X.env
      standAt apos.atName
      let (f, first) ← holding [ov] (getMethod ov m pl)
      callWith pos f first (backTo pos (starEach [] X.env)) (backToKw pos (keywordEach [] X.env))) := by rfl) :
    PE X (.Call (.Attribute o m apos) [] [] pos) (tE X.K W (methF c m fn a [])) := by
  refine ⟨fun pins s σ H Q I h => ?_⟩
  refine PySem.W.methodCall_KW (pl := pl) (thn (ho.run pins s σ H _ I (meth_rd h)) fun u s1 ⟨x, H1, I1, rx, a, dx, fs, ex, ea, l, q⟩ => ?_) ht
  subst ex
  obtain rfl : u = Value.ref a := rx
  refine getmeth_ok I1 ea hc hm l ?_
  exact PySem.W.callWith_K0 (first := [.ref a]) I1.kIn hm.kp (run_fnS (us := [.ref a]) (vs := [.ref a]) (E := WE W) F hr hb (passAt tk σ) I1 (.cons rfl .nil) (by
    have q' : spF X.K 1 fn (V.ref a :: []) H1 Q (WE W σ) := q
    exact q'))
/-- o.p -/
theorem c_prop {q : Addr} (ho : PE X o (tA X.K W a)) (hc : Cls X.K (He.ga X.K c)) (hp : PropOf X.K (He.ga X.K c) m q f) (F : FnOk X.prog X.w X.K X.mg X.base (L2.CX X.prog X.w) k f fd ps (spF X.K 1 fn)) (hr : Room (k + 1) X.A) (hb : Binds X.K fd ps [])
    (hab : attributeBase o m X.env (eval o X.env) = eval o X.env := by rfl) : PE X (.Attribute o m pos) (tE X.K W (propF c fn a)) := by
  refine PE.imp (pe_prop (E := E0) (dvs := []) ho hc hp F hr hb .nil passL hab) fun σ H Q w => ?_
  obtain ⟨env, IO, Fr, e, w⟩ := tE_run.mp w
  refine tA_of e (Run.mono (Stp.refl _ _ _) w.split fun oa e1 H1 ok1 s1 h1 v av => ?_)
  cases hf : a.fin oa e1 with
  | none => rw [hf] at h1; exact h1.elim
  | some d =>
    rw [hf] at h1
    by_cases hc : rcvOk c Str.empty (some d) = true
    · rw [if_pos hc] at h1
      cases d with
      | ins c' ns ds =>
        simp only [rcvOk, Bool.and_eq_true, decide_eq_true_eq, Bool.not_eq_true'] at hc
        obtain ⟨rfl, hns⟩ := hc
        obtain ⟨a0, dx, vs0, rfl, g1, g2, g3⟩ := (av.fin ok1 hf).ins
        refine ⟨a0, dx, _, rfl, g1, ?_⟩
        refine callEnd_rd (W := fun _ _ _ _ => False) (as := [a]) (os := [oa]) ok1 ⟨oa, [], _, [], rfl, rfl, av, rfl, rfl⟩ ?_
        cases hcE : callEnd fn [a] [oa] e1 with
        | ok s e2 => rw [hcE] at h1; exact h1
        | exc x e2 => rw [hcE] at h1; exact h1.elim
        | bad => rw [hcE] at h1; exact h1.elim
      | _ => simp [rcvOk] at hc
    · rw [if_neg hc] at h1; exact h1.elim
end
end PL

/-! Pl10: statements. -/
namespace PL
open PySem L2

def RunS (K : PySem.W.Frag) (W : WX) (IO : List (Option Addr)) (Fr : List Addr) (P0 : Addr → Prop) (H0 : Hp) (r : Fl) (Z : Ends) : Prop :=
  match r with
  | .nx env' => ∀ σ' H', EnvOk K env' IO Fr σ' H' → Stp Fr P0 H0 (Hd env' σ' Fr) H' → Z.nx σ' H'
  | .bk env' => ∀ σ' H', EnvOk K env' IO Fr σ' H' → Stp Fr P0 H0 (Hd env' σ' Fr) H' → Z.bk σ' H'
  | .ct env' => ∀ σ' H', EnvOk K env' IO Fr σ' H' → Stp Fr P0 H0 (Hd env' σ' Fr) H' → Z.ct σ' H'
  | .rt s env' => ∀ v σ' H', ResOk K s v env' IO Fr σ' H' → Stp Fr P0 H0 (Hd env' σ' (frOf s v Fr)) H' → Z.rt v H'
  | .ex x env' => ∀ c a σ' H', EnvOk K env' IO Fr σ' H' → Stp Fr P0 H0 (Hd env' σ' Fr) H' → ExcOk K (hid H' (Hd env' σ' Fr)) x c a → W c a σ' H'
  | .bad => False
theorem tS_run {K : PySem.W.Frag} {W : WX} {f : S} {σ : L2.St} {H : Hp} {Z : Ends} : tS K W f Z σ H ↔ ∃ env IO Fr, EnvOk K env IO Fr σ H ∧ RunS K W IO Fr (Hd env σ Fr) H (f env) Z := by
  constructor
  · rintro ⟨env, IO, Fr, e, h⟩
    exact ⟨env, IO, Fr, e, by cases hf : f env <;> (rw [hf] at h; exact h)⟩
  · rintro ⟨env, IO, Fr, e, h⟩
    exact ⟨env, IO, Fr, e, by cases hf : f env <;> (rw [hf] at h; exact h)⟩
theorem RunS.from {K : PySem.W.Frag} {W : WX} {IO : List (Option Addr)} {Fr : List Addr} {P0 P1 : Addr → Prop} {H0 H1 : Hp} {r : Fl} {Z : Ends} (st : Stp Fr P0 H0 P1 H1) (h : RunS K W IO Fr P0 H0 r Z) : RunS K W IO Fr P1 H1 r Z := by
  cases r with
  | nx env' => exact fun σ' H' e s => h σ' H' e (st.trans s)
  | bk env' => exact fun σ' H' e s => h σ' H' e (st.trans s)
  | ct env' => exact fun σ' H' e s => h σ' H' e (st.trans s)
  | rt s env' => exact fun v σ' H' e s => h v σ' H' e ⟨fun b o h1 h2 => let ⟨g1, g2⟩ := st.same b o h1 h2; s.same b o g1 g2, fun b hb => (s.fr b hb).trans (st.fr b hb)⟩
  | ex x env' => exact fun c a σ' H' e s ec => h c a σ' H' e (st.trans s) ec
  | bad => exact h

/-! ### blocks -/
def seqS (f g : S) : S := fun env => match f env with
  | .nx e => g e
  | r => r
def passS : S := fun env => .nx env
def breakS : S := fun env => .bk env
def contS : S := fun env => .ct env
section
variable {X : Cx} {W : WX} {st : Stmt} {rest : List Stmt} {f g : S} {pos : Pos}
theorem c_nil : PSs X [] (tS X.K W passS) := PSs.imp pss_nil fun D σ H w => by
  obtain ⟨env, IO, Fr, e, w⟩ := w
  exact w σ H e (Stp.refl _ _ _)
theorem c_cons (h1 : PS X st (tS X.K W f)) (h2 : PSs X rest (tS X.K W g)) : PSs X (st :: rest) (tS X.K W (seqS f g)) := PSs.imp (pss_cons h1 h2) fun D σ H w => by
  obtain ⟨env, IO, Fr, e, w⟩ := tS_run.mp w
  refine tS_run.mpr ⟨env, IO, Fr, e, ?_⟩
  unfold seqS at w
  cases hf : f env with
  | nx e1 =>
    rw [hf] at w
    exact fun σ' H' e' s => tS_run.mpr ⟨e1, IO, Fr, e', RunS.from s w⟩
  | bk e1 => rw [hf] at w; exact w
  | ct e1 => rw [hf] at w; exact w
  | rt s e1 => rw [hf] at w; exact w
  | ex x e1 => rw [hf] at w; exact w
  | bad => rw [hf] at w; exact w
theorem c_last (h1 : PS X st (tS X.K W f)) : PSs X [st] (tS X.K W f) := pss_one h1
theorem c_pass : PS X (.Pass pos) (tS X.K W passS) := PS.imp ps_pass fun D σ H w => by
  obtain ⟨env, IO, Fr, e, w⟩ := w
  exact w σ H e (Stp.refl _ _ _)
theorem c_break : PS X (.Break pos) (tS X.K W breakS) := PS.imp ps_break fun D σ H w => by
  obtain ⟨env, IO, Fr, e, w⟩ := w
  exact w σ H e (Stp.refl _ _ _)
theorem c_continue : PS X (.Continue pos) (tS X.K W contS) := PS.imp ps_continue fun D σ H w => by
  obtain ⟨env, IO, Fr, e, w⟩ := w
  exact w σ H e (Stp.refl _ _ _)
end

/-! ### name = e, return e, e, if -/
def setE (i : Nat) (f : E) : S := fun env => match f env with
  | .ok s e => if setOk e i then .nx (e.set i s) else .bad
  | .exc x e => .ex x e
  | .bad => .bad
def retE (f : E) : S := fun env => match f env with
  | .ok s e => .rt s e
  | .exc x e => .ex x e
  | .bad => .bad
/-- return a name: what is its own goes out as such -/
def retV (i : Nat) : S := fun env => match env[i]? with
  | some (.shr d) => .rt (.shr d) env
  | some (.own d) => .rt (.own d) (env.set i .no)
  | _ => .bad
def retN : S := fun env => .rt (.shr .non) env
def dropE (f : E) : S := fun env => match f env with
  | .ok _ e => .nx e
  | .exc x e => .ex x e
  | .bad => .bad
def ifS (t : T) (f g : S) : S := fun env => match t env with
  | .ok true e => f e
  | .ok false e => g e
  | .exc x e => .ex x e
  | .bad => .bad
theorem EnvOk.unset {K : PySem.W.Frag} {env : List Sl} {IO : List (Option Addr)} {Fr : List Addr} {σ : L2.St} {H : Hp} {i : Nat} {d : D} (e : EnvOk K env IO Fr σ H) (h : env[i]? = some (Sl.own d)) :
    ∃ p, σ[i]? = some (some (.ref p)) ∧ ResOk K (.own d) (.ref p) (env.set i .no) IO Fr σ H ∧ Stp Fr (Hd env σ Fr) H (Hd (env.set i .no) σ (frOf (.own d) (.ref p) Fr)) H := by
  have hi : i < env.length := (List.getElem?_eq_some_iff.mp h).1
  obtain ⟨p, o, h1, h2, h3, h4⟩ := e.own i d (.inl h)
  have ow : ∀ j f, OwnAt (env.set i .no) j f ↔ j ≠ i ∧ OwnAt env j f := fun j f => by rw [ownAt_set]; simp
  have hd : ∀ b, Hd (env.set i .no) σ (p :: Fr) b ↔ Hd env σ Fr b := fun b => by
    constructor
    · rintro (z | ⟨j, f, z1, z2⟩)
      · rcases List.mem_cons.mp z with rfl | z
        · exact .inr ⟨i, d, .inl h, h1⟩
        · exact .inl z
      · exact .inr ⟨j, f, ((ow j f).mp z1).2, z2⟩
    · rintro (z | ⟨j, f, z1, z2⟩)
      · exact .inl (List.mem_cons_of_mem _ z)
      · by_cases hj : j = i
        · subst hj; rw [h1] at z2; cases z2; exact .inl List.mem_cons_self
        · exact .inr ⟨j, f, (ow j f).mpr ⟨hj, z1⟩, z2⟩
  have he : hid H (Hd (env.set i .no) σ (p :: Fr)) = hid H (Hd env σ Fr) := by congr 1; funext b; exact propext (hd b)
  refine ⟨p, h1, ⟨p, o, rfl, h2, ⟨by simpa using e.len, fun b hb => ?_, fun j f z => ?_, fun j k f g q z1 z2 => e.inj j k f g q ((ow _ _).mp z1).2 ((ow _ _).mp z2).2, fun j f z => ?_, fun j q z => ?_, fun j f z => ?_⟩, h3, by rw [he]; exact h4⟩, ⟨fun b u z1 z2 => ⟨fun z => z1 ((hd b).mp z), z2⟩, fun _ _ => rfl⟩⟩
  · rcases List.mem_cons.mp hb with rfl | hb
    · rw [h3]; simp
    · exact e.fr b hb
  · obtain ⟨z1, z2⟩ := (ow j f).mp z
    obtain ⟨q, u, g1, g2, g3, g4⟩ := e.own j f z2
    refine ⟨q, u, g1, fun z => ?_, g3, by rw [he]; exact g4⟩
    rcases List.mem_cons.mp z with rfl | z
    · exact z1 (e.inj j i f d q z2 (.inl h) g1 h1)
    · exact g2 z
  · by_cases hj : j = i
    · subst hj; rw [List.getElem?_set_self hi] at z; cases z
    · rw [List.getElem?_set_ne (Ne.symm hj)] at z
      obtain ⟨v, g1, g2⟩ := e.shr j f z
      exact ⟨v, g1, by rw [he]; exact g2⟩
  · obtain ⟨⟨f, g1⟩, g2⟩ := e.io j q z
    have hj : j ≠ i := by rintro rfl; rw [h] at g1; cases g1
    exact ⟨⟨f, by rw [List.getElem?_set_ne (Ne.symm hj)]; exact g1⟩, g2⟩
  · by_cases hj : j = i
    · subst hj; rw [List.getElem?_set_self hi] at z; cases z
    · rw [List.getElem?_set_ne (Ne.symm hj)] at z
      exact e.oi j f z
section
variable {X : Cx} {W : WX} {e : Expr} {f : E} {x : Str} {pos pos' : Pos} {a b : List Stmt} {t : T} {p q : S} {c : Expr}
/-- from an expression's end to a statement's -/
theorem tE_st {K : PySem.W.Frag} {σ : L2.St} {H : Hp} {env : List Sl} {IO : List (Option Addr)} {Fr : List Addr} {Q : VK} {g : Res Sl → Fl} {Z : Ends} (e : EnvOk K env IO Fr σ H) (w : RunS K W IO Fr (Hd env σ Fr) H (g (f env)) Z)
    (hx : ∀ x e1, g (.exc x e1) = .ex x e1) (hb : g .bad = .bad)
    (hk : ∀ s e1, f env = .ok s e1 → ∀ v H', ResOk K s v e1 IO Fr σ H' → Stp Fr (Hd env σ Fr) H (Hd e1 σ (frOf s v Fr)) H' → Q v H') : tE K W f σ H Q := by
  refine tE_run.mpr ⟨env, IO, Fr, e, ?_⟩
  cases hf : f env with
  | ok s e1 => exact hk s e1 hf
  | exc x e1 =>
    rw [hf, hx] at w
    exact fun c a H' e' s ec => w c a σ H' e' s ec
  | bad => rw [hf, hb] at w; exact w
theorem c_set (i : Nat) (he : PE X e (tE X.K W f)) (hN : X.N.Nodup) (hi : X.N[i]? = some x := by rfl) (hx : Loc X.env.scope x := by first | exact Or.inl rfl | exact Or.inr rfl) (hs : swapsWith e (some (.Name x pos')) pos.line X.env = pure false := by rfl)
    (hf : X.fn x = true ∨ X.env.scope.names.lookup x = some .local := by first | exact .inl rfl | exact .inr rfl | assumption) : PS X (.Assign [.Name x pos'] e pos) (tS X.K W (setE i f)) :=
  PS.imp (ps_set hN hi hx he hs hf) fun D σ H w => by
    obtain ⟨env, IO, Fr, ok, w⟩ := tS_run.mp w
    refine tE_st (g := fun r => match r with
      | .ok s e => if setOk e i then .nx (e.set i s) else .bad
      | .exc x e => .ex x e
      | .bad => .bad) ok w (fun _ _ => rfl) rfl fun s e1 hfe v H' r st => ?_
    have w : RunS X.K W IO Fr (Hd env σ Fr) H (setE i f env) D := w
    unfold setE at w
    rw [hfe] at w
    simp only [] at w
    split at w
    · rename_i hso
      obtain ⟨g1, g2⟩ := r.store hso
      exact w _ H' g1 ⟨fun b o z1 z2 => let ⟨y1, y2⟩ := st.same b o z1 z2; g2.same b o y1 y2, fun b hb => (g2.fr b hb).trans (st.fr b hb)⟩
    · exact w.elim
theorem c_ret (he : PE X e (tE X.K W f)) : PS X (.Return (some e) pos) (tS X.K W (retE f)) :=
  PS.imp (ps_ret he) fun D σ H w => by
    obtain ⟨env, IO, Fr, ok, w⟩ := tS_run.mp w
    refine tE_st (g := fun r => match r with
      | .ok s e => .rt s e
      | .exc x e => .ex x e
      | .bad => .bad) ok w (fun _ _ => rfl) rfl fun s e1 hfe v H' r st => ?_
    have w : RunS X.K W IO Fr (Hd env σ Fr) H (retE f env) D := w
    unfold retE at w
    rw [hfe] at w
    exact w v σ H' r st
theorem c_retV (i : Nat) (hN : X.N[i]? = some x := by rfl) (hv : Vis X.env.scope x := by first | exact Or.inl rfl | exact Or.inr (Or.inl rfl) | exact Or.inr (Or.inr rfl)) (hd : (x == ("__debug__" : Str)) = false := by decide)
    (hcd : (x == ("__classdict__" : Str)) = false := by decide) : PS X (.Return (some (.Name x pos')) pos) (tS X.K W (retV i)) :=
  PS.imp (ps_ret (pe_var hN hv hd hcd)) fun D σ H w => by
    obtain ⟨env, IO, Fr, ok, w⟩ := tS_run.mp w
    cases hs : env[i]? with
    | none => simp only [retV, hs] at w; exact w.elim
    | some s =>
      cases s with
      | no => simp only [retV, hs] at w; exact w.elim
      | io d => simp only [retV, hs] at w; exact w.elim
      | shr d =>
        simp only [retV, hs] at w
        obtain ⟨v, h1, h2⟩ := ok.shr i d hs
        exact ⟨v, h1, w v σ H ⟨ok, h2⟩ (Stp.refl _ _ _)⟩
      | own d =>
        simp only [retV, hs] at w
        obtain ⟨p, h1, h2, h3⟩ := ok.unset hs
        exact ⟨_, h1, w _ σ H h2 h3⟩
theorem c_retN : PS X (.Return none pos) (tS X.K W retN) := PS.imp ps_retN fun D σ H w => by
  obtain ⟨env, IO, Fr, e, w⟩ := w
  exact w .non σ H ⟨e, rfl⟩ (Stp.refl _ _ _)
theorem c_expr (he : PE X e (tE X.K W f)) (hs : swapsWith e none pos.line X.env = pure false := by rfl) : PS X (.Expr e pos) (tS X.K W (dropE f)) :=
  PS.imp (ps_expr he hs) fun D σ H w => by
    obtain ⟨env, IO, Fr, ok, w⟩ := tS_run.mp w
    refine tE_st (g := fun r => match r with
      | .ok _ e => .nx e
      | .exc x e => .ex x e
      | .bad => .bad) ok w (fun _ _ => rfl) rfl fun s e1 hfe v H' r st => ?_
    have w : RunS X.K W IO Fr (Hd env σ Fr) H (dropE f env) D := w
    unfold dropE at w
    rw [hfe] at w
    obtain ⟨d, _, e2, _, st2⟩ := r.freeze
    exact w σ H' e2 ⟨fun b o z1 z2 => let ⟨y1, y2⟩ := st.same b o z1 z2; st2.same b o y1 y2, st.fr⟩
theorem c_if (hc : PT X c (tT X.K W t)) (ha : PSs X a (tS X.K W p)) (hb : PSs X b (tS X.K W q)) : PS X (.If c a b pos) (tS X.K W (ifS t p q)) :=
  PS.imp (ps_if hc ha hb) fun D σ H w => by
    obtain ⟨env, IO, Fr, ok, w⟩ := tS_run.mp w
    refine tT_run.mpr ⟨env, IO, Fr, ok, ?_⟩
    unfold ifS at w
    cases ht : t env with
    | ok k e1 =>
      rw [ht] at w
      intro H' e' s
      cases k with
      | true => exact tS_run.mpr ⟨e1, IO, Fr, e', RunS.from s w⟩
      | false => exact tS_run.mpr ⟨e1, IO, Fr, e', RunS.from s w⟩
    | exc x e1 =>
      rw [ht] at w
      exact fun c a H' e' s ec => w c a σ H' e' s ec
    | bad => rw [ht] at w; exact w.elim
end
end PL

/-! Pl11: targets, for, while. -/
namespace PL
open PySem L2

/-! ### targets -/
inductive Tg where
  | nm (i : Nat) | tup (ts : List Tg)
mutual
def tgS : Tg → D → List Sl → Option (List Sl)
  | .nm i, d, env => if setOk env i then some (env.set i (.shr d)) else none
  | .tup ts, .tup ds, env => tgsS ts ds env
  | .tup _, _, _ => none
def tgsS : List Tg → List D → List Sl → Option (List Sl)
  | [], [], env => some env
  | t :: ts, d :: ds, env => match tgS t d env with
    | some e => tgsS ts ds e
    | none => none
  | _, _, _ => none
end
mutual
def tgV : Tg → List Nat
  | .nm i => [i]
  | .tup ts => tgVs ts
def tgVs : List Tg → List Nat
  | [] => []
  | t :: ts => tgV t ++ tgVs ts
end
/-- the slots but those of vs are as they were -/
def OffSl (vs : List Nat) (σ σ' : L2.St) : Prop := σ'.length = σ.length ∧ ∀ i, i ∉ vs → σ'[i]? = σ[i]?
def tG (K : PySem.W.Frag) (tg : Tg) : TG := fun v σ H Q => ∃ env IO Fr d, EnvOk K env IO Fr σ H ∧ Rep K (hid H (Hd env σ Fr)) d v ∧
  ∃ env', tgS tg d env = some env' ∧ ∀ σ', EnvOk K env' IO Fr σ' H → Stp Fr (Hd env σ Fr) H (Hd env' σ' Fr) H → OffSl (tgV tg) σ σ' → Q σ' H
def tGs (K : PySem.W.Frag) (ts : List Tg) : TGs := fun vs σ H Q => ∃ env IO Fr ds, EnvOk K env IO Fr σ H ∧ RepL K (hid H (Hd env σ Fr)) ds vs ∧
  ∃ env', tgsS ts ds env = some env' ∧ ∀ σ', EnvOk K env' IO Fr σ' H → Stp Fr (Hd env σ Fr) H (Hd env' σ' Fr) H → OffSl (tgVs ts) σ σ' → Q σ' H
theorem PG.imp {X : Cx} {e : Expr} {t t' : TG} (h : PG X e t) (i : ∀ v σ H Q, t' v σ H Q → t v σ H Q) : PG X e t' := ⟨fun pins s σ H v u Q I r w => h.run pins s σ H v u Q I r (i v σ H Q w)⟩
theorem PGs.imp {X : Cx} {e : List Expr} {t t' : TGs} (h : PGs X e t) (i : ∀ v σ H Q, t' v σ H Q → t v σ H Q) : PGs X e t' := ⟨fun pins s σ H v u Q I r w => h.run pins s σ H v u Q I r (i v σ H Q w)⟩
section
variable {X : Cx} {x : Str} {pos : Pos} {e : Expr} {es : List Expr} {t : Tg} {ts : List Tg}
theorem c_gnm (i : Nat) (hN : X.N.Nodup) (hi : X.N[i]? = some x := by rfl) (hx : Loc X.env.scope x := by first | exact Or.inl rfl | exact Or.inr rfl) (hf : X.fn x = true ∨ X.env.scope.names.lookup x = some .local := by first | exact .inl rfl | exact .inr rfl | assumption) :
    PG X (.Name x pos) (tG X.K (.nm i)) := PG.imp (pg_name hN hi hx hf) fun v σ H Q w => by
  obtain ⟨env, IO, Fr, d, ok, r, env', h, k⟩ := w
  unfold tgS at h
  split at h
  · rename_i hs
    cases h
    have ro : ResOk X.K (.shr d) v env IO Fr σ H := ⟨ok, r⟩
    obtain ⟨g1, g2⟩ := ro.store hs
    exact k _ g1 g2 ⟨by simp, fun j hj => List.getElem?_set_ne (fun z => hj (by simp [tgV, z]))⟩
  · cases h
theorem c_gsn : PGs X [] (tGs X.K []) := PGs.imp pgs_nil fun v σ H Q w => by
  obtain ⟨env, IO, Fr, ds, ok, r, env', h, k⟩ := w
  cases ds with
  | nil => cases h; cases r; exact ⟨rfl, k σ ok (Stp.refl _ _ _) ⟨rfl, fun _ _ => rfl⟩⟩
  | cons _ _ => cases h
theorem c_gsc (h1 : PG X e (tG X.K t)) (h2 : PGs X es (tGs X.K ts)) (hs : (assignEach (e :: es) X.env).map (·.2) = assign e X.env :: (assignEach es X.env).map (·.2) := by rfl) : PGs X (e :: es) (tGs X.K (t :: ts)) :=
  PGs.imp (pgs_cons h1 h2 hs) fun v σ H Q w => by
    obtain ⟨env, IO, Fr, ds, ok, r, env', h, k⟩ := w
    cases ds with
    | nil => cases h
    | cons d ds =>
      obtain ⟨v0, vr, rfl, r1, r2⟩ := r
      unfold tgsS at h
      split at h
      · rename_i e1 h1
        refine ⟨v0, vr, rfl, env, IO, Fr, d, ok, r1, e1, h1, fun σ1 ok1 st1 of1 => ?_⟩
        exact ⟨e1, IO, Fr, ds, ok1, RepL.mono (same_hid.mpr st1.same) r2, env', h, fun σ2 ok2 st2 of2 => k σ2 ok2 (st1.trans st2) ⟨of2.1.trans of1.1, fun i hi => by
          simp only [tgVs, List.mem_append, not_or] at hi
          rw [of2.2 i hi.2, of1.2 i hi.1]⟩⟩
      · cases h
theorem c_gtup {k : Nat} {n : Nat} (hc : X.calm = true) (h : PGs X es (tGs X.K ts)) (hl : ts.length = n := by rfl)
    (hn : (assignEach es X.env).length = n := by rfl) (hst : (assignEach es X.env).findIdx? (·.1) = none := by rfl) : PG X (.Tuple es k pos) (tG X.K (.tup ts)) :=
  PG.imp (pg_tup hc h hn hst) fun v σ H Q w => by
    obtain ⟨env, IO, Fr, d, ok, r, env', h, k⟩ := w
    cases d with
    | tup ds =>
      obtain ⟨a, vs, rfl, g1, g2⟩ := r
      have hlen : ∀ {ts : List Tg} {ds : List D} {env env' : List Sl}, tgsS ts ds env = some env' → ds.length = ts.length := by
        intro ts
        induction ts with
        | nil => intro ds env env' h; cases ds with | nil => rfl | cons _ _ => cases h
        | cons t ts ih =>
          intro ds env env' h
          cases ds with
          | nil => cases h
          | cons d ds =>
            unfold tgsS at h
            split at h
            · simp [ih h]
            · cases h
      have h' : tgsS ts ds env = some env' := h
      refine ⟨a, vs, rfl, Same.sqt same_hid_self g1, by rw [← g2.len, hlen h', hl], env, IO, Fr, ds, ok, g2, env', h', k⟩
    | _ => cases h
end
/-- a, b = e -/
def unpS (tg : Tg) (f : P) : S := fun env => match f env with
  | .ok d e => (match tgS tg d e with
    | some e' => .nx e'
    | none => .bad)
  | .exc x e => .ex x e
  | .bad => .bad
section
variable {X : Cx} {W : WX} {e tg : Expr} {f : P} {t : Tg} {pos : Pos}
theorem c_unp (he : PE X e (tP X.K W f)) (hg : PG X tg (tG X.K t)) (hs : swapsWithSole [tg] e pos.line X.env = pure false := by rfl) (hw : swappedStores [tg] e X.env = pure none := by rfl)
    (h1 : (assignEach [tg] X.env).map (·.2) = [assign tg X.env] := by rfl) : PS X (.Assign [tg] e pos) (tS X.K W (unpS t f)) :=
  PS.imp (ps_asg he hg hs hw h1) fun D σ H w => by
    obtain ⟨env, IO, Fr, ok, w⟩ := tS_run.mp w
    unfold unpS at w
    refine ⟨env, IO, Fr, ok, ?_⟩
    cases hf : f env with
    | ok d e1 =>
      rw [hf] at w
      simp only [] at w
      intro v H' ok1 r st
      cases ht : tgS t d e1 with
      | none => rw [ht] at w; exact w.elim
      | some e2 =>
        rw [ht] at w
        exact ⟨e1, IO, Fr, d, ok1, r, e2, ht, fun σ' ok2 st2 _ => w σ' H' ok2 (st.trans st2)⟩
    | exc x e1 => rw [hf] at w; exact fun c a H' ok1 st ec => w c a σ H' ok1 st ec
    | bad => rw [hf] at w; exact w.elim
end

/-! ### what a loop walks -/
/-- the iterator J yields the data ds, from the state P1, H1 on -/
def ItR (K : PySem.W.Frag) (P1 : Addr → Prop) (H1 : Hp) (J : It) (ds : List D) : Prop :=
  ∀ (P2 : Addr → Prop) (H2 : Hp), (∀ b o, ¬ P1 b → H1 b = some o → ¬ P2 b ∧ H2 b = some o) → (∀ b, P2 b → H2 b ≠ none) →
    (∀ i d, ds[i]? = some d → J.go i H2 ∧ ∀ x H3, J.yld i H2 x H3 → Same H2 H3 ∧ Rep K (hid H3 P2) d x) ∧ J.stop ds.length H2
abbrev I := List Sl → Res (List D)
def tI (K : PySem.W.Frag) (W : WX) (f : I) : TI := fun σ H R => ∃ env IO Fr, EnvOk K env IO Fr σ H ∧ Run K W IO Fr (Hd env σ Fr) H σ (f env) fun ds env' H' => ∀ J, ItR K (Hd env' σ Fr) H' J ds → R J H'
theorem PI.imp {X : Cx} {tg e : Expr} {t t' : TI} (h : PI X tg e t) (i : ∀ σ H Q, t' σ H Q → t σ H Q) : PI X tg e t' := ⟨fun pins s σ H R I w => h.run pins s σ H R I (i σ H R w)⟩
theorem PI.or {X : Cx} {tg e : Expr} {t t' : TI} (h : PI X tg e t) (h' : PI X tg e t') : PI X tg e (fun σ H R => t σ H R ∨ t' σ H R) :=
  ⟨fun pins s σ H R I w => w.elim (h.run pins s σ H R I) (h'.run pins s σ H R I)⟩
/-- the items of a list or a tuple -/
def seqI (f : P) : I := fun env => (f env).bind fun d e => match d with
  | .lst ds => .ok ds e
  | .tup ds => .ok ds e
  | _ => .bad
def rngL (lo : Int) (n : Nat) : List D := (List.range n).map fun (i : Nat) => D.int (lo + (i : Int))
/-- range(j), range(i, j), range(i, j, c) -/
def rng1D : List D → Option (List D)
  | [.int j] => if j.natAbs < 4611686018427387904 then some (rngL 0 j.toNat) else none
  | _ => none
def rng2D : List D → Option (List D)
  | [.int i, .int j] => if i.natAbs < 4611686018427387904 ∧ j.natAbs < 4611686018427387904 then some (rngL i (j - i).toNat) else none
  | _ => none
def rngC (lo c : Int) (n : Nat) : List D := (List.range n).map fun (i : Nat) => D.int (lo + (i : Int) * c)
/-- steps of a written size: n turns -/
def rng3D : List D → Option (List D)
  | [.int i, .int j, .int c] => if c ≠ 0 ∧ c.natAbs < 1073741824 ∧ Builtin.Range.small i j c = true then some (rngC i c (Builtin.Range.rangeSize i j c).toNat) else none
  | _ => none
def rngI (op : List D → Option (List D)) (as : List PL.A) : I := fun env => (many as env).bind fun ds e => opt (op ds) e
theorem rangeSize_nn (i j c : Int) : 0 ≤ Builtin.Range.rangeSize i j c := by
  unfold Builtin.Range.rangeSize
  split
  · rename_i hc
    split
    · have := Int.ediv_nonneg (a := j - i - 1) (b := c) (by omega) (by omega)
      omega
    · omega
  · rename_i hc
    split
    · by_cases h0 : c = 0
      · subst h0; simp
      · have := Int.ediv_nonneg (a := i - j - 1) (b := -c) (by omega) (by omega)
        omega
    · omega
theorem itR_rngC {K : PySem.W.Frag} {P1 : Addr → Prop} {H1 : Hp} {lo c : Int} {n : Nat} : ItR K P1 H1 (Itc lo c n) (rngC lo c n) := fun P2 H2 st hn => by
  refine ⟨fun i d hd => ?_, by show n ≤ _; simp [rngC]⟩
  unfold rngC at hd
  rw [List.getElem?_map] at hd
  obtain ⟨j, h1, rfl⟩ := Option.map_eq_some_iff.mp hd
  obtain ⟨h2, h3⟩ := List.getElem?_eq_some_iff.mp h1
  rw [List.getElem_range] at h3
  subst h3
  refine ⟨by show i < n; simpa using h2, fun x H3 y => ?_⟩
  obtain ⟨rfl, rfl⟩ := y
  exact ⟨fun _ _ z => z, rfl⟩
theorem itR_list {K : PySem.W.Frag} {P1 : Addr → Prop} {H1 : Hp} {a : Addr} {vs : List V} {ds : List D} (h : hid H1 P1 a = some (.lst vs)) (r : RepL K (hid H1 P1) ds vs) : ItR K P1 H1 (Itl K a) ds := fun P2 H2 st hn => by
  obtain ⟨h1, h2⟩ := hid_some.mp h
  obtain ⟨g1, g2⟩ := st a _ h1 h2
  have sq : SqL K H2 a vs := .of g2
  have m : Same (hid H1 P1) (hid H2 P2) := same_hid.mpr st
  refine ⟨fun i d hd => ?_, ⟨vs, sq, by rw [← r.len]; exact Nat.le_refl _⟩⟩
  obtain ⟨v, k1, k2⟩ := r.get hd
  refine ⟨⟨vs, v, sq, k1⟩, fun x H3 y => ?_⟩
  obtain ⟨rfl, y⟩ := y
  have := y vs sq
  rw [k1] at this
  cases this
  exact ⟨fun _ _ z => z, Rep.mono m k2⟩
theorem itR_tup {K : PySem.W.Frag} {P1 : Addr → Prop} {H1 : Hp} {a : Addr} {vs : List V} {ds : List D} (h : SqT K (hid H1 P1) a vs) (r : RepL K (hid H1 P1) ds vs) : ItR K P1 H1 (Itt K a) ds := fun P2 H2 st hn => by
  have m : Same (hid H1 P1) (hid H2 P2) := same_hid.mpr st
  have sq : SqT K H2 a vs := Same.sqt (fun b o z => same_hid_self b o (m b o z)) h
  refine ⟨fun i d hd => ?_, ⟨vs, sq, by rw [← r.len]; exact Nat.le_refl _⟩⟩
  obtain ⟨v, k1, k2⟩ := r.get hd
  refine ⟨⟨vs, v, sq, k1⟩, fun x H3 y => ?_⟩
  obtain ⟨rfl, y⟩ := y
  have := y vs sq
  rw [k1] at this
  cases this
  exact ⟨fun _ _ z => z, Rep.mono m k2⟩
theorem itR_rng {K : PySem.W.Frag} {P1 : Addr → Prop} {H1 : Hp} {lo : Int} {n : Nat} : ItR K P1 H1 (Itr lo n) (rngL lo n) := fun P2 H2 st hn => by
  refine ⟨fun i d hd => ?_, by show n ≤ _; simp [rngL]⟩
  unfold rngL at hd
  rw [List.getElem?_map] at hd
  obtain ⟨j, h1, rfl⟩ := Option.map_eq_some_iff.mp hd
  obtain ⟨h2, h3⟩ := List.getElem?_eq_some_iff.mp h1
  rw [List.getElem_range] at h3
  subst h3
  refine ⟨by show i < n; simpa using h2, fun x H3 y => ?_⟩
  obtain ⟨rfl, rfl⟩ := y
  exact ⟨fun _ _ z => z, rfl⟩
section
variable {X : Cx} {W : WX} {tg e a b : Expr} {f : P} {o1 o2 : PL.A} {p pos : Pos}
theorem c_iseq (he : PE X e (tP X.K W f)) : PI X tg e (tI X.K W (seqI f)) :=
  PI.imp (PI.or (pi_list he) (pi_tup he)) fun σ H R w => by
    obtain ⟨env, IO, Fr, ok, w⟩ := w
    unfold seqI at w
    cases hf : f env with
    | ok d e1 =>
      rw [hf] at w
      cases d with
      | lst ds =>
        refine .inl ⟨env, IO, Fr, ok, ?_⟩
        rw [hf]
        intro v H' ok1 r st
        obtain ⟨a, vs, rfl, h1, h2⟩ := r
        exact ⟨a, rfl, ⟨vs, .of (same_hid_self _ _ h1)⟩, w H' ok1 st _ (itR_list h1 h2)⟩
      | tup ds =>
        refine .inr ⟨env, IO, Fr, ok, ?_⟩
        rw [hf]
        intro v H' ok1 r st
        obtain ⟨a, vs, rfl, h1, h2⟩ := r
        exact ⟨a, rfl, ⟨vs, Same.sqt same_hid_self h1⟩, w H' ok1 st _ (itR_tup h1 h2)⟩
      | _ => exact w.elim
    | exc x e1 => rw [hf] at w; exact .inl ⟨env, IO, Fr, ok, by rw [hf]; exact w⟩
    | bad => rw [hf] at w; exact w.elim
theorem BReps.len {K : PySem.W.Frag} {env : List Sl} {Fr : List Addr} {σ : L2.St} {H : Hp} : ∀ {ds : List D} {vs : List V}, BReps K env Fr σ H ds vs → ds.length = vs.length
  | [], _, h => by cases h; rfl
  | d :: ds, _, ⟨v, r, h1, _, h3⟩ => by subst h1; simp [BReps.len h3]
theorem rng_rd {K : PySem.W.Frag} {op : List D → Option (List D)} {as : List PL.A} {σ : L2.St} {H : Hp} {R : It → Hp → Prop} {r : List V → Hp → Prop} (w : tI K W (rngI op as) σ H R)
    (h : ∀ {env : List Sl} {IO : List (Option Addr)} {Fr : List Addr} {ds rs : List D} {vs : List V} {H1 : Hp}, op ds = some rs → BReps K env Fr σ H1 ds vs → (∀ J, ItR K (Hd env σ Fr) H1 J rs → R J H1) → r vs H1) : tAs K W as σ H r := by
  obtain ⟨env, IO, Fr, ok, w⟩ := w
  refine many_of ok (Run.mono (Stp.refl _ _ _) w.split fun ds e1 H1 ok1 s1 h1 vs _ bx => ?_)
  cases hr : op ds with
  | none => rw [hr] at h1; exact h1.elim
  | some rs =>
    rw [hr] at h1
    exact h (IO := IO) hr bx (h1 H1 ok1 (Stp.refl _ _ _))
theorem c_irng1 (hm : X.mg "range" = none) (ha : PA X [a] (tAs X.K W [o1])) (hg : Gl X "range" := by rfl) (hs : starEach [a] X.env = [(false, eval a X.env)] := by rfl) : PI X tg (.Call (.Name "range" p) [a] [] pos) (tI X.K W (rngI rng1D [o1])) :=
  PI.imp (pi_range1 hg hm ha hs) fun σ H R w => rng_rd w fun {env IO Fr ds rs vs H1} hr bx k => by
    unfold rng1D at hr
    split at hr
    · split at hr
      · rename_i hj
        cases hr
        obtain ⟨v, rfl, b⟩ := bx.one
        cases b.int
        exact ⟨_, rfl, by omega, by omega, k _ itR_rng⟩
      · cases hr
    · cases hr
theorem c_irng2 (hm : X.mg "range" = none) (ha : PA X [a, b] (tAs X.K W [o1, o2])) (hg : Gl X "range" := by rfl) (hs : starEach [a, b] X.env = [(false, eval a X.env), (false, eval b X.env)] := by rfl) (hs2 : starEach [b] X.env = [(false, eval b X.env)] := by rfl) :
    PI X tg (.Call (.Name "range" p) [a, b] [] pos) (tI X.K W (rngI rng2D [o1, o2])) :=
  PI.imp (pi_range2 hg hm ha hs hs2) fun σ H R w => rng_rd w fun {env IO Fr ds rs vs H1} hr bx k => by
    unfold rng2D at hr
    split at hr
    · split at hr
      · rename_i hj
        cases hr
        obtain ⟨v, v', rfl, b, b'⟩ := bx.two
        cases b.int
        cases b'.int
        exact ⟨_, _, rfl, ⟨by omega, by omega, by omega, by omega⟩, k _ itR_rng⟩
      · cases hr
    · cases hr
theorem c_irng3 {c : Expr} {o3 : PL.A} (hm : X.mg "range" = none) (ha : PA X [a, b, c] (tAs X.K W [o1, o2, o3])) (hg : Gl X "range" := by rfl)
    (hs : starEach [a, b, c] X.env = (false, eval a X.env) :: starEach [b, c] X.env := by rfl) (hpl : (backTo pos (starEach [b, c] X.env)).any (·.1) = false := by rfl) :
    PI X tg (.Call (.Name "range" p) [a, b, c] [] pos) (tI X.K W (rngI rng3D [o1, o2, o3])) :=
  PI.imp (pi_range3 hg hm ha hs hpl) fun σ H R w => rng_rd w fun {env IO Fr ds rs vs H1} hr bx k => by
    unfold rng3D at hr
    split at hr
    · split at hr
      · rename_i hj
        cases hr
        obtain ⟨v1, r1, rfl, b1, v2, r2, rfl, b2, v3, r3, rfl, b3, e3⟩ := bx
        cases b1.int
        cases b2.int
        cases b3.int
        cases e3
        refine ⟨_, _, _, _, rfl, ⟨hj.1, hj.2.1, hj.2.2, ?_⟩, k _ itR_rngC⟩
        rw [Int.toNat_of_nonneg]
        exact rangeSize_nn _ _ _
      · cases hr
    · cases hr
end

/-! ### for -/
def loopS (tg : Tg) (body : S) : List D → S
  | [], env => .nx env
  | d :: ds, env => match tgS tg d env with
    | none => .bad
    | some e => match body e with
      | .nx e2 => loopS tg body ds e2
      | .ct e2 => loopS tg body ds e2
      | .bk e2 => .nx e2
      | r => r
def forS (it : I) (tg : Tg) (body : S) : S := fun env => match it env with
  | .ok ds e => loopS tg body ds e
  | .exc x e => .ex x e
  | .bad => .bad
theorem EnvOk.hdThere {K : PySem.W.Frag} {env : List Sl} {IO : List (Option Addr)} {Fr : List Addr} {σ : L2.St} {H : Hp} (e : EnvOk K env IO Fr σ H) : ∀ b, Hd env σ Fr b → H b ≠ none := fun b h z => e.fresh z h
section
variable {X : Cx} {W : WX} {iter tg : Expr} {body : List Stmt} {it : I} {t : Tg} {f : S} {pos : Pos}
theorem for_rd {K : PySem.W.Frag} {σ : L2.St} {H : Hp} {Z : Ends} (w : tS K W (forS it t f) Z σ H) : tFor (tI K W it) (tG K t) (tS K W f) Z σ H := by
  obtain ⟨env, IO, Fr, ok, w⟩ := tS_run.mp w
  refine ⟨env, IO, Fr, ok, ?_⟩
  unfold forS at w
  cases hi : it env with
  | exc x e1 => rw [hi] at w; exact fun c a H' ok1 st ec => w c a σ H' ok1 st ec
  | bad => rw [hi] at w; exact w.elim
  | ok ds e1 =>
    rw [hi] at w
    intro H1 ok1 st1 J itr
    refine ⟨fun i m σ' H' => m = ds.length - i ∧ i ≤ ds.length ∧ ∃ env', EnvOk K env' IO Fr σ' H' ∧ Stp Fr (Hd e1 σ Fr) H1 (Hd env' σ' Fr) H' ∧ RunS K W IO Fr (Hd env' σ' Fr) H' (loopS t f (ds.drop i) env') Z,
      ⟨ds.length, rfl, Nat.zero_le _, e1, ok1, Stp.refl _ _ _, RunS.from st1 w⟩, ?_⟩
    rintro i m σ' H' ⟨rfl, hi, env', ok', st', run⟩
    obtain ⟨it1, it2⟩ := itr _ H' st'.same ok'.hdThere
    by_cases hlt : i < ds.length
    · have hd : ds.drop i = ds[i] :: ds.drop (i + 1) := List.drop_eq_getElem_cons hlt
      obtain ⟨go, yl⟩ := it1 i ds[i] (List.getElem?_eq_getElem hlt)
      refine .inr ⟨go, _, fun σ2 H2 p => ⟨ds.length - (i + 1), by omega, p⟩, fun x H2 y => ?_⟩
      obtain ⟨sm, r⟩ := yl x H2 y
      have ok2 := ok'.grow sm
      have st2 := ok'.stp sm
      rw [hd] at run
      unfold loopS at run
      cases ht : tgS t ds[i] env' with
      | none => rw [ht] at run; exact run.elim
      | some e2 =>
        rw [ht] at run
        refine ⟨env', IO, Fr, ds[i], ok2, r, e2, ht, fun σ3 ok3 st3 _ => ?_⟩
        refine tS_run.mpr ⟨e2, IO, Fr, ok3, ?_⟩
        have run3 := RunS.from (st2.trans st3) run
        have stt := st'.trans (st2.trans st3)
        simp only [] at run3
        cases hb : f e2 with
        | nx e4 =>
          rw [hb] at run3
          exact fun σ4 H4 ok4 st4 => ⟨rfl, hlt, e4, ok4, stt.trans st4, RunS.from st4 run3⟩
        | ct e4 =>
          rw [hb] at run3
          exact fun σ4 H4 ok4 st4 => ⟨rfl, hlt, e4, ok4, stt.trans st4, RunS.from st4 run3⟩
        | bk e4 => rw [hb] at run3; exact run3
        | rt s e4 => rw [hb] at run3; exact run3
        | ex x e4 => rw [hb] at run3; exact run3
        | bad => rw [hb] at run3; exact run3
    · have e : i = ds.length := by omega
      subst e
      refine .inl ⟨it2, ?_⟩
      rw [List.drop_length] at run
      exact run σ' H' ok' (Stp.refl _ _ _)
theorem c_for (hp : PassesOwn (model X.prog X.w) X.A X.env X.xe) (hc : X.calm = true) (hi : PI X tg iter (tI X.K W it)) (hg : PG X tg (tG X.K t)) (hb : PSs X body (tS X.K W f)) (hs : ∀ x, foldedSetIterable iter X.env x = pure x := by intro _; rfl) :
    PS X (.For tg iter body [] pos) (tS X.K W (forS it t f)) := PS.imp (ps_for hp hc hi hg hb hs) fun D σ H w => for_rd w
end
/-! ### while -/
def whileS (t : T) (body : S) : Nat → S
  | 0, _ => .bad
  | n + 1, env => match t env with
    | .ok true e => (match body e with
      | .nx e2 => whileS t body n e2
      | .ct e2 => whileS t body n e2
      | .bk e2 => .nx e2
      | r => r)
    | .ok false e => .nx e
    | .exc x e => .ex x e
    | .bad => .bad
section
variable {X : Cx} {W : WX} {c : Expr} {body : List Stmt} {t : T} {f : S} {pos : Pos}
theorem while_rd {K : PySem.W.Frag} {σ : L2.St} {H : Hp} {Z : Ends} (n : Nat) (w : tS K W (whileS t f n) Z σ H) : tWhile (tT K W t) (tS K W f) Z σ H := by
  obtain ⟨env, IO, Fr, ok, w⟩ := tS_run.mp w
  refine ⟨fun m σ' H' => ∃ env', EnvOk K env' IO Fr σ' H' ∧ RunS K W IO Fr (Hd env' σ' Fr) H' (whileS t f m env') Z, ⟨n, env, ok, w⟩, ?_⟩
  rintro m σ' H' ⟨env', ok', run⟩
  cases m with
  | zero => exact run.elim
  | succ m =>
    unfold whileS at run
    refine tT_run.mpr ⟨env', IO, Fr, ok', ?_⟩
    cases ht : t env' with
    | exc x e1 => rw [ht] at run; exact fun c a H1 ok1 st ec => run c a σ' H1 ok1 st ec
    | bad => rw [ht] at run; exact run.elim
    | ok k e1 =>
      rw [ht] at run
      intro H1 ok1 st1
      cases k with
      | false => exact run σ' H1 ok1 st1
      | true =>
        refine ⟨_, fun σ2 H2 p => ⟨m, Nat.lt_succ_self _, p⟩, tS_run.mpr ⟨e1, IO, Fr, ok1, ?_⟩⟩
        have run1 := RunS.from st1 run
        simp only [] at run1
        cases hb : f e1 with
        | nx e4 => rw [hb] at run1; exact fun σ4 H4 ok4 st4 => ⟨e4, ok4, RunS.from st4 run1⟩
        | ct e4 => rw [hb] at run1; exact fun σ4 H4 ok4 st4 => ⟨e4, ok4, RunS.from st4 run1⟩
        | bk e4 => rw [hb] at run1; exact run1
        | rt s e4 => rw [hb] at run1; exact run1
        | ex x e4 => rw [hb] at run1; exact run1
        | bad => rw [hb] at run1; exact run1
theorem c_while (n : Nat) (hp : PassesOwn (model X.prog X.w) X.A X.env X.xe) (hc : PT X c (tT X.K W t)) (hb : PSs X body (tS X.K W f)) : PS X (.While c body [] pos) (tS X.K W (whileS t f n)) :=
  PS.imp (ps_while hp hc hb) fun D σ H w => while_rd n w
end
end PL

/-! Pl12: what changes lists, dicts, instances; +=; raise; {}, d.get. -/
namespace PL
open PySem L2

/-- a name's owned list | dict | instance -/
def ownLst (env : List Sl) (i : Nat) : Option (List D) := match ownOf env i with
  | some (.lst ds) => some ds
  | _ => none
theorem ownLst_of {env : List Sl} {i : Nat} {ds : List D} (h : ownLst env i = some ds) : ownOf env i = some (.lst ds) := by
  unfold ownLst at h
  split at h
  · cases h; assumption
  · cases h
section
variable {K : PySem.W.Frag} {env : List Sl} {IO : List (Option Addr)} {Fr : List Addr} {σ : L2.St} {H : Hp} {i : Nat} {ds : List D}
theorem EnvOk.lst (e : EnvOk K env IO Fr σ H) (h : ownLst env i = some ds) : ∃ p vs, σ[i]? = some (some (.ref p)) ∧ H p = some (.lst vs) ∧ RepL K (hid H (Hd env σ Fr)) ds vs ∧
    ∀ ds' vs', RepL K (hid H (Hd env σ Fr)) ds' vs' → EnvOk K (setD env i (.lst ds')) IO Fr σ (upd H p (.lst vs')) ∧ Stp Fr (Hd env σ Fr) H (Hd (setD env i (.lst ds')) σ Fr) (upd H p (.lst vs')) := by
  have ho := ownOf_at (ownLst_of h)
  obtain ⟨p, o, h1, h2, h3, ⟨vs, rfl, h5⟩⟩ := e.own i _ ho
  exact ⟨p, vs, h1, h3, h5, fun ds' vs' r => e.change ho h1 ⟨vs', rfl, r⟩⟩
end
/-- x.m(..) of a name's own list, the answer dropped -/
def mtS (op : List D → List D → Option (List D)) (i : Nat) (fs : List P) : S := fun env => if (ownLst env i).isNone then .bad else match evP fs env with
  | .ok args e1 => (match ownLst e1 i with
    | some ds => (match op ds args with
      | some ds' => .nx (setD e1 i (.lst ds'))
      | none => .bad)
    | none => .bad)
  | .exc x e => .ex x e
  | .bad => .bad
/-- what a method's rule must tell -/
def MtD (K : PySem.W.Frag) (r : V → List V → Hp → VK → Prop) (op : List D → List D → Option (List D)) : Prop := ∀ {H0 H : Hp} {p : Addr} {ds args ds' : List D} {vs ws : List V} {Q : VK}, H p = some (.lst vs) → RepL K H0 ds vs → RepL K H0 args ws → op ds args = some ds' →
  (∀ v vs', RepL K H0 ds' vs' → Q v (upd H p (.lst vs'))) → r (.ref p) ws H Q
theorem mt_rd {K : PySem.W.Frag} {W : WX} {r : V → List V → Hp → VK → Prop} {op : List D → List D → Option (List D)} (hr : MtD K r op) {i : Nat} {fs : List P} {σ : L2.St} {H : Hp} {Z : Ends} (w : tS K W (mtS op i fs) Z σ H) : tDrop (tBM K "list" r (tVar i) (tPs K W fs)) Z σ H := by
  obtain ⟨env, IO, Fr, ok, w⟩ := tS_run.mp w
  unfold mtS at w
  cases h0 : ownLst env i with
  | none => rw [h0] at w; exact w.elim
  | some d0 =>
    rw [h0] at w
    simp only [Option.isNone_some, Bool.false_eq_true, if_false] at w
    obtain ⟨p, vs, hp, hH, _⟩ := ok.lst h0
    refine ⟨.ref p, hp, .inl ⟨rfl, vs, .of hH⟩, ?_⟩
    refine tPs_of ok ?_
    cases hf : evP fs env with
    | exc x e1 => rw [hf] at w; exact fun c a H' ok1 st ec => w c a σ H' ok1 st ec
    | bad => rw [hf] at w; exact w.elim
    | ok args e1 =>
      rw [hf] at w
      simp only [] at w
      intro H1 ok1 st1 ws _ rw_
      cases h1 : ownLst e1 i with
      | none => rw [h1] at w; exact w.elim
      | some ds =>
        rw [h1] at w
        simp only [] at w
        cases h2 : op ds args with
        | none => rw [h2] at w; exact w.elim
        | some ds' =>
          rw [h2] at w
          obtain ⟨p1, vs1, hp1, hH1, r1, ch⟩ := ok1.lst h1
          rw [hp] at hp1
          cases hp1
          refine hr hH1 r1 rw_ h2 fun v vs' r' => ?_
          obtain ⟨c1, c2⟩ := ch ds' vs' r'
          exact w σ _ c1 (st1.trans c2)
def appD (ds : List D) (args : List D) : Option (List D) := match args with
  | [d] => if ds.length < 16777216 then some (ds ++ [d]) else none
  | _ => none
theorem mtd_append {K : PySem.W.Frag} : MtD K rAppend appD := fun {H0 H p ds args ds' vs ws Q} hH r ra h k => by
  unfold appD at h
  split at h
  · split at h
    · rename_i d hl
      cases h
      obtain ⟨v, s, rfl, rv, rfl⟩ := ra
      exact ⟨p, vs, v, rfl, rfl, hH, by rw [← r.len]; exact hl, k _ _ (RepL.snoc r ⟨v, [], rfl, rv, rfl⟩)⟩
    · cases h
  · cases h
section
variable {X : Cx} {W : WX} {o e : Expr} {es : List Expr} {x : Str} {fs : List P} {apos cpos pos pn : Pos} {i : Nat}
theorem c_append (i : Nat) (ho : PE X o (tA X.K W (.nm i))) (ha : PA X [e] (tPs X.K W fs))
    (hbase : attributeBase o "append" X.env (eval o X.env) = eval o X.env := by rfl)
    (hfew : ((backTo cpos (starEach [e] X.env)).all (fun x => !x.1) && (backToKw cpos (keywordEach [] X.env)).all (fun x => x.1.isSome)
      && decide (([e] : List Expr).length + ([] : List Keyword).length + (if ([] : List Keyword).isEmpty then 0 else 1) < 30)) = true := by rfl)
    (hline : (apos.endLine == cpos.line) = true := by rfl) (hs : starEach [e] X.env = (false, eval e X.env) :: starEach [] X.env := by rfl) (hplain : (backTo cpos (starEach [] X.env)).any (·.1) = false := by rfl)
    (hsw : swapsWith (.Call (.Attribute o "append" apos) [e] [] cpos) none pos.line X.env = pure false := by rfl) :
    PS X (.Expr (.Call (.Attribute o "append" apos) [e] [] cpos) pos) (tS X.K W (mtS appD i fs)) :=
  PS.imp (ps_expr (pe_bm PySem.F.plainAttrs_list PySem.F.slot_list_append PySem.F.type_list_append mt_append ho ha hbase hfew hline hs hplain) hsw) fun Z σ H w => mt_rd mtd_append w
end

/-! ### x[i] = e -/
def lput (i : Nat) (k : D) (d : D) (env : List Sl) : Option (List Sl) := match ownOf env i, k with
  | some (.lst ds), .int j => (ixN ds.length j).map fun n => setD env i (.lst (ds.set n d))
  | _, _ => none
def dput (i : Nat) (k : D) (d : D) (env : List Sl) : Option (List Sl) := match ownOf env i, keyD k with
  | some (.dic ks ds), some j => if ks.length < 16777216 then some (setD env i (.dic (pt ks ds j d).1 (pt ks ds j d).2)) else none
  | _, _ => none
def putS (op : Nat → D → D → List Sl → Option (List Sl)) (i : Nat) (fi fv : P) : S := fun env => match fv env with
  | .ok d e1 => if (pk e1 i).isNone then .bad else (match fi e1 with
    | .ok k e2 => (match op i k d e2 with
      | some e3 => .nx e3
      | none => .bad)
    | .exc x e => .ex x e
    | .bad => .bad)
  | .exc x e => .ex x e
  | .bad => .bad
theorem pt_nodup {j : Key} {e : D} : ∀ {ks : List Key} {ds : List D}, ks.length = ds.length → ks.Nodup → (pt ks ds j e).1.Nodup ∧ ∀ k ∈ (pt ks ds j e).1, k ∈ ks ∨ k = j
  | [], ds, _, _ => by simp [pt]
  | k :: ks, [], h, _ => by simp at h
  | k :: ks, d :: ds, h, nd => by
    have nd' := List.nodup_cons.mp nd
    unfold pt
    by_cases hk : k = j
    · rw [if_pos hk]
      exact ⟨nd, fun q hq => .inl hq⟩
    · rw [if_neg hk]
      obtain ⟨h1, h2⟩ := pt_nodup (j := j) (e := e) (ks := ks) (ds := ds) (by simpa using h) nd'.2
      refine ⟨List.nodup_cons.mpr ⟨fun hm => ?_, h1⟩, fun q hq => ?_⟩
      · rcases h2 k hm with z | z
        · exact nd'.1 z
        · exact hk z
      · rcases List.mem_cons.mp hq with rfl | hq
        · exact .inl List.mem_cons_self
        · rcases h2 q hq with z | z
          · exact .inl (List.mem_cons_of_mem _ z)
          · exact .inr z
theorem PS.or {X : Cx} {e : Stmt} {t t' : TS} (h : PS X e t) (h' : PS X e t') : PS X e (fun Z σ H => t Z σ H ∨ t' Z σ H) :=
  ⟨fun pins s σ H D I w => w.elim (h.run pins s σ H D I) (h'.run pins s σ H D I)⟩
section
variable {X : Cx} {W : WX} {o i v : Expr} {fi fv : P} {pos' pos : Pos} {n : Nat}
theorem put_rd {K : PySem.W.Frag} {op : Nat → D → D → List Sl → Option (List Sl)} {σ : L2.St} {H : Hp} {Z : Ends} {r : V → V → V → Hp → (Hp → Prop) → Prop}
    (hr : ∀ {env : List Sl} {IO : List (Option Addr)} {Fr : List Addr} {σ : L2.St} {H : Hp} {k d : D} {x y z : V} {e3 : List Sl} {Q : Hp → Prop}, EnvOk K env IO Fr σ H → op n k d env = some e3 → σ[n]? = some (some x) → Rep K (hid H (Hd env σ Fr)) k y → Rep K (hid H (Hd env σ Fr)) d z →
      (∀ H', EnvOk K e3 IO Fr σ H' → Stp Fr (Hd env σ Fr) H (Hd e3 σ Fr) H' → Q H') → r x y z H Q) (w : tS K W (putS op n fi fv) Z σ H) :
    tP K W fv σ H fun z H1 => tVar n σ H1 fun x H2 => tP K W fi σ H2 fun y H3 => r x y z H3 fun H4 => Z.nx σ H4 := by
  obtain ⟨env, IO, Fr, ok, w⟩ := tS_run.mp w
  unfold putS at w
  refine ⟨env, IO, Fr, ok, ?_⟩
  cases hf : fv env with
  | exc x e1 => rw [hf] at w; exact fun c a H' ok1 st ec => w c a σ H' ok1 st ec
  | bad => rw [hf] at w; exact w.elim
  | ok d e1 =>
    rw [hf] at w
    simp only [] at w
    intro z H1 ok1 rz st1
    cases hpk : PL.pk e1 n with
    | none => rw [hpk] at w; exact w.elim
    | some dx =>
      rw [hpk] at w
      simp only [Option.isNone_some, Bool.false_eq_true, if_false] at w
      obtain ⟨x, hx, _⟩ := ok1.pk hpk
      refine ⟨x, hx, e1, IO, Fr, ok1, ?_⟩
      cases hg : fi e1 with
      | exc x e2 => rw [hg] at w; exact fun c a H' ok2 st ec => w c a σ H' ok2 (st1.trans st) ec
      | bad => rw [hg] at w; exact w.elim
      | ok k e2 =>
        rw [hg] at w
        simp only [] at w
        intro y H2 ok2 ry st2
        cases ho : op n k d e2 with
        | none => rw [ho] at w; exact w.elim
        | some e3 =>
          rw [ho] at w
          exact hr ok2 ho hx ry (st2.rep rz) fun H' ok3 st3 => w σ H' ok3 (st1.trans (st2.trans st3))
theorem c_lput (n : Nat) (ho : PE X o (tA X.K W (.nm n))) (hi : PE X i (tP X.K W fi)) (hv : PE X v (tP X.K W fv)) (hs : swapsWithSole [.Subscript o i pos'] v pos.line X.env = pure false := by rfl) (hw : swappedStores [.Subscript o i pos'] v X.env = pure none := by rfl)
    (h1 : (assignEach [.Subscript o i pos'] X.env).map (·.2) = [assign (.Subscript o i pos') X.env] := by rfl)
    (ha : ∀ v, assign (.Subscript o i pos') X.env v = (do
      let ov ← holding [v] (eval o X.env)
      let iv ← holding [v, ov] (eval i X.env)
      standAt pos'
      holding [v, ov, iv] (setItem ov iv v)
      release [v, ov, iv] []) := by intro _; rfl) : PS X (.Assign [.Subscript o i pos'] v pos) (tS X.K W (putS lput n fi fv)) :=
  PS.imp (ps_asg hv (pg_sub ho hi set_list ha) hs hw h1) fun Z σ H w => put_rd (r := rSetL) (fun {env IO Fr σ H k d x y z e3 Q} ok h hx ry rz kk => by
    unfold lput at h
    split at h
    · rename_i ds j hds
      obtain ⟨m, hm, rfl⟩ := Option.map_eq_some_iff.mp h
      obtain ⟨p, vs, hp, hH, r, ch⟩ := ok.lst (i := n) (ds := ds) (by unfold ownLst; rw [hds])
      rw [hx] at hp
      cases hp
      cases ry
      obtain ⟨c1, c2⟩ := ch (ds.set m d) (vs.set m z) (r.set rz m)
      exact ⟨p, vs, j, m, rfl, rfl, hH, by rw [← r.len]; exact hm, kk _ c1 c2⟩
    · cases h) w
theorem c_dput (n : Nat) (hu : X.A.units + 1 < cLine) (ho : PE X o (tA X.K W (.nm n))) (hi : PE X i (tP X.K W fi)) (hv : PE X v (tP X.K W fv)) (hs : swapsWith v (some (.Subscript o i pos')) pos.line X.env = pure false := by rfl) :
    PS X (.Assign [.Subscript o i pos'] v pos) (tS X.K W (putS dput n fi fv)) :=
  PS.imp (ps_dput hu ho hi hv hs) fun Z σ H w => put_rd (r := fun x y z H Q => ∃ a H4, x = .ref a ∧ DPut H a y z H4 ∧ Q H4) (fun {env IO Fr σ H k d x y z e3 Q} ok h hx ry rz kk => by
    unfold dput at h
    split at h
    · rename_i ks ds j hds hk
      split at h
      · rename_i hl
        cases h
        have hown := ownOf_at hds
        obtain ⟨p, o, h1, h2, h3, ⟨vs, rfl, ⟨hle, hnd⟩, h5⟩⟩ := ok.own n _ hown
        rw [hx] at h1
        cases h1
        obtain ⟨ws, g1, g2, g3⟩ := pt_rep (j := j) rz hnd hle h5
        have hlen : ks.length = ds.length := by rw [hle, h5.len]
        obtain ⟨c1, c2⟩ := ok.change hown hx (d' := .dic (pt ks ds j d).1 (pt ks ds j d).2) (o' := .dK ((pt ks ds j d).1.zip ws)) ⟨ws, rfl, ⟨g2, (pt_nodup hlen hnd).1⟩, g3⟩
        refine ⟨p, _, rfl, .inl ⟨_, j, h3, keyD_rep hk ry, ?_, rfl⟩, ?_⟩
        · rw [List.length_zip, ← hle, Nat.min_self]; exact hl
        · rw [g1]; exact kk _ c1 c2
      · cases h
    · cases h) w
end

/-! ### o.f = e -/
def putN (f : Str) (d : D) : List Str → List D → List Str × List D
  | n :: ns, e :: es => if n = f then (n :: ns, d :: es) else ((n :: (putN f d ns es).1), (e :: (putN f d ns es).2))
  | _, _ => ([f], [d])
theorem putN_rep {K : PySem.W.Frag} {H : Hp} {f : Str} {d : D} {w : V} (hd : Rep K H d w) : ∀ {ns : List Str} {ds : List D} {vs : List V}, ns.length = vs.length → RepL K H ds vs →
    ∃ ws, putF f w (ns.zip vs) = (putN f d ns ds).1.zip ws ∧ (putN f d ns ds).1.length = ws.length ∧ RepL K H (putN f d ns ds).2 ws
  | [], ds, vs, hl, r => by
    have : vs = [] := by cases vs with | nil => rfl | cons _ _ => simp at hl
    subst this
    have : ds = [] := by cases ds with | nil => rfl | cons _ _ => exact absurd r.len (by simp)
    subst this
    exact ⟨[w], rfl, rfl, w, [], rfl, hd, rfl⟩
  | n :: ns, [], vs, hl, r => by cases r; simp at hl
  | n :: ns, e :: ds, _, hl, ⟨v, r, h1, h2, h3⟩ => by
    subst h1
    unfold putN
    rw [List.zip_cons_cons]
    by_cases hk : n = f
    · subst hk
      rw [if_pos rfl]
      refine ⟨w :: r, ?_, by simpa using hl, w, r, rfl, hd, h3⟩
      simp [putF]
    · rw [if_neg hk]
      obtain ⟨ws, g1, g2, g3⟩ := putN_rep hd (by simpa using hl) h3
      exact ⟨v :: ws, by simp [putF, hk, g1], by simpa using g2, v, ws, rfl, h2, g3⟩
/-- name.f = e, of an own instance of class c -/
def attS (c f : Str) (i : Nat) (fv : P) : S := fun env => match fv env with
  | .ok d e1 => (match ownOf e1 i with
    | some (.ins c' ns ds) => if c' = c ∧ ns.length < 1000 then .nx (setD e1 i (.ins c (putN f d ns ds).1 (putN f d ns ds).2)) else .bad
    | _ => .bad)
  | .exc x e => .ex x e
  | .bad => .bad
section
variable {X : Cx} {W : WX} {o v : Expr} {fv : P} {f c : Str} {pos' pos : Pos} {n : Nat}
theorem c_att (n : Nat) (hc : Cls X.K (He.ga X.K c)) (hn : NoAttr X.K (He.ga X.K c) f) (ho : PE X o (tA X.K W (.nm n))) (hv : PE X v (tP X.K W fv)) (hs : swapsWith v (some (.Attribute o f pos')) pos.line X.env = pure false := by rfl) :
    PS X (.Assign [.Attribute o f pos'] v pos) (tS X.K W (attS c f n fv)) :=
  PS.imp (ps_fld ho hv hs) fun Z σ H w => by
    obtain ⟨env, IO, Fr, ok, w⟩ := tS_run.mp w
    unfold attS at w
    refine ⟨env, IO, Fr, ok, ?_⟩
    cases hf : fv env with
    | exc x e1 => rw [hf] at w; exact fun c a H' ok1 st ec => w c a σ H' ok1 st ec
    | bad => rw [hf] at w; exact w.elim
    | ok d e1 =>
      rw [hf] at w
      simp only [] at w
      intro y H1 ok1 ry st1
      cases ho : ownOf e1 n with
      | none => rw [ho] at w; exact w.elim
      | some dx =>
        rw [ho] at w
        cases dx with
        | ins c' ns ds =>
          simp only [] at w
          split at w
          · rename_i hcc
            obtain ⟨rfl, hl⟩ := hcc
            have hown := ownOf_at ho
            obtain ⟨p, o, h1, h2, h3, ⟨dx, vs, rfl, hle, h5⟩⟩ := ok1.own n _ hown
            obtain ⟨ws, g1, g2, g3⟩ := putN_rep (f := f) ry hle h5
            obtain ⟨k1, k2⟩ := ok1.change hown h1 (d' := .ins c' (putN f d ns ds).1 (putN f d ns ds).2) (o' := .ins (He.ga X.K c') dx ((putN f d ns ds).1.zip ws)) ⟨dx, ws, rfl, g2, g3⟩
            refine ⟨_, h1, p, _, dx, _, rfl, h3, hc, hn, ?_, ?_⟩
            · rw [List.length_zip, ← hle, Nat.min_self]; exact hl
            · rw [g1]; exact w σ _ k1 (st1.trans k2)
          · exact w.elim
        | _ => exact w.elim
end

/-! ### x += e -/
def augS (op : D → D → Option D) (i : Nat) (f : P) : S := fun env => match env[i]? with
  | some (.shr x) => (match f env with
    | .ok y e1 => (match op x y with
      | some z => if setOk e1 i then .nx (e1.set i (.shr z)) else .bad
      | none => .bad)
    | .exc x e => .ex x e
    | .bad => .bad)
  | _ => .bad
def addS : D → D → Option D
  | .int i, .int j => some (.int (i + j))
  | .str x, .str y => if x.length + y.length ≤ 16777216 then some (.str (x ++ y)) else none
  | _, _ => none
section
variable {X : Cx} {W : WX} {e : Expr} {f : P} {x : Str} {pos' pos : Pos}
theorem c_aug {op : Operator} {r : R2} {dop : D → D → Option D} (i : Nat) (hop : OpR X (inplaceOp op) r) (hd : ∀ {H0 H : Hp} {x y z : D} {vx vy : V} {Q : VK}, Rep X.K H0 x vx → Rep X.K H0 y vy → dop x y = some z → (∀ v, (∀ H', Rep X.K H' z v) → Q v H) → r vx vy H Q)
    (he : PE X e (tP X.K W f)) (hN : X.N.Nodup) (hi : X.N[i]? = some x := by rfl) (hx : Loc X.env.scope x := by first | exact Or.inl rfl | exact Or.inr rfl) (hf : X.fn x = true ∨ X.env.scope.names.lookup x = some .local := by first | exact .inl rfl | exact .inr rfl | assumption) :
    PS X (.AugAssign (.Name x pos') op e pos) (tS X.K W (augS dop i f)) :=
  PS.imp (ps_aug (ti := fun x y H Q => r x y H Q) hN hi hx he (fun pins s σ H x y v u Q I r1 r2 h => hop pins s σ H x y v u Q I r1 r2 h) hf) fun Z σ H w => by
    obtain ⟨env, IO, Fr, ok, w⟩ := tS_run.mp w
    cases hs : env[i]? with
    | none => simp only [augS, hs] at w; exact w.elim
    | some s =>
      cases s with
      | shr x =>
        simp only [augS, hs] at w
        obtain ⟨vx, h1, h2⟩ := ok.shr i x hs
        refine ⟨vx, h1, env, IO, Fr, ok, ?_⟩
        cases hf : f env with
        | exc x e1 => rw [hf] at w; exact fun c a H' ok1 st ec => w c a σ H' ok1 st ec
        | bad => rw [hf] at w; exact w.elim
        | ok y e1 =>
          rw [hf] at w
          simp only [] at w
          intro vy H1 ok1 ry st1
          cases ho : dop x y with
          | none => rw [ho] at w; exact w.elim
          | some z =>
            rw [ho] at w
            simp only [] at w
            refine hd (st1.rep h2) ry ho fun v rv => ?_
            split at w
            · rename_i hso
              have ro : ResOk X.K (.shr z) v e1 IO Fr σ H1 := ⟨ok1, rv _⟩
              obtain ⟨g1, g2⟩ := ro.store hso
              exact w _ H1 g1 (st1.trans g2)
            · exact w.elim
      | _ => simp only [augS, hs] at w; exact w.elim
theorem c_iadd (i : Nat) (he : PE X e (tP X.K W f)) (hN : X.N.Nodup) (hi : X.N[i]? = some x := by rfl) (hx : Loc X.env.scope x := by first | exact Or.inl rfl | exact Or.inr rfl) (hf : X.fn x = true ∨ X.env.scope.names.lookup x = some .local := by first | exact .inl rfl | exact .inr rfl | assumption) :
    PS X (.AugAssign (.Name x pos') .Add e pos) (tS X.K W (augS addS i f)) :=
  c_aug i (OpR.or iop_add iop_add_str) (fun {H0 H x y z vx vy Q} rx ry h k => by
    unfold addS at h
    split at h
    · cases h; cases rx; cases ry
      exact .inl ⟨_, _, rfl, rfl, k _ fun _ => rfl⟩
    · split at h
      · rename_i hl
        cases h; cases rx; cases ry
        exact .inr ⟨_, _, rfl, rfl, hl, k _ fun _ => rfl⟩
      · cases h
    · cases h) he hN hi hx hf
theorem c_isub (i : Nat) (he : PE X e (tP X.K W f)) (hN : X.N.Nodup) (hi : X.N[i]? = some x := by rfl) (hx : Loc X.env.scope x := by first | exact Or.inl rfl | exact Or.inr rfl) (hf : X.fn x = true ∨ X.env.scope.names.lookup x = some .local := by first | exact .inl rfl | exact .inr rfl | assumption) :
    PS X (.AugAssign (.Name x pos') .Sub e pos) (tS X.K W (augS subI i f)) :=
  c_aug i iop_sub (fun {H0 H x y z vx vy Q} rx ry h k => by
    obtain ⟨a, b, rfl, rfl, rfl⟩ := subI_inv _ _ _ h
    cases rx; cases ry
    exact ⟨_, _, rfl, rfl, k _ fun _ => rfl⟩) he hN hi hx hf
end

/-! ### raise C('..') -/
def raiseS (c : Str) : S := fun env => .ex ⟨c, [], []⟩ env
section
variable {X : Cx} {W : WX} {c m : Str} {j : Nat} {p p2 cpos pos : Pos}
theorem c_raise (hc : X.calm = true) (tk : Takes X W) (q : PySem.W.excIn X.K (He.ga X.K c) [.type "ValueError", .type "Exception", .type "BaseException", .type "object"] "ValueError.__new__" = true) (gC : X.mg c = some (.ref (He.ga X.K c))) (kC : PySem.W.keepIn X.K (.ref (He.ga X.K c)) = true)
    (h1 : PySem.W.subIn X.K (.ref (He.ga X.K c)) (.type "BaseException") = some true) (h2 : PySem.W.typeIn X.K (.ref (He.ga X.K c)) = some (.type "type")) (hg : Gl X c := by rfl) (hdb : (c == ("__debug__" : Str)) = false := by decide) :
    PS X (.Raise (some (.Call (.Name c p) [.Constant (.str m) j p2] [] cpos)) none pos) (tS X.K W (raiseS c)) :=
  PS.imp (ps_raise hc tk (pmk_own PySem.F.excBase_ValueError q gC kC (raises_own h1 h2) hg hdb)) fun Z σ H w => by
    obtain ⟨env, IO, Fr, ok, w⟩ := w
    exact w _ none σ H ok (Stp.refl _ _ _) ⟨rfl, .inl ⟨rfl, rfl, rfl⟩⟩
end

/-! ### {}, d.get -/
def dnewE : E := fun env => .ok (.own (.dic [] [])) env
section
variable {X : Cx} {W : WX} {o e f : Expr} {a b c : PL.A} {apos cpos pos : Pos}
theorem c_dnew : PE X (.Dict [] [] pos) (tE X.K W dnewE) := PE.imp pe_dnewK fun σ H Q w => by
  obtain ⟨env, IO, Fr, ok, w⟩ := tE_run.mp w
  intro d hd
  obtain ⟨r, st⟩ := ok.new (d := .dic [] []) (o := .dK []) hd ⟨[], rfl, ⟨rfl, List.nodup_nil⟩, rfl⟩
  exact w _ _ r st
/-- d.get(k), d.get(k, x) -/
def isDic : Option D → Bool
  | some (.dic _ _) => true
  | _ => false
def dgetO : D → D → Option (Option D)
  | .dic ks ds, k => (keyD k).map fun j => lk ks ds j
  | _, _ => none
def get1P (a b : PL.A) : P := fun env => (a.ev env).bind fun oa e1 => if isDic (a.fin oa e1) then (b.ev e1).bind fun ob e2 => opt (match a.fin oa e2, b.fin ob e2 with
  | some x, some y => (dgetO x y).map fun r => r.getD .non
  | _, _ => none) e2 else .bad
def get2P (a b c : PL.A) : P := fun env => (a.ev env).bind fun oa e1 => if isDic (a.fin oa e1) then (b.ev e1).bind fun ob e2 => (c.ev e2).bind fun oc e3 => (match a.fin oa e3, b.fin ob e3, c.fin oc e3 with
  | some x, some y, some z => (match dgetO x y with
    | some (some d) => .ok d e3
    | some none => if flat z then .ok z e3 else .bad
    | none => .bad)
  | _, _, _ => .bad) else .bad
theorem BRep.flat {K : PySem.W.Frag} {env : List Sl} {Fr : List Addr} {σ : L2.St} {H : Hp} {d : D} {v : V} (h : BRep K env Fr σ H d v) (f : flat d = true) : ∀ H', Rep K H' d v := fun H' => flat_rep f h.rep
theorem c_get2 (hu : X.A.units + 1 < cLine) (ho : PE X o (tA X.K W a)) (he : PE X e (tA X.K W b)) (hf : PE X f (tA X.K W c)) (m : M2 X o "get" apos e f cpos := by exact ⟨rfl, rfl, rfl, rfl⟩) : PE X (.Call (.Attribute o "get" apos) [e, f] [] cpos) (tP X.K W (get2P a b c)) :=
  PE.imp (pe_dget2 hu ho he hf m) fun σ H Q w => by
    obtain ⟨env, IO, Fr, ok, w⟩ := tP_run.mp w
    unfold get2P at w
    refine tA_of ok (Run.mono (Stp.refl _ _ _) w.split fun oa e1 H1 ok1 s1 h1 vx ax => ?_)
    by_cases hd : isDic (a.fin oa e1) = true
    · rw [if_pos hd] at h1
      cases hx : a.fin oa e1 with
      | none => rw [hx] at hd; cases hd
      | some x =>
        rw [hx] at hd
        cases x with
        | dic ks ds =>
          obtain ⟨p, vs, rfl, g1, _⟩ := (ax.fin ok1 hx).dic
          refine ⟨p, rfl, .inl ⟨_, .inl g1⟩, ?_⟩
          refine tA_of ok1 (Run.mono (Stp.refl _ _ _) h1.split fun ob e2 H2 ok2 s2 h2 vy ay => ?_)
          refine tA_of ok2 (Run.mono (Stp.refl _ _ _) h2.split fun oc e3 H3 ok3 s3 h3 vz az => ?_)
          have ax3 := (ax.step s2).step s3
          have ay3 := ay.step s3
          cases hx3 : a.fin oa e3 with
          | none => rw [hx3] at h3; exact h3.elim
          | some x3 =>
            cases hy3 : b.fin ob e3 with
            | none => rw [hx3, hy3] at h3; exact h3.elim
            | some y3 =>
              cases hz3 : c.fin oc e3 with
              | none => rw [hx3, hy3, hz3] at h3; exact h3.elim
              | some z3 =>
                rw [hx3, hy3, hz3] at h3
                simp only [] at h3
                have bx := ax3.fin ok3 hx3
                have by_ := ay3.fin ok3 hy3
                have bz := az.fin ok3 hz3
                cases x3 with
                | dic ks ds =>
                  obtain ⟨p', vs', e', g1', g2', r'⟩ := bx.dic
                  cases e'
                  cases hk : keyD y3 with
                  | none => simp only [dgetO, hk, Option.map_none] at h3; exact h3.elim
                  | some j =>
                    simp only [dgetO, hk, Option.map_some] at h3
                    cases hl : lk ks ds j with
                    | some d =>
                      rw [hl] at h3
                      obtain ⟨v, k1, k2⟩ := lk_some g2'.1 r' hl
                      exact ⟨some v, .inl ⟨_, j, .inl g1', keyD_rep hk by_.rep, k1.symm⟩, h3 H3 ok3 (Stp.refl _ _ _) _ k2⟩
                    | none =>
                      rw [hl] at h3
                      simp only [] at h3
                      split at h3
                      · rename_i hfz
                        exact ⟨none, .inl ⟨_, j, .inl g1', keyD_rep hk by_.rep, (lk_none g2'.1 r' hl).symm⟩, h3 H3 ok3 (Stp.refl _ _ _) _ (bz.flat hfz _)⟩
                      · exact h3.elim
                | _ => exact h3.elim
        | _ => cases hd
    · rw [if_neg hd] at h1; exact h1.elim
end
end PL

/-! Pl13: list comprehensions. -/
namespace PL
open PySem L2

/-- the block's own slots forgotten -/
def wipeE (env : List Sl) : List Nat → List Sl
  | [] => env
  | v :: vs => (wipeE env vs).set v .no
/-- .. back as they stood -/
def backE (env env0 : List Sl) : List Nat → List Sl
  | [] => env
  | v :: vs => (backE env env0 vs).set v (env0.getD v .no)
/-- may be forgotten: nothing owned -/
def wipeOk (env : List Sl) (vs : List Nat) : Bool := vs.all fun v => match env[v]? with
  | some .no => true
  | some (.shr _) => true
  | _ => false
theorem wipeE_len (env : List Sl) : ∀ vs : List Nat, (wipeE env vs).length = env.length
  | [] => rfl
  | v :: vs => by simp [wipeE, wipeE_len env vs]
theorem wipeE_out {env : List Sl} {i : Nat} : ∀ {vs : List Nat}, i ∉ vs → (wipeE env vs)[i]? = env[i]?
  | [], _ => rfl
  | v :: vs, h => by
    simp only [List.mem_cons, not_or] at h
    rw [wipeE, List.getElem?_set_ne (Ne.symm h.1), wipeE_out h.2]
theorem wipeE_in {env : List Sl} {i : Nat} {s : Sl} : ∀ {vs : List Nat}, i ∈ vs → (wipeE env vs)[i]? = some s → s = .no
  | [], h, _ => by simp at h
  | v :: vs, h, g => by
    rw [wipeE] at g
    by_cases hv : i = v
    · subst hv
      obtain ⟨hl, _⟩ := List.getElem?_eq_some_iff.mp g
      rw [List.length_set] at hl
      rw [List.getElem?_set_self hl] at g
      exact (Option.some.inj g).symm
    · rw [List.getElem?_set_ne (Ne.symm hv)] at g
      exact wipeE_in ((List.mem_cons.mp h).resolve_left hv) g
theorem backE_len (env env0 : List Sl) : ∀ vs : List Nat, (backE env env0 vs).length = env.length
  | [] => rfl
  | v :: vs => by simp [backE, backE_len env env0 vs]
theorem backE_out {env env0 : List Sl} {i : Nat} : ∀ {vs : List Nat}, i ∉ vs → (backE env env0 vs)[i]? = env[i]?
  | [], _ => rfl
  | v :: vs, h => by
    simp only [List.mem_cons, not_or] at h
    rw [backE, List.getElem?_set_ne (Ne.symm h.1), backE_out h.2]
theorem backE_in {env env0 : List Sl} {i : Nat} {s : Sl} : ∀ {vs : List Nat}, i ∈ vs → (backE env env0 vs)[i]? = some s → s = env0.getD i .no
  | [], h, _ => by simp at h
  | v :: vs, h, g => by
    rw [backE] at g
    by_cases hv : i = v
    · subst hv
      obtain ⟨hl, _⟩ := List.getElem?_eq_some_iff.mp g
      rw [List.length_set] at hl
      rw [List.getElem?_set_self hl] at g
      exact (Option.some.inj g).symm
    · rw [List.getElem?_set_ne (Ne.symm hv)] at g
      exact backE_in ((List.mem_cons.mp h).resolve_left hv) g
theorem wipeOk_at {env : List Sl} {vs : List Nat} (h : wipeOk env vs = true) {i : Nat} (hi : i ∈ vs) {d : D} : ¬ OwnAt env i d := fun ho => by
  have := List.all_eq_true.mp h i hi
  rcases ho with z | z <;> simp [z] at this
theorem wipe_get {σ : L2.St} {i : Nat} : ∀ {vs : List Nat}, i ∉ vs → (wipe σ vs)[i]? = σ[i]?
  | [], _ => rfl
  | v :: vs, h => by
    simp only [List.mem_cons, not_or] at h
    show ((wipe σ vs).set v none)[i]? = _
    rw [List.getElem?_set_ne (Ne.symm h.1), wipe_get h.2]
theorem wipe_in {σ : L2.St} {i : Nat} : ∀ {vs : List Nat}, i ∈ vs → i < σ.length → (wipe σ vs)[i]? = some none
  | [], h, _ => by simp at h
  | v :: vs, h, hl => by
    show ((wipe σ vs).set v none)[i]? = _
    by_cases hv : i = v
    · subst hv
      rw [List.getElem?_set_self (by rw [wipe_length]; exact hl)]
    · rw [List.getElem?_set_ne (Ne.symm hv)]
      exact wipe_in ((List.mem_cons.mp h).resolve_left hv) hl
theorem wipe_ext {σ σ' : L2.St} {vs : List Nat} (hl : σ'.length = σ.length) (h : ∀ i, i ∉ vs → σ'[i]? = σ[i]?) : wipe σ' vs = wipe σ vs := by
  apply List.ext_getElem?
  intro i
  by_cases hi : i ∈ vs
  · by_cases hlt : i < σ.length
    · rw [wipe_in hi hlt, wipe_in hi (by omega)]
    · rw [List.getElem?_eq_none_iff.mpr (by rw [wipe_length]; omega), List.getElem?_eq_none_iff.mpr (by rw [wipe_length]; omega)]
  · rw [wipe_get hi, wipe_get hi, h i hi]
theorem wipe_wipe {σ : L2.St} {vs : List Nat} : wipe (wipe σ vs) vs = wipe σ vs := wipe_ext (wipe_length _ _) fun i hi => wipe_get hi
section
variable {K : PySem.W.Frag} {env env0 : List Sl} {IO : List (Option Addr)} {Fr : List Addr} {σ σ0 : L2.St} {H H' : Hp} {vs : List Nat}
/-- a part of the slots forgotten, σ' as it stands outside them -/
theorem EnvOk.wipe (e : EnvOk K env IO Fr σ H) (h : wipeOk env vs = true) {σ' : L2.St} (hl : σ'.length = σ.length) (hs : ∀ i, i ∉ vs → σ'[i]? = σ[i]?) :
    EnvOk K (wipeE env vs) IO Fr σ' H ∧ ∀ b, Hd (wipeE env vs) σ' Fr b ↔ Hd env σ Fr b := by
  have ow : ∀ i d, OwnAt (wipeE env vs) i d ↔ OwnAt env i d := fun i d => by
    by_cases hi : i ∈ vs
    · constructor
      · rintro (z | z) <;> cases wipeE_in hi z
      · intro z; exact absurd z (wipeOk_at h hi)
    · unfold OwnAt; rw [wipeE_out hi]
  have ni : ∀ i d, OwnAt env i d → i ∉ vs := fun i d ho hi => wipeOk_at h hi ho
  have hd : ∀ b, Hd (wipeE env vs) σ' Fr b ↔ Hd env σ Fr b := fun b => by
    constructor
    · rintro (z | ⟨i, d, z1, z2⟩)
      · exact .inl z
      · have z1' := (ow i d).mp z1
        rw [hs i (ni i d z1')] at z2
        exact .inr ⟨i, d, z1', z2⟩
    · rintro (z | ⟨i, d, z1, z2⟩)
      · exact .inl z
      · exact .inr ⟨i, d, (ow i d).mpr z1, by rw [hs i (ni i d z1)]; exact z2⟩
  have he : hid H (Hd (wipeE env vs) σ' Fr) = hid H (Hd env σ Fr) := by congr 1; funext b; exact propext (hd b)
  refine ⟨⟨by rw [wipeE_len, hl]; exact e.len, e.fr, fun i d z => ?_, fun i j d d' p z1 z2 z3 z4 => ?_, fun i d z => ?_, fun i p z => ?_, fun i d z => ?_⟩, hd⟩
  · have z' := (ow i d).mp z
    obtain ⟨p, o, h1, h2, h3, h4⟩ := e.own i d z'
    exact ⟨p, o, by rw [hs i (ni i d z')]; exact h1, h2, h3, by rw [he]; exact h4⟩
  · have z1' := (ow i d).mp z1
    have z2' := (ow j d').mp z2
    rw [hs i (ni i d z1')] at z3
    rw [hs j (ni j d' z2')] at z4
    exact e.inj i j d d' p z1' z2' z3 z4
  · by_cases hi : i ∈ vs
    · cases wipeE_in hi z
    · rw [wipeE_out hi] at z
      obtain ⟨v, h1, h2⟩ := e.shr i d z
      exact ⟨v, by rw [hs i hi]; exact h1, by rw [he]; exact h2⟩
  · obtain ⟨⟨d, h1⟩, h2⟩ := e.io i p z
    have hi := ni i d (.inr h1)
    exact ⟨⟨d, by rw [wipeE_out hi]; exact h1⟩, by rw [hs i hi]; exact h2⟩
  · have z' := (ow i d).mp (.inr z)
    rcases z' with z' | z'
    · have hi := ni i d (.inl z')
      rw [wipeE_out hi, z'] at z; cases z
    · exact e.oi i d z'
/-- .. and back: env is a state of the block, env0 the state ahead of it -/
theorem EnvOk.unwipe (e : EnvOk K env IO Fr (L2.wipe σ vs) H') (hn : ∀ i ∈ vs, ∀ s, env[i]? = some s → s = .no) (e0 : EnvOk K env0 IO Fr0 σ H) (h0 : wipeOk env0 vs = true)
    (st : ∀ b o, ¬ Hd env0 σ Fr0 b → H b = some o → ¬ Hd env (L2.wipe σ vs) Fr b ∧ H' b = some o) :
    EnvOk K (backE env env0 vs) IO Fr σ H' ∧ ∀ b, Hd (backE env env0 vs) σ Fr b ↔ Hd env (L2.wipe σ vs) Fr b := by
  have back0 : ∀ i ∈ vs, ∀ d, ¬ OwnAt (backE env env0 vs) i d := fun i hi d z => by
    have key : ∀ s, (backE env env0 vs)[i]? = some s → (∀ d, s ≠ .own d) ∧ ∀ d, s ≠ .io d := fun s hs => by
      have := backE_in hi hs
      subst this
      have := List.all_eq_true.mp h0 i hi
      rw [List.getD_eq_getElem?_getD]
      cases hq : env0[i]? with
      | none => simp
      | some s => rw [hq] at this; cases s <;> simp at this ⊢
    rcases z with z | z
    · exact (key _ z).1 d rfl
    · exact (key _ z).2 d rfl
  have ow : ∀ i d, OwnAt (backE env env0 vs) i d ↔ OwnAt env i d := fun i d => by
    by_cases hi : i ∈ vs
    · constructor
      · intro z; exact absurd z (back0 i hi d)
      · rintro (z | z) <;> cases hn i hi _ z
    · unfold OwnAt; rw [backE_out hi]
  have ni : ∀ i d, OwnAt env i d → i ∉ vs := fun i d ho hi => by rcases ho with z | z <;> cases hn i hi _ z
  have hd : ∀ b, Hd (backE env env0 vs) σ Fr b ↔ Hd env (L2.wipe σ vs) Fr b := fun b => by
    constructor
    · rintro (z | ⟨i, d, z1, z2⟩)
      · exact .inl z
      · have z1' := (ow i d).mp z1
        exact .inr ⟨i, d, z1', by rw [wipe_get (ni i d z1')]; exact z2⟩
    · rintro (z | ⟨i, d, z1, z2⟩)
      · exact .inl z
      · rw [wipe_get (ni i d z1)] at z2
        exact .inr ⟨i, d, (ow i d).mpr z1, z2⟩
  have he : hid H' (Hd (backE env env0 vs) σ Fr) = hid H' (Hd env (L2.wipe σ vs) Fr) := by congr 1; funext b; exact propext (hd b)
  refine ⟨⟨by rw [backE_len, e.len, wipe_length], e.fr, fun i d z => ?_, fun i j d d' p z1 z2 z3 z4 => ?_, fun i d z => ?_, fun i p z => ?_, fun i d z => ?_⟩, hd⟩
  · have z' := (ow i d).mp z
    obtain ⟨p, o, h1, h2, h3, h4⟩ := e.own i d z'
    exact ⟨p, o, by rw [wipe_get (ni i d z')] at h1; exact h1, h2, h3, by rw [he]; exact h4⟩
  · have z1' := (ow i d).mp z1
    have z2' := (ow j d').mp z2
    refine e.inj i j d d' p z1' z2' ?_ ?_
    · rw [wipe_get (ni i d z1')]; exact z3
    · rw [wipe_get (ni j d' z2')]; exact z4
  · by_cases hi : i ∈ vs
    · have q := backE_in hi z
      rw [List.getD_eq_getElem?_getD] at q
      cases hq : env0[i]? with
      | none => rw [hq] at q; cases q
      | some s =>
        rw [hq] at q
        cases q
        obtain ⟨v, h1, h2⟩ := e0.shr i d hq
        exact ⟨v, h1, by rw [he]; exact Rep.mono (same_hid.mpr st) h2⟩
    · rw [backE_out hi] at z
      obtain ⟨v, h1, h2⟩ := e.shr i d z
      exact ⟨v, by rw [wipe_get hi] at h1; exact h1, by rw [he]; exact h2⟩
  · obtain ⟨⟨d, h1⟩, h2⟩ := e.io i p z
    have hi := ni i d (.inr h1)
    exact ⟨⟨d, by rw [backE_out hi]; exact h1⟩, by rw [wipe_get hi] at h2; exact h2⟩
  · have z' := (ow i d).mp (.inr z)
    rcases z' with z' | z'
    · have hi := ni i d (.inl z')
      rw [backE_out hi, z'] at z; cases z
    · exact e.oi i d z'
/-- a frame's address more: what stands there is hidden -/
theorem EnvOk.fr1 (e : EnvOk K env IO Fr σ H) {p : Addr} {o : HO} (hp : H p = none) : EnvOk K env IO (p :: Fr) σ (upd H p o) ∧ (∀ b u, ¬ Hd env σ Fr b → H b = some u → ¬ Hd env σ (p :: Fr) b ∧ upd H p o b = some u) := by
  have sm : Same H (upd H p o) := same_upd hp
  have hs : ∀ b u, ¬ Hd env σ Fr b → H b = some u → ¬ Hd env σ (p :: Fr) b ∧ upd H p o b = some u := fun b u z1 z2 => by
    have nb : b ≠ p := ne_of_none z2 hp
    refine ⟨fun z => ?_, sm b u z2⟩
    rcases z with z | z
    · rcases List.mem_cons.mp z with z | z
      · exact nb z
      · exact z1 (.inl z)
    · exact z1 (.inr z)
  have m := same_hid.mpr hs
  refine ⟨⟨e.len, fun b hb => ?_, fun i d z => ?_, e.inj, fun i d z => ?_, e.io, e.oi⟩, hs⟩
  · rcases List.mem_cons.mp hb with rfl | hb
    · rw [upd_same]; simp
    · rw [upd_ne (fun z : b = p => e.fr b hb (z ▸ hp))]; exact e.fr b hb
  · obtain ⟨q, u, h1, h2, h3, h4⟩ := e.own i d z
    have nq : q ≠ p := ne_of_none h3 hp
    exact ⟨q, u, h1, fun z => (List.mem_cons.mp z).elim nq h2, sm _ _ h3, RepO.mono m h4⟩
  · obtain ⟨v, h1, h2⟩ := e.shr i d z
    exact ⟨v, h1, Rep.mono m h2⟩
/-- .. what stands there is changed -/
theorem EnvOk.frSet (e : EnvOk K env IO Fr σ H) {p : Addr} {o : HO} (hp : p ∈ Fr) : EnvOk K env IO Fr σ (upd H p o) ∧ ∀ b u, ¬ Hd env σ Fr b → (H b = some u ↔ upd H p o b = some u) := by
  have hs : ∀ b u, ¬ Hd env σ Fr b → (H b = some u ↔ upd H p o b = some u) := fun b u z1 => by
    have nb : b ≠ p := fun z => z1 (.inl (z ▸ hp))
    rw [upd_ne nb]
  have m : Same (hid H (Hd env σ Fr)) (hid (upd H p o) (Hd env σ Fr)) := same_hid.mpr fun b u z1 z2 => ⟨z1, (hs b u z1).mp z2⟩
  refine ⟨⟨e.len, fun b hb => ?_, fun i d z => ?_, e.inj, fun i d z => ?_, e.io, e.oi⟩, hs⟩
  · by_cases hb2 : b = p
    · rw [hb2, upd_same]; simp
    · rw [upd_ne hb2]; exact e.fr b hb
  · obtain ⟨q, u, h1, h2, h3, h4⟩ := e.own i d z
    have nq : q ≠ p := fun z => h2 (z ▸ hp)
    exact ⟨q, u, h1, h2, by rw [upd_ne nq]; exact h3, RepO.mono m h4⟩
  · obtain ⟨v, h1, h2⟩ := e.shr i d z
    exact ⟨v, h1, Rep.mono m h2⟩
end
/-- [elt for tg in .. if test]: the turns -/
def lcL (tg : Tg) (vs : List Nat) (test : T) (elt : P) : List D → Nat → List Sl → Res (List D)
  | [], _, env => .ok [] env
  | d :: ds, n, env => match tgS tg d env with
    | none => .bad
    | some e => match test e with
      | .ok true e2 => (match elt e2 with
        | .ok y e3 => if wipeOk e3 vs ∧ n < 16777216 then (lcL tg vs test elt ds (n + 1) (wipeE e3 vs)).bind fun ys e => .ok (y :: ys) e else .bad
        | _ => .bad)
      | .ok false e2 => if wipeOk e2 vs then lcL tg vs test elt ds n (wipeE e2 vs) else .bad
      | _ => .bad
def lcE (it : I) (tg : Tg) (vs : List Nat) (test : T) (elt : P) : E := fun env => match it env with
  | .ok ds e1 => if wipeOk e1 vs ∧ (tgV tg).all (fun i => vs.contains i) then (match lcL tg vs test elt ds 0 (wipeE e1 vs) with
    | .ok ys e2 => .ok (.own (.lst ys)) (backE e2 e1 vs)
    | _ => .bad) else .bad
  | .exc x e => .exc x e
  | .bad => .bad
def yesT : T := fun env => .ok true env
section
variable {K : PySem.W.Frag} {W : WX} {it : I} {tg : Tg} {vs : List Nat} {test : T} {elt : P} {σ : L2.St} {H : Hp} {Q : VK}
theorem lcL_no : ∀ {ds : List D} {n : Nat} {env e2 : List Sl} {ys : List D}, (∀ i ∈ vs, ∀ s, env[i]? = some s → s = .no) → lcL tg vs test elt ds n env = .ok ys e2 → ∀ i ∈ vs, ∀ s, e2[i]? = some s → s = .no
  | [], n, env, e2, ys, h, g => by cases g; exact h
  | d :: ds, n, env, e2, ys, h, g => by
    unfold lcL at g
    split at g
    · cases g
    · split at g
      · split at g
        · split at g
          · rename_i e3 _ _
            cases hr : lcL tg vs test elt ds (n + 1) (wipeE e3 vs) with
            | ok ys' e' =>
              rw [hr] at g
              cases g
              exact lcL_no (fun i hi s hs => wipeE_in hi hs) hr
            | exc _ _ => rw [hr] at g; cases g
            | bad => rw [hr] at g; cases g
          · cases g
        · cases g
      · split at g
        · exact lcL_no (fun i hi s hs => wipeE_in hi hs) g
        · cases g
      · cases g
theorem lc_rd (w : tE K W (lcE it tg vs test elt) σ H Q) : tLc (tI K W it) (tG K tg) (tT K (fun _ _ _ _ => False) test) (tP K (fun _ _ _ _ => False) elt) vs σ H Q := by
  obtain ⟨env, IO, Fr, ok, w⟩ := tE_run.mp w
  refine ⟨env, IO, Fr, ok, ?_⟩
  unfold lcE at w
  cases hi : it env with
  | exc x e1 => rw [hi] at w; exact fun c a H' ok1 st ec => w c a H' ok1 st ec
  | bad => rw [hi] at w; exact w.elim
  | ok ds e1 =>
    rw [hi] at w
    simp only [] at w
    intro H1 ok1 st1 J itr D hD
    by_cases hw : wipeOk e1 vs = true ∧ ((tgV tg).all fun i => vs.contains i) = true
    · rw [if_pos hw] at w
      obtain ⟨hw, htv⟩ := hw
      -- the target's slots are the block's
      have htv' : ∀ i, i ∉ vs → i ∉ tgV tg := fun i h1 h2 => h1 (by simpa using List.all_eq_true.mp htv i h2)
      obtain ⟨okw, hdw⟩ := ok1.wipe hw (σ' := L2.wipe σ vs) (wipe_length _ _) (fun i hi => wipe_get hi)
      have hDn : ¬ Hd (wipeE e1 vs) (L2.wipe σ vs) Fr D := okw.fresh hD
      obtain ⟨okD, stD⟩ := okw.fr1 (o := .lst []) hD
      cases hl : lcL tg vs test elt ds 0 (wipeE e1 vs) with
      | exc x e2 => rw [hl] at w; exact w.elim
      | bad => rw [hl] at w; exact w.elim
      | ok ys0 e0 =>
      rw [hl] at w
      have he0 := lcL_no (fun i hi s hs => wipeE_in hi hs) hl
      refine ⟨fun i m H' => m = ds.length - i ∧ i ≤ ds.length ∧ ∃ env' acc dn ys, EnvOk K env' IO (D :: Fr) (L2.wipe σ vs) H' ∧ H' D = some (.lst acc) ∧ RepL K (hid H' (Hd env' (L2.wipe σ vs) (D :: Fr))) dn acc ∧
        (∀ b u, ¬ Hd e1 σ Fr b → H1 b = some u → ¬ Hd env' (L2.wipe σ vs) (D :: Fr) b ∧ H' b = some u) ∧ (∀ b ∈ Fr, H' b = H1 b) ∧ lcL tg vs test elt (ds.drop i) dn.length env' = .ok ys e0 ∧ dn ++ ys = ys0,
        ⟨ds.length, rfl, Nat.zero_le _, wipeE e1 vs, [], [], ys0, okD, upd_same, rfl, fun b u z1 z2 => stD b u (fun z => z1 ((hdw b).mp z)) z2, fun b hb => upd_ne (fun z : b = D => hDn (.inl (z ▸ hb))), hl, rfl⟩, ?_⟩
      rintro i m H' ⟨rfl, hile, env', acc, dn, ys, ok', hDa, rdn, st', fr', run, hys⟩
      obtain ⟨it1, it2⟩ := itr _ H' st' ok'.hdThere
      by_cases hlt : i < ds.length
      · have hd : ds.drop i = ds[i] :: ds.drop (i + 1) := List.drop_eq_getElem_cons hlt
        obtain ⟨go, yl⟩ := it1 i ds[i] (List.getElem?_eq_getElem hlt)
        refine .inr ⟨go, _, fun H2 p => ⟨ds.length - (i + 1), by omega, p⟩, fun x H2 y => ?_⟩
        obtain ⟨sm, r⟩ := yl x H2 y
        have ok2 := ok'.grow sm
        have st2 := ok'.stp sm
        rw [hd] at run
        unfold lcL at run
        cases ht : tgS tg ds[i] env' with
        | none => rw [ht] at run; cases run
        | some e2 =>
          rw [ht] at run
          simp only [] at run
          refine ⟨env', IO, D :: Fr, ds[i], ok2, r, e2, ht, fun σ3 ok3 st3 of3 => ?_⟩
          have hoff : ∀ i, i ∉ vs → σ3[i]? = (L2.wipe σ vs)[i]? := fun i hi => of3.2 i (htv' i hi)
          have hwp : L2.wipe σ3 vs = L2.wipe σ vs := by rw [wipe_ext of3.1 hoff, wipe_wipe]
          refine ⟨hwp, tT_run.mpr ⟨e2, IO, D :: Fr, ok3, ?_⟩⟩
          -- what is carried: D's list, the frame, what stood
          have carry : ∀ {e3 : List Sl} {H3 : Hp}, Stp (D :: Fr) (Hd e2 σ3 (D :: Fr)) H2 (Hd e3 σ3 (D :: Fr)) H3 → H3 D = some (.lst acc) ∧ RepL K (hid H3 (Hd e3 σ3 (D :: Fr))) dn acc ∧
              (∀ b u, ¬ Hd e1 σ Fr b → H1 b = some u → ¬ Hd e3 σ3 (D :: Fr) b ∧ H3 b = some u) ∧ (∀ b ∈ Fr, H3 b = H1 b) := fun s3 => by
            refine ⟨?_, ?_, fun b u z1 z2 => ?_, fun b hb => ?_⟩
            · rw [s3.fr D List.mem_cons_self, st2.fr D List.mem_cons_self]; exact hDa
            · exact RepL.mono (same_hid.mpr s3.same) (RepL.mono (same_hid.mpr st3.same) (RepL.mono (same_hid.mpr st2.same) rdn))
            · obtain ⟨y1, y2⟩ := st' b u z1 z2
              obtain ⟨y3, y4⟩ := st2.same b u y1 y2
              obtain ⟨y5, y6⟩ := st3.same b u y3 y4
              exact s3.same b u y5 y6
            · rw [s3.fr b (List.mem_cons_of_mem _ hb), st2.fr b (List.mem_cons_of_mem _ hb)]; exact fr' b hb
          -- a turn's end
          have fin : ∀ {e3 : List Sl} {H3 : Hp} {dn' : List PL.D} {acc' : List V} {ys' : List PL.D}, EnvOk K e3 IO (D :: Fr) σ3 H3 → wipeOk e3 vs = true → H3 D = some (.lst acc') → RepL K (hid H3 (Hd e3 σ3 (D :: Fr))) dn' acc' →
              (∀ b u, ¬ Hd e1 σ Fr b → H1 b = some u → ¬ Hd e3 σ3 (D :: Fr) b ∧ H3 b = some u) → (∀ b ∈ Fr, H3 b = H1 b) → lcL tg vs test elt (ds.drop (i + 1)) dn'.length (wipeE e3 vs) = .ok ys' e0 → dn' ++ ys' = ys0 →
              (ds.length - (i + 1) = ds.length - (i + 1) ∧ i + 1 ≤ ds.length ∧ ∃ env' acc dn ys, EnvOk K env' IO (D :: Fr) (L2.wipe σ vs) H3 ∧ H3 D = some (.lst acc) ∧ RepL K (hid H3 (Hd env' (L2.wipe σ vs) (D :: Fr))) dn acc ∧
                (∀ b u, ¬ Hd e1 σ Fr b → H1 b = some u → ¬ Hd env' (L2.wipe σ vs) (D :: Fr) b ∧ H3 b = some u) ∧ (∀ b ∈ Fr, H3 b = H1 b) ∧ lcL tg vs test elt (ds.drop (i + 1)) dn.length env' = .ok ys e0 ∧ dn ++ ys = ys0) := fun {e3 H3 dn' acc' ys'} ok3' hw3 hD3 rd3 st4 fr4 run3 hys3 => by
            obtain ⟨ok4, hd4⟩ := ok3'.wipe hw3 (σ' := L2.wipe σ vs) (by rw [wipe_length, of3.1, wipe_length]) (fun i hi => (hoff i hi).symm)
            have he4 : hid H3 (Hd (wipeE e3 vs) (L2.wipe σ vs) (D :: Fr)) = hid H3 (Hd e3 σ3 (D :: Fr)) := by congr 1; funext b; exact propext (hd4 b)
            exact ⟨rfl, hlt, wipeE e3 vs, acc', dn', ys', ok4, hD3, by rw [he4]; exact rd3, fun b u z1 z2 => let ⟨y1, y2⟩ := st4 b u z1 z2; ⟨fun z => y1 ((hd4 b).mp z), y2⟩, fr4, run3, hys3⟩
          cases htest : test e2 with
          | exc x e3 => rw [htest] at run; cases run
          | bad => rw [htest] at run; cases run
          | ok k e3 =>
            rw [htest] at run
            intro H3 ok3' s3
            obtain ⟨c1, c2, c3, c4⟩ := carry s3
            cases k with
            | false =>
              simp only [] at run
              split at run
              · rename_i hw3
                rw [if_neg Bool.false_ne_true]
                exact fin ok3' hw3 c1 c2 c3 c4 run hys
              · cases run
            | true =>
              simp only [] at run
              rw [if_pos rfl]
              refine ⟨e3, IO, D :: Fr, ok3', ?_⟩
              cases hel : elt e3 with
              | exc x e4 => rw [hel] at run; cases run
              | bad => rw [hel] at run; cases run
              | ok yd e4 =>
                rw [hel] at run
                simp only [] at run
                intro yv H4 ok4 ry s4
                split at run
                · rename_i hw4
                  obtain ⟨hw4, hn4⟩ := hw4
                  obtain ⟨d1, d2, d3, d4⟩ := carry (s3.trans s4)
                  refine ⟨acc, d1, by rw [← rdn.len]; exact hn4, ?_⟩
                  obtain ⟨ok5, same5⟩ := ok4.frSet (p := D) (o := .lst (acc ++ [yv])) List.mem_cons_self
                  have m5 : Same (hid H4 (Hd e4 σ3 (D :: Fr))) (hid (upd H4 D (.lst (acc ++ [yv]))) (Hd e4 σ3 (D :: Fr))) := same_hid.mpr fun b u z1 z2 => ⟨z1, (same5 b u z1).mp z2⟩
                  cases hr : lcL tg vs test elt (ds.drop (i + 1)) (dn.length + 1) (wipeE e4 vs) with
                  | exc _ _ => rw [hr] at run; cases run
                  | bad => rw [hr] at run; cases run
                  | ok ys' e' =>
                    rw [hr] at run
                    cases run
                    refine fin (dn' := dn ++ [yd]) ok5 hw4 upd_same (RepL.snoc (es := [yd]) (ws := [yv]) (RepL.mono m5 d2) ⟨yv, [], rfl, Rep.mono m5 ry, rfl⟩) (fun b u z1 z2 => ?_) (fun b hb => ?_) (by rw [List.length_append]; exact hr) (by simpa using hys)
                    · obtain ⟨y1, y2⟩ := d3 b u z1 z2
                      exact ⟨y1, (same5 b u y1).mp y2⟩
                    · rw [upd_ne (fun z : b = D => hDn (.inl (z ▸ hb)))]; exact d4 b hb
                · cases run
      · have e : i = ds.length := by omega
        subst e
        refine .inl ⟨it2, ?_⟩
        rw [List.drop_length] at run
        have run' : (Res.ok [] env' : Res (List PL.D)) = .ok ys e0 := run
        have hy0 : ys = [] := by cases run'; rfl
        have he00 : e0 = env' := by cases run'; rfl
        subst hy0
        subst he00
        rw [List.append_nil] at hys
        subst hys
        obtain ⟨okb, hdb⟩ := ok'.unwipe he0 ok1 hw st'
        have heb : hid H' (Hd (backE e0 e1 vs) σ (D :: Fr)) = hid H' (Hd e0 (L2.wipe σ vs) (D :: Fr)) := by congr 1; funext b; exact propext (hdb b)
        refine w _ H' ⟨D, _, rfl, fun z => hDn (.inl z), okb, hDa, acc, rfl, by rw [heb]; exact rdn⟩ ⟨fun b u z1 z2 => ?_, fun b hb => ?_⟩
        · obtain ⟨y1, y2⟩ := st1.same b u z1 z2
          obtain ⟨y3, y4⟩ := st' b u y1 y2
          exact ⟨fun z => y3 ((hdb b).mp z), y4⟩
        · rw [fr' b hb, st1.fr b hb]
    · rw [if_neg hw] at w; exact w.elim
end
section
variable {X : Cx} {W : WX} {elt target iter : Expr} {ifs : List Expr} {scope : Scope} {pos spos py : Pos} {it : I} {tg : Tg} {test : T} {el : P}
theorem c_tyes : PTs X [] (tT X.K W yesT) := ⟨fun pins s σ H Q I w => pts_nil.run pins s σ H Q I (by
  obtain ⟨env, IO, Fr, e, w⟩ := w
  exact w H e (Stp.refl _ _ _))⟩
theorem c_tone {c : Expr} {t : T} (h : PT X c (tT X.K W t)) : PTs X [c] (tT X.K W t) := pts_one h
/-- a comprehension as a value -/
theorem c_lc (own : List (Str × Nat)) (hc : X.calm = true) (hN : X.N.Nodup) (hi : PI X target iter (tI X.K W it)) (ok : BlkOk X.N X.env.scope scope own)
    (hg : ∀ (s : Shared) (H : Hp) (C : Addr) (cl : List (Str × Addr)) (fp : List Addr), PG (X.blk s H scope (compEnvC scope cl C X.env) fp) target (tG X.K tg))
    (ht : ∀ (s : Shared) (H : Hp) (C : Addr) (cl : List (Str × Addr)) (fp : List Addr), PTs (X.blk s H scope (compEnvC scope cl C X.env) fp) ifs (tT X.K (fun _ _ _ _ => False) test))
    (he : ∀ (s : Shared) (H : Hp) (C : Addr) (cl : List (Str × Addr)) (fp : List Addr), PE (X.blk s H scope (compEnvC scope cl C X.env) fp) elt (tP X.K (fun _ _ _ _ => False) el)) (hs : ∀ x, foldedSetIterable iter X.env x = pure x := by intro _; rfl) :
    PE X (.ListComp elt [⟨target, iter, ifs, 0⟩] scope pos) (tE X.K W (lcE it tg (own.map (·.2)) test el)) :=
  PE.imp (pe_lc hc hN hi ok hg ht he hs) fun σ H Q w => lc_rd w
/-- name = [..] -/
theorem c_setLc {i : Nat} {y : Str} (own : List (Str × Nat)) (hc : X.calm = true) (hN : X.N.Nodup) (hy : X.N[i]? = some y) (hyl : X.env.scope.names.lookup y = some .local)
    (hsw : swapsWith (.ListComp elt [⟨target, iter, ifs, 0⟩] scope pos) (some (.Name y py)) spos.line X.env = pure true) (hi : PI X target iter (tI X.K W it)) (ok : BlkOk X.N X.env.scope scope own)
    (hg : ∀ (s : Shared) (H : Hp) (C : Addr) (cl : List (Str × Addr)) (fp : List Addr), PG (X.blk s H scope (compEnvC scope cl C X.env) fp) target (tG X.K tg))
    (ht : ∀ (s : Shared) (H : Hp) (C : Addr) (cl : List (Str × Addr)) (fp : List Addr), PTs (X.blk s H scope (compEnvC scope cl C X.env) fp) ifs (tT X.K (fun _ _ _ _ => False) test))
    (he : ∀ (s : Shared) (H : Hp) (C : Addr) (cl : List (Str × Addr)) (fp : List Addr), PE (X.blk s H scope (compEnvC scope cl C X.env) fp) elt (tP X.K (fun _ _ _ _ => False) el)) (hs : ∀ x, foldedSetIterable iter X.env x = pure x := by intro _; rfl) :
    PS X (.Assign [.Name y py] (.ListComp elt [⟨target, iter, ifs, 0⟩] scope pos) spos) (tS X.K W (setE i (lcE it tg (own.map (·.2)) test el))) :=
  PS.imp (ps_setLc hc hN hy hyl hsw hi ok hg ht he hs) fun Z σ H w => by
    obtain ⟨env, IO, Fr, ok, w⟩ := tS_run.mp w
    have w' : tE X.K W (lcE it tg (own.map (·.2)) test el) σ H fun x H1 => gName i x σ H1 Z.nx := by
      refine tE_st (g := fun r => match r with
        | .ok s e => if setOk e i then .nx (e.set i s) else .bad
        | .exc x e => .ex x e
        | .bad => .bad) ok w (fun _ _ => rfl) rfl fun s e1 hfe v H' r st => ?_
      have w : RunS X.K W IO Fr (Hd env σ Fr) H (setE i (lcE it tg (own.map (·.2)) test el) env) Z := w
      unfold setE at w
      rw [hfe] at w
      simp only [] at w
      split at w
      · rename_i hso
        obtain ⟨g1, g2⟩ := r.store hso
        exact w _ H' g1 ⟨fun b o z1 z2 => let ⟨y1, y2⟩ := st.same b o z1 z2; g2.same b o y1 y2, fun b hb => (g2.fr b hb).trans (st.fr b hb)⟩
      · exact w.elim
    exact lc_rd w'
end
end PL

/-! Pl14: what a head tells (facts, defs at any address), a def as a whole (Ok), isinstance, list(..), tuple(..). -/
namespace PL
open PySem L2

/-! ### facts -/
/-- the getter of a property -/
def pga (K : PySem.W.Frag) (C : Addr) (m : Str) : Addr := match PySem.W.recIn K (He.ma K C m) "property" with
  | some (.ref g :: _) => g
  | _ => 0
/-- the def behind a staticmethod, a classmethod -/
def sga (K : PySem.W.Frag) (c m : Str) : Addr := He5.wf K (He.ga K c) "staticmethod" m
def cga (K : PySem.W.Frag) (c m : Str) : Addr := He5.wf K (He.ga K c) "classmethod" m
inductive Fb where
  | fa (f : He.Fa)
  | ist (c : Str)
  | kit (c d : Str) (b : Bool)
  | prp (c m : Str)
  | red (c : Str)
  | sta (c m : Str)
  | clm (c m : Str)
  | tup (x : Str) (vs : List He.Dv)
  | lst (x : Str) (vs : List He.Dv)
  | kityp (c : Str) (t : String) (b : Bool)
  | cval (c f : Str) (i : Int)
  | exi (c : Str)
  | slf (c : Str)
def Fb.ok (K : PySem.W.Frag) : Fb → Bool
  | .fa f => f.ok K
  | .ist c => decide (PySem.W.findIn K (.ref (He.ga K c)) "__class__" = some (some (.builtin "object.__class__"))) &&
      (decide (PySem.W.specialIn K (.builtin "object.__class__") "__get__" = some (some (.builtin "getset_descriptor.__get__"))) &&
      (decide (PySem.W.takesIn K (.builtin "object.__class__") = some true) && decide (PySem.W.mroIn K (He.ga K c) (.type "object") = some true)))
  | .kit c d b => decide (PySem.W.kitOne K (.ref (He.ga K c)) (.ref (He.ga K d)) = some b)
  | .prp c m => decide (PySem.W.findIn K (.ref (He.ga K c)) m = some (some (.ref (He.ma K (He.ga K c) m)))) &&
      (decide (PySem.W.specialIn K (.ref (He.ma K (He.ga K c) m)) "__get__" = some (some (.builtin "property.__get__"))) && (decide (PySem.W.takesIn K (.ref (He.ma K (He.ga K c) m)) = some true) &&
      (match PySem.W.recIn K (He.ma K (He.ga K c) m) "property" with
        | some (.ref _ :: _) => true
        | _ => false)))
  | .red c => PySem.W.readsIn K (He.ga K c) (.type "type")
  | .sta c m => He5.wrapB K (He.ga K c) "staticmethod" "staticmethod.__get__" m && PySem.W.fnIn K (sga K c m)
  | .clm c m => He5.wrapB K (He.ga K c) "classmethod" "classmethod.__get__" m && PySem.W.fnIn K (cga K c m)
  | .tup x vs => He.tupB K x vs
  | .lst x vs => He.lstB K x vs
  | .kityp c t b => decide (PySem.W.kitOne K (.ref (He.ga K c)) (.type t) = some b)
  | .cval c f i => PySem.W.readsIn K (He.ga K c) (.type "type") && (match PySem.W.findCls K (.ref (He.ga K c)) (.type "type") f with
      | some (.val (.int j _)) => decide (j = i)
      | _ => false)
  | .exi c => decide (PySem.W.findIn K (.ref (He.ga K c)) "__getattribute__" = some (some (.builtin "BaseException.__getattribute__"))) && (decide (PySem.W.findIn K (.ref (He.ga K c)) "__getattr__" = some none) &&
      (decide (PySem.W.subIn K (.ref (He.ga K c)) (.type "BaseException") = some true) && (PySem.W.hasDictIn K (He.ga K c) && (decide (PySem.W.findIn K (.ref (He.ga K c)) "__class__" = some (some (.builtin "object.__class__"))) &&
      (decide (PySem.W.specialIn K (.builtin "object.__class__") "__get__" = some (some (.builtin "getset_descriptor.__get__"))) && (decide (PySem.W.takesIn K (.builtin "object.__class__") = some true) && decide (PySem.W.mroIn K (He.ga K c) (.type "object") = some true)))))))
  | .slf c => PySem.W.selfFirst K (He.ga K c)
/-- an instance's type can be asked -/
structure Ist (K : PySem.W.Frag) (c : Str) : Prop where
  ha : PySem.W.findIn K (.ref (He.ga K c)) "__class__" = some (some (.builtin "object.__class__"))
  hn : PySem.W.specialIn K (.builtin "object.__class__") "__get__" = some (some (.builtin "getset_descriptor.__get__"))
  ht : PySem.W.takesIn K (.builtin "object.__class__") = some true
  hm : PySem.W.mroIn K (He.ga K c) (.type "object") = some true
theorem ist_ok {K : PySem.W.Frag} {c : Str} (h : (Fb.ist c).ok K = true) : Ist K c := by
  obtain ⟨h1, h⟩ := He.ba h
  obtain ⟨h2, h⟩ := He.ba h
  obtain ⟨h3, h4⟩ := He.ba h
  exact ⟨of_decide_eq_true h1, of_decide_eq_true h2, of_decide_eq_true h3, of_decide_eq_true h4⟩
theorem prp_ok {K : PySem.W.Frag} {c m : Str} (h : (Fb.prp c m).ok K = true) : PropOf K (He.ga K c) m (He.ma K (He.ga K c) m) (pga K (He.ga K c) m) := by
  obtain ⟨h1, h⟩ := He.ba h
  obtain ⟨h2, h⟩ := He.ba h
  obtain ⟨h3, h4⟩ := He.ba h
  refine ⟨of_decide_eq_true h1, of_decide_eq_true h2, of_decide_eq_true h3, ?_⟩
  unfold pga
  split at h4
  · rename_i g r e
    exact ⟨r, by rw [e]⟩
  · cases h4

theorem cread_ok {K : PySem.W.Frag} {C : Addr} (h : PySem.W.readsIn K C (.type "type") = true) : ClX.CRead K C (.type "type") := by
  refine ⟨h, ?_⟩
  unfold PySem.W.readsIn at h
  obtain ⟨h, _⟩ := He.ba h
  obtain ⟨h, _⟩ := He.ba h
  obtain ⟨h, h3⟩ := He.ba h
  obtain ⟨_, h2⟩ := He.ba h
  unfold PySem.W.specialIn
  rw [beq_iff_eq.mp h2, Option.bind_some]
  exact beq_iff_eq.mp h3
theorem cval_ok {K : PySem.W.Frag} {c f : Str} {i : Int} (h : (Fb.cval c f i).ok K = true) : ClX.CRead K (He.ga K c) (.type "type") ∧ ∃ t, ClX.CVal K (He.ga K c) (.type "type") f (.int i) (.int i t) := by
  obtain ⟨h1, h2⟩ := He.ba h
  refine ⟨cread_ok h1, ?_⟩
  split at h2
  · rename_i j t e
    have hj : j = i := of_decide_eq_true h2
    exact ⟨t, by rw [e, hj], ⟨t, rfl⟩⟩
  · cases h2

theorem exi_ok {K : PySem.W.Frag} {c : Str} (h : (Fb.exi c).ok K = true) : ExcC K (He.ga K c) := by
  obtain ⟨h1, h⟩ := He.ba h
  obtain ⟨h2, h⟩ := He.ba h
  obtain ⟨h3, h⟩ := He.ba h
  obtain ⟨h4, h⟩ := He.ba h
  obtain ⟨h5, h⟩ := He.ba h
  obtain ⟨h6, h⟩ := He.ba h
  obtain ⟨h7, h8⟩ := He.ba h
  exact ⟨of_decide_eq_true h1, of_decide_eq_true h2, of_decide_eq_true h3, h4, of_decide_eq_true h5, of_decide_eq_true h6, of_decide_eq_true h7, of_decide_eq_true h8⟩

/-! ### the Hook -/
def obsM (fa : List Fb) (fn : List He5.DefA) (K : PySem.W.Frag) : He.AlD := ((fa.all fun f => f.ok K) && fn.all fun d => d.ok K, fn.map fun d => He5.fnA K (d.at_ K))
def SaysM (fa : List Fb) (fn : List He5.DefA) (K : PySem.W.Frag) : Prop := obsM fa fn K = He5.valA fn
def obsMG (n : Nat) (fa : List Fb) (fn : List He5.DefA) (g : Addr → Option Obj) : He.AlD := obsM fa fn (He.frG g (He5.asA g n))
def hookM (n : Nat) (fa : List Fb) (fn : List He5.DefA) : PySem.W.Hook where
  α := He.AlD
  obs := fun s => obsMG n fa fn s.heap.get?
  val := fun _ => He5.valA fn
  says := fun _ h => ∃ K : PySem.W.Frag, K.In h ∧ SaysM fa fn K
  of := fun _ _ e => ⟨_, He.frG_in, e⟩
  keeps := fun _ _ _ ⟨K, hK, c⟩ k => ⟨K, PySem.W.Frag.In.keeps hK k, c⟩
theorem obsMG_eq {n : Nat} {fa : List Fb} {fn : List He5.DefA} {g : Addr → Option Obj} {s : Shared} (h : ∀ a, g a = s.heap.get? a) : obsMG n fa fn g = (hookM n fa fn).obs s := by
  have e : g = s.heap.get? := funext h
  rw [e] <;> rfl
section
variable {fa : List Fb} {fn : List He5.DefA} {K : PySem.W.Frag}
theorem SaysM.fact (c : SaysM fa fn K) (i : Nat) {f : Fb} (h : fa[i]? = some f) : f.ok K = true := by
  have c1 := (He.ba (show ((fa.all fun f => f.ok K) && fn.all fun d => d.ok K) = true from congrArg (fun z : He.AlD => z.1) c)).1
  exact List.all_eq_true.mp c1 f (List.mem_of_getElem? h)
theorem SaysM.def_ (c : SaysM fa fn K) (i : Nat) {d : He5.DefA} (h : fn[i]? = some d) : ∃ fd, L2.FunD K d.name d.qual d.params d.body d.scope (d.dvs K) (d.kws K) (d.at_ K) fd := by
  have c2 := (He.ba (show ((fa.all fun f => f.ok K) && fn.all fun d => d.ok K) = true from congrArg (fun z : He.AlD => z.1) c)).2
  have e : fn.map (fun d => He5.fnA K (d.at_ K)) = fn.map He5.DefA.val := congrArg (fun z : He.AlD => z.2) c
  have e2 : (fn.map fun d => He5.fnA K (d.at_ K))[i]? = (fn.map He5.DefA.val)[i]? := by rw [e]
  rw [List.getElem?_map, List.getElem?_map, h] at e2
  exact He5.DefA.funD (Option.some.inj e2) (List.all_eq_true.mp c2 d (List.mem_of_getElem? h))
end
/-- all that the derivations lean on -/
def Zf (fa : List Fb) (fn : List He5.DefA) (K : PySem.W.Frag) (mg : Str → Option Value) : Prop := SaysM fa fn K ∧ ∃ h : Heap, K.In h ∧ h.Ns mainGlobals mg
section
variable {fa : List Fb} {fn : List He5.DefA} {K : PySem.W.Frag} {mg : Str → Option Value} (Z : Zf fa fn K mg)
include Z
theorem Zf.glo (i : Nat) {x : Str} (h : fa[i]? = some (.fa (.glo x)) := by rfl) : mg x = some (.ref (He.ga K x)) := let ⟨c, _, X, G⟩ := Z; He.glo_ok X G (c.fact i h)
theorem Zf.free (i : Nat) {x : Str} (h : fa[i]? = some (.fa (.free x)) := by rfl) : mg x = none := let ⟨c, _, X, G⟩ := Z; He.free_ok X G (c.fact i h)
theorem Zf.int (i : Nat) {x : Str} {j : Int} (h : fa[i]? = some (.fa (.int x j)) := by rfl) : ∃ t, mg x = some (.int j t) := let ⟨c, _, X, G⟩ := Z; He.int_ok X G (c.fact i h)
theorem Zf.str (i : Nat) {x z : Str} (h : fa[i]? = some (.fa (.str x z)) := by rfl) : ∃ t, mg x = some (.str z t) := let ⟨c, _, X, G⟩ := Z; He.str_ok X G (c.fact i h)
theorem Zf.cls (i : Nat) {x : Str} (h : fa[i]? = some (.fa (.cls x)) := by rfl) : Cls K (He.ga K x) := He.cls_ok (Z.1.fact i h)
theorem Zf.noat (i : Nat) {x f : Str} (h : fa[i]? = some (.fa (.noat x f)) := by rfl) : NoAttr K (He.ga K x) f := He.noat_ok (Z.1.fact i h)
theorem Zf.meth (i : Nat) {x f : Str} (h : fa[i]? = some (.fa (.meth x f)) := by rfl) : Meth K (He.ga K x) f (He.ma K (He.ga K x) f) := He.meth_ok (Z.1.fact i h)
theorem Zf.mkr (i : Nat) {x : Str} (h : fa[i]? = some (.fa (.mkr x)) := by rfl) : Mk K (He.ga K x) (He.ma K (He.ga K x) "__init__") := He.mkr_ok (Z.1.fact i h)
theorem Zf.excQ (i : Nat) {x : Str} (h : fa[i]? = some (.fa (.exc x)) := by rfl) : PySem.W.excIn K (He.ga K x) [.type "ValueError", .type "Exception", .type "BaseException", .type "object"] "ValueError.__new__" = true := (He.exc_ok (Z.1.fact i h)).1
theorem Zf.excK (i : Nat) {x : Str} (h : fa[i]? = some (.fa (.exc x)) := by rfl) : PySem.W.keepIn K (.ref (He.ga K x)) = true := (He.exc_ok (Z.1.fact i h)).2.1
theorem Zf.exm (i : Nat) {x y : Str} {b : Bool} (h : fa[i]? = some (.fa (.exm x y b)) := by rfl) : PySem.W.exmOne K (.ref (He.ga K x)) (.ref (He.ga K y)) = some b := He.exm_ok (Z.1.fact i h)
theorem Zf.keep (i : Nat) {x : Str} (h : fa[i]? = some (.fa (.keep x)) := by rfl) : PySem.W.keepIn K (.ref (He.ga K x)) = true := He.keep_ok (Z.1.fact i h)
theorem Zf.ist (i : Nat) {x : Str} (h : fa[i]? = some (.ist x) := by rfl) : Ist K x := ist_ok (Z.1.fact i h)
theorem Zf.kit (i : Nat) {x y : Str} {b : Bool} (h : fa[i]? = some (.kit x y b) := by rfl) : PySem.W.kitOne K (.ref (He.ga K x)) (.ref (He.ga K y)) = some b := of_decide_eq_true (Z.1.fact i h)
theorem Zf.kityp (i : Nat) {x : Str} {t : String} {b : Bool} (h : fa[i]? = some (.kityp x t b) := by rfl) : PySem.W.kitOne K (.ref (He.ga K x)) (.type t) = some b := of_decide_eq_true (Z.1.fact i h)
theorem Zf.cval (i : Nat) {x f : Str} {j : Int} (h : fa[i]? = some (.cval x f j) := by rfl) : ClX.CRead K (He.ga K x) (.type "type") ∧ ∃ t, ClX.CVal K (He.ga K x) (.type "type") f (.int j) (.int j t) := cval_ok (Z.1.fact i h)
theorem Zf.exi (i : Nat) {x : Str} (h : fa[i]? = some (.exi x) := by rfl) : ExcC K (He.ga K x) := exi_ok (Z.1.fact i h)
theorem Zf.slf (i : Nat) {x : Str} (h : fa[i]? = some (.slf x) := by rfl) : PySem.W.selfFirst K (He.ga K x) = true := Z.1.fact i h
theorem Zf.prp (i : Nat) {x m : Str} (h : fa[i]? = some (.prp x m) := by rfl) : PropOf K (He.ga K x) m (He.ma K (He.ga K x) m) (pga K (He.ga K x) m) := prp_ok (Z.1.fact i h)
end

/-! ### a def as a whole -/
section
variable {P : Program} {w : World} {K : PySem.W.Frag} {mg : Str → Option Value} {base : Heap}
/-- the def at f keeps the promise fn over n arguments, at the level k -/
def Ok (P : Program) (w : World) (K : PySem.W.Frag) (mg : Str → Option Value) (base : Heap) (k : Nat) (f : Addr) (ps : List Str) (fn : Fn) : Prop :=
  PySem.W.keepIn K (.ref f) = true ∧ ∃ fd, (∃ oc od osl, K.lookup f = some ⟨oc, od, .func fd, osl⟩) ∧ Binds K fd ps [] ∧ FnOk P w K mg base (L2.CX P w) k f fd ps (spF K ps.length fn)
theorem lk_of {x qual : Str} {params : Arguments} {body : List Stmt} {scope : Scope} {dvs : List V} {kws : List (Str × V)} {f : Addr} {fd : FuncData} (F : FunD K x qual params body scope dvs kws f fd) : ∃ oc od osl, K.lookup f = some ⟨oc, od, .func fd, osl⟩ := by
  obtain ⟨oc, od, dV, kV, doc, pm, an, cdv, ct, osl, e, lk, _⟩ := F.ex
  exact ⟨oc, od, osl, lk⟩
/-- THE RULE for a def of the text -/
theorem Ok.mk {fa : List Fb} {fn : List He5.DefA} {d : He5.DefA} {N ps : List Str} {k m i : Nat} {body : S} (Z : Zf fa fn K mg) (hd : fn[i]? = some d) (h0 : d.dfl = []) (h1 : d.kwd = []) (S : FnScope N ps d.scope) (hN : N.length = ps.length + m)
    (hbn : ∀ (kV doc pm : Value) (an : Option Addr) (cdv ct : Value) (us : List Value), us.length = ps.length → bindArgs (PySem.W.fnOf d.name d.qual d.params d.body d.scope .none kV doc pm an cdv ct) ⟨us, []⟩ = pure (ps.zip us))
    (hb : ∀ (cdv : Value) (A : Around) (outer : List Env) (s : Shared) (H : Hp) (E : XK), Room k (A.deeper (PyProof.Rows.envOfC d.qual d.scope s.heap.objs.size (d.at_ K) cdv)) →
      PSs (cxOf (L2.CX P w) P w K mg base N d.qual d.scope (d.at_ K) cdv A outer s H E) d.body (tS K (fun c d _ H => E c d H) body)) :
    Ok P w K mg base (k + 1) (d.at_ K) ps (fnOf m body) := by
  obtain ⟨fd, F⟩ := Z.1.def_ i hd
  have e0 : d.dvs K = [] := by unfold He5.DefA.dvs; rw [h0]; rfl
  have e1 : d.kws K = [] := by unfold He5.DefA.kws; rw [h1]; rfl
  rw [e0, e1] at F
  exact ⟨F.kp, fd, lk_of F, F.bindsN hbn, F.ok S (fun vs H Q E h => spF_len h) fun cdv A outer s H vs Q E hr h => ⟨_, hb cdv A outer s H E hr, fn_rd hN h⟩⟩
/-- at any higher level -/
theorem spF_le {n : Nat} {f g : Fn} (h : ∀ as, f as ≠ .bad → f as = g as) {vs : List V} {H : Hp} {Q : VK} {E : XK} (w : spF K n f vs H Q E) : spF K n g vs H Q E := by
  obtain ⟨args, IO, Fr, h1, h2, h3, h4⟩ := w
  refine ⟨args, IO, Fr, h1, h2, h3, ?_⟩
  rw [← h args (fun z => by rw [z] at h4; exact h4)]
  exact h4
end
section
variable {X : Cx} {W : WX} {k : Nat} {f : Addr} {ps : List Str} {fn : Fn} {x m c : Str} {p pos apos : Pos} {e o : Expr} {es : List Expr} {a : PL.A} {as : List PL.A} {n : Nat}
theorem k_call (tk : Takes X W) (F : Ok X.prog X.w X.K X.mg X.base k f ps fn) (hr : Room k X.A) (hm : X.mg x = some (.ref f))
    (ha : PA X (e :: es) (tAs X.K W as)) (hn : as.length = ps.length := by rfl) (hg : Gl X x := by rfl) (hdb : (x == ("__debug__" : Str)) = false := by decide) (he : starEach (e :: es) X.env = (false, eval e X.env) :: starEach es X.env := by rfl) (hpl : (backTo pos (starEach es X.env)).any (·.1) = false := by rfl) :
    PE X (.Call (.Name x p) (e :: es) [] pos) (tE X.K W (callF fn as)) := let ⟨hk, _, _, hb, G⟩ := F; c_call tk G hr hm hk hb ha hn hg hdb he hpl
theorem k_callIO {i0 : Nat} (tk : Takes X W) (F : Ok X.prog X.w X.K X.mg X.base k f ps fn) (hr : Room k X.A) (hm : X.mg x = some (.ref f))
    (h0 : PE X e (tA X.K W (.nm i0))) (ha : PA X es (tAs X.K W as)) (hn : as.length + 1 = ps.length := by rfl) (hg : Gl X x := by rfl) (hdb : (x == ("__debug__" : Str)) = false := by decide) (he : starEach (e :: es) X.env = (false, eval e X.env) :: starEach es X.env := by rfl) (hpl : (backTo pos (starEach es X.env)).any (·.1) = false := by rfl) :
    PE X (.Call (.Name x p) (e :: es) [] pos) (tE X.K W (callIO i0 fn as)) := let ⟨hk, _, _, hb, G⟩ := F; c_callIO tk G hr hm hk hb h0 ha hn hg hdb he hpl
theorem k_make (tk : Takes X W) (M : Mk X.K (He.ga X.K c) f) (F : Ok X.prog X.w X.K X.mg X.base k f ps fn) (hr : Room (k + 1) X.A) (hm : X.mg x = some (.ref (He.ga X.K c)))
    (ha : PA X (e :: es) (tAs X.K W as)) (hn : as.length + 1 = ps.length := by rfl) (hg : Gl X x := by rfl) (hdb : (x == ("__debug__" : Str)) = false := by decide) (he : starEach (e :: es) X.env = (false, eval e X.env) :: starEach es X.env := by rfl) (hpl : (backTo pos (starEach es X.env)).any (·.1) = false := by rfl) :
    PE X (.Call (.Name x p) (e :: es) [] pos) (tE X.K W (mkE c fn as)) := let ⟨hk, _, _, hb, G⟩ := F; c_make tk M G hr hm hb ha hn hg hdb he hpl
theorem k_meth {pl : Sem Bool} (tk : Takes X W) (ho : PE X o (tA X.K W a)) (hc : Cls X.K (He.ga X.K c)) (hm : Meth X.K (He.ga X.K c) m f) (F : Ok X.prog X.w X.K X.mg X.base k f ps fn) (hr : Room k X.A) (ha : PA X (e :: es) (tAs X.K W as))
    (hn : as.length + 1 = ps.length := by rfl) (hst : starEach (e :: es) X.env = (false, eval e X.env) :: starEach es X.env := by rfl) (hpl : (backTo pos (starEach es X.env)).any (·.1) = false := by rfl)
    (ht : eval (.Call (.Attribute o m apos) (e :: es) [] pos) X.env = (do
      let ov ← eval o X.env
      standAt apos.atName
      let (f, first) ← holding [ov] (getMethod ov m pl)
      callWith pos f first (backTo pos (starEach (e :: es) X.env)) (backToKw pos (keywordEach [] X.env))) := by rfl) :
    PE X (.Call (.Attribute o m apos) (e :: es) [] pos) (tE X.K W (methF c m fn a as)) := let ⟨hk, _, _, hb, G⟩ := F; c_meth tk ho hc hm G hr hb ha hn hst hpl ht
theorem k_meth0 {pl : Sem Bool} (tk : Takes X W) (ho : PE X o (tA X.K W a)) (hc : Cls X.K (He.ga X.K c)) (hm : Meth X.K (He.ga X.K c) m f) (F : Ok X.prog X.w X.K X.mg X.base k f ps fn) (hr : Room k X.A) (hn : ps.length = 1 := by rfl)
    (ht : eval (.Call (.Attribute o m apos) [] [] pos) X.env = (do
      let ov ← eval o X.env
      standAt apos.atName
      let (f, first) ← holding [ov] (getMethod ov m pl)
      callWith pos f first (backTo pos (starEach [] X.env)) (backToKw pos (keywordEach [] X.env))) := by rfl) :
    PE X (.Call (.Attribute o m apos) [] [] pos) (tE X.K W (methF c m fn a [])) := by
  obtain ⟨hk, _, _, hb, G⟩ := F
  rw [hn] at G
  exact c_meth0 tk ho hc hm G hr hb ht
theorem k_prop {q : Addr} (ho : PE X o (tA X.K W a)) (hc : Cls X.K (He.ga X.K c)) (hp : PropOf X.K (He.ga X.K c) m q f) (F : Ok X.prog X.w X.K X.mg X.base k f ps fn) (hr : Room (k + 1) X.A) (hn : ps.length = 1 := by rfl)
    (hab : attributeBase o m X.env (eval o X.env) = eval o X.env := by rfl) : PE X (.Attribute o m pos) (tE X.K W (propF c fn a)) := by
  obtain ⟨hk, _, _, hb, G⟩ := F
  rw [hn] at G
  exact c_prop ho hc hp G hr hb hab
end

/-! ### isinstance -/
inductive Bt where
  | bool | int | str | tuple | list | dict
def Bt.n : Bt → String
  | .bool => "bool" | .int => "int" | .str => "str" | .tuple => "tuple" | .list => "list" | .dict => "dict"
/-- isinstance(d, t), t a built-in type -/
def isiB : Bt → D → Option D
  | t, .non => some (.bl false)
  | t, .bl _ => some (.bl (match t with | .bool => true | .int => true | _ => false))
  | t, .int _ => some (.bl (match t with | .int => true | _ => false))
  | t, .str _ => some (.bl (match t with | .str => true | _ => false))
  | t, .lst _ => some (.bl (match t with | .list => true | _ => false))
  | t, .tup _ => some (.bl (match t with | .tuple => true | _ => false))
  | t, .dic _ _ => some (.bl (match t with | .dict => true | _ => false))
  | _, _ => none
/-- isinstance(d, c), c an own class, cs the classes that may come -/
def isiC (cs : List Str) (c : Str) : D → Option D
  | .ins d _ _ => if cs.contains d then some (.bl (d == c)) else none
  | _ => none
section
variable {K : PySem.W.Frag} {env : List Sl} {Fr : List Addr} {σ : L2.St} {H : Hp} {v : V}
theorem tyx_tup {a : Addr} {vs : List V} (h : SqT K H a vs) : TyX K H (.ref a) (.type "tuple") := by
  rcases h with h | ⟨o, its, n, h1, h2, _⟩
  · rcases h with h | ⟨o, h⟩
    · exact .base (.tup h)
    · exact .fTuple h
  · exact .kTuple h1 h2
theorem una_isiB (t : Bt) : Una K (fun v H Q => rIsi K [v, .ty t.n] H Q) (isiB t) := fun {env IO Fr σ H x z vx Q} e b h k => by
  have fin : ∀ {T : String} {r : Bool}, TyX K H vx (.type T) → kitB T t.n = some r → z = .bl r → rIsi K [vx, .ty t.n] H Q := fun {T r} ty hk hz => by
    subst hz
    exact ⟨vx, .ty t.n, .type T, .type t.n, r, rfl, .ty _, ty, kit_ty hk, k _ rfl⟩
  cases x with
  | non => cases b.non; cases h; exact fin (.base .non) (by cases t <;> decide +kernel) rfl
  | bl q => cases b.bl; cases h; exact fin (.base (.bl _)) (by cases t <;> decide +kernel) rfl
  | int i => cases b.int; cases h; exact fin (.base (.int _)) (by cases t <;> decide +kernel) rfl
  | str i => cases b.str; cases h; exact fin (.base (.str _)) (by cases t <;> decide +kernel) rfl
  | lst ds =>
    obtain ⟨p, vs, rfl, h1, _⟩ := b.lst
    cases h
    exact fin (.base (.lst h1)) (by cases t <;> decide +kernel) rfl
  | tup ds =>
    obtain ⟨p, vs, rfl, h1, _⟩ := b.tup
    cases h
    exact fin (tyx_tup h1) (by cases t <;> decide +kernel) rfl
  | dic ks ds =>
    obtain ⟨p, vs, rfl, h1, _⟩ := b.dic
    cases h
    exact fin (.base (.dK h1)) (by cases t <;> decide +kernel) rfl
  | _ => cases h
theorem una_isiC {cs : List Str} {c : Str} (hi : ∀ d ∈ cs, Cls K (He.ga K d) ∧ Ist K d ∧ PySem.W.kitOne K (.ref (He.ga K d)) (.ref (He.ga K c)) = some (d == c)) :
    Una K (fun v H Q => rIsi K [v, .ref (He.ga K c)] H Q) (isiC cs c) := fun {env IO Fr σ H x z vx Q} e b h k => by
  cases x with
  | ins d ns ds =>
    simp only [isiC] at h
    split at h
    · rename_i hd
      cases h
      obtain ⟨a, dx, vs, rfl, h1, _⟩ := b.ins
      obtain ⟨g1, g2, g3⟩ := hi d (by simpa using hd)
      exact ⟨_, _, .ref (He.ga K d), .ref (He.ga K c), _, rfl, .own _, .base (.ins h1 g1 g2.ha g2.hn g2.ht g2.hm), g3, k _ rfl⟩
    · cases h
  | _ => cases h
end
section
variable {X : Cx} {W : WX} {e : Expr} {a : PL.A} {x : Str} {p q pos : Pos}
theorem k_isiB (t : Bt) (hm : X.mg "isinstance" = none) (hx : X.mg x = none) (hv : bootBuiltins x = some (.type t.n)) (ha : PE X e (tA X.K W a)) (hg : Gl X "isinstance" := by rfl) (hgx : Gl X x := by rfl) (hn : x ≠ "__name__" := by decide) (hd : (x == ("__debug__" : Str)) = false := by decide)
    (h1 : starEach [e, .Name x q] X.env = (false, eval e X.env) :: starEach [.Name x q] X.env := by rfl) (h2 : starEach [.Name x q] X.env = (false, eval (.Name x q) X.env) :: starEach [] X.env := by rfl) (hpl : (backTo pos (starEach [.Name x q] X.env)).any (·.1) = false := by rfl) :
    PE X (.Call (.Name "isinstance" p) [e, .Name x q] [] pos) (tP X.K W (una (isiB t) a)) :=
  PE.imp (pe_callB call_isi hg hm PyProof.Rows.boot_isinstance (pa_cons ha (pa_cons (pe_bltn (v := .ty t.n) hgx hx hv rfl hn hd) pa_nil h2) h1) (by decide) (by decide) h1 hpl) fun _ _ _ h => una_rd (una_isiB t) h
theorem k_isiC (cs : List Str) {c : Str} (hm : X.mg "isinstance" = none) (hi : ∀ d ∈ cs, Cls X.K (He.ga X.K d) ∧ Ist X.K d ∧ PySem.W.kitOne X.K (.ref (He.ga X.K d)) (.ref (He.ga X.K c)) = some (d == c)) (hx : X.mg x = some (.ref (He.ga X.K c))) (ha : PE X e (tA X.K W a)) (hg : Gl X "isinstance" := by rfl) (hgx : Gl X x := by rfl) (hd : (x == ("__debug__" : Str)) = false := by decide)
    (h1 : starEach [e, .Name x q] X.env = (false, eval e X.env) :: starEach [.Name x q] X.env := by rfl) (h2 : starEach [.Name x q] X.env = (false, eval (.Name x q) X.env) :: starEach [] X.env := by rfl) (hpl : (backTo pos (starEach [.Name x q] X.env)).any (·.1) = false := by rfl) :
    PE X (.Call (.Name "isinstance" p) [e, .Name x q] [] pos) (tP X.K W (una (isiC cs c) a)) :=
  PE.imp (pe_callB call_isi hg hm PyProof.Rows.boot_isinstance (pa_cons ha (pa_cons (pe_glob (v := .ref (He.ga X.K c)) hgx hx rfl hd) pa_nil h2) h1) (by decide) (by decide) h1 hpl) fun _ _ _ h => una_rd (una_isiC hi) h
end
end PL

/-! Pl15: a class whose __iter__ hands out a tuple's iterator, walked. -/
namespace PL
open PySem L2
def tiObj (t : Addr) (i : Nat) : Obj := { cls := .type "tuple_iterator", data := .fields #[.ref t, .int i 0] }
/-- at it an iterator over the tuple at t -/
def ItT (t it : Addr) (i : Nat) : HO := .ext fun h => h.get? it = some (tiObj t i)
theorem itT_ok {P : Program} {w : World} {H : Hp} {h : Heap} {t it : Addr} {i : Nat} (e : h.get? it = some (tiObj t i)) : ObjOk P w H h it (ItT t it i) := ⟨e, ⟨_, e⟩, fun _ _ q k => k _ q⟩
def rIterT (K : PySem.W.Frag) (n : Nat) : List V → Hp → VK → Prop := fun xs H Q => ∃ (t : Addr) (ys : List V), xs = [.ref t] ∧ SqT K H t ys ∧ ∀ it, n ≤ it → H it = none → Q (.ref it) (upd H it (ItT t it 0))
section
variable {prog : Program} {w : World} {A : Around} {E : Value → Shared → Prop} {s : Shared}
theorem call_iter_tup {t : Addr} {items : Array Value} {Q : Value → Shared → Prop} (hl : s.heap.IsTuple t items) (h : Q (.ref s.heap.objs.size) { s with heap := s.heap.push (tiObj t 0) }) : wpAny (model prog w) A (call (.builtin "iter") [.ref t]) Q E s := by
  refine Calls.call_function_entry (by decide +kernel) (by decide +kernel) PySem.W.kdk_entry_iter (PySem.W.kdk_args_iter _) ?_
  unfold Builtin.«iter»
  have one : someArgs "iter" 1 2 ⟨[.ref t], []⟩ = pure [Value.ref t] := by first | rfl | kernel_rfl!
  refine wpAny_bind (wpAny_of_eq (by first | exact one | rfl | kernel_rfl!) ?_)
  show wpAny _ _ (pyIter (.ref t) >>= _) _ _ _
  exact wpAny_bind (wpAny_pyIter_tuple hl (wpAny_pure ⟨_, rfl, h⟩))
end
theorem call_iterT {X : Cx} : CallR X (.builtin "iter") (rIterT X.K X.s_0.heap.objs.size) := by
  intro pins s σ H xs us Q I r h
  obtain ⟨t, ys, rfl, hq, q⟩ := h
  obtain rfl := Vals.ref1 r
  obtain ⟨its, rv, pl, hz⟩ := I.tuple hq
  refine call_iter_tup pl ?_
  refine ⟨.ref s.heap.objs.size, upd H s.heap.objs.size (ItT t s.heap.objs.size 0), ?_, rfl, q _ I.sz (I.hok.fresh (Nat.le_refl _))⟩
  exact I.laid (t' := s.toks) (fun b u e => Heap.get?_push_of_some _ e) (Nat.le_refl _) (itT_ok (Heap.get?_push_size _ rfl))
/-- the def at f runs so: it hands out a new iterator over the tuple in the field fl of its argument -/
def OkIt (P : Program) (w : World) (K : PySem.W.Frag) (mg : Str → Option Value) (base : Heap) (k : Nat) (f : Addr) (C : Addr) (fl : Str) : Prop :=
  ∀ (A : Around) (outer : List Env) (s : Shared) (H : Hp) (a dx t : Addr) (fs : List (Str × V)) (ys : List V), Room k A → Env0 P w K mg base A outer s H → H a = some (.ins C dx fs) → fs.lookup fl = some (.ref t) → SqT K H t ys →
    codeAny (model P w) A (.call (.ref f) ⟨[.ref a], []⟩) (CR (L2.CX P w) outer P w H s (fun v H' => ∃ it, s.heap.objs.size ≤ it ∧ H it = none ∧ v = .ref it ∧ H' = upd H it (ItT t it 0)) E0) s
section
variable {P : Program} {w : World} {K : PySem.W.Frag} {mg : Str → Option Value} {base : Heap}
/-- a def's run at one state -/
theorem run_at {CT : CXT} {k : Nat} {f : Addr} {fd : FuncData} {x qual : Str} {params : Arguments} {body : List Stmt} {scope : Scope} {N ps : List Str} {A : Around} {outer : List Env} {s : Shared} {H : Hp} {us : List Value} {vs : List V} {Q : VK} {E : XK}
    (F : FunD K x qual params body scope [] [] f fd) (S : FnScope N ps scope) (hl : vs.length = ps.length) (hr : Room (k + 1) A) (e0 : Env0 P w K mg base A outer s H) (hb : BindsTo s fd ⟨us, []⟩ (ps.zip us)) (rv : Vals vs us)
    (hbody : ∀ cdv, Room k (A.deeper (PyProof.Rows.envOfC qual scope s.heap.objs.size f cdv)) → ∃ t, PSs (cxOf CT P w K mg base N qual scope f cdv A outer s H E) body t ∧ t { nx := fun _ H' => Q .non H', rt := Q } (L2.start N vs) H) :
    codeAny (model P w) A (.call (.ref f) ⟨us, []⟩) (CR CT outer P w H s Q E) s := by
  obtain ⟨oc, od, dV, kV, doc, pm, an, cdv, ct, osl, rfl, lk, hcd, _, _⟩ := F.ex
  have hin : K.In s.heap := e0.mod.kin.keeps fun a u z => (e0.bs a u z).1
  have hlim : s.heap.NoLimit := e0.mod.nolimit.keeps fun a u z => (e0.bs a u z).1
  have kinds : ∀ q ∈ ps.zip us, scope.names.lookup q.1 = some .local ∨ (scope.names.lookup q.1 = some .cell ∧ ((cellsFrom (s.heap.objs.size + 1) scope.names []).lookup q.1).isSome = true) := by
    rintro ⟨n, v⟩ hq
    rcases S.par n (List.of_mem_zip hq).1 with z | z
    · exact Or.inl z
    · exact Or.inr ⟨z, PySem.W.cellsFrom_some _ _ _ (Or.inl z)⟩
  refine codeAny_call_function hr.depth (hin _ _ lk) rfl S.co S.gen rfl (PySem.W.codeRec_of hin hcd) (hb _ _ _ _ ?_)
  refine wpAny_newFunctionEnv_cells S.kind kinds fun env he s1 z => ?_
  subst he
  refine ⟨hlim.keeps z.toInCall.keep, codeAny_func ?_⟩
  obtain ⟨t, ht, hq⟩ := hbody cdv (hr.deeper _)
  have I := inv_start (E := E) (CX := CT) (cd := cdv) (f := f) S hr.hd e0 hl rv z
  refine wpAny_mono (ht.run [] s1 _ H _ I hq) (fun fl s' hs => ?_) fun e s' hs => hs
  cases fl with
  | next =>
    obtain ⟨τ, G, J, q⟩ := hs
    exact ⟨V.non, G, J.os, J.bare, J.base, J.hok, rfl, q⟩
  | ret u =>
    obtain ⟨v, τ, G, J, rw', q⟩ := hs
    exact ⟨v, G, J.os, J.bare, J.base, J.hok, rw', q⟩
  | brk => exact hs.choose_spec.choose_spec.2.elim
  | cont => exact hs.choose_spec.choose_spec.2.elim
/-- def __iter__(self): return iter(self.fl) -/
theorem OkIt.mk {fa : List Fb} {fn : List He5.DefA} {d : He5.DefA} {k i : Nat} {C : Addr} {fl : Str} {p1 p2 p3 p4 p5 : Pos} (Z : Zf fa fn K mg) (hd : fn[i]? = some d) (hbd : d.body = [.Return (some (.Call (.Name "iter" p1) [.Attribute (.Name "self" p2) fl p3] [] p4)) p5])
    (h0 : d.dfl = []) (h1 : d.kwd = []) (S : FnScope ["self"] ["self"] d.scope) (hc : Cls K C) (hn : NoAttr K C fl)
    (hbn : ∀ (kV doc pm : Value) (an : Option Addr) (cdv ct : Value) (us : List Value), us.length = 1 → bindArgs (PySem.W.fnOf d.name d.qual d.params d.body d.scope .none kV doc pm an cdv ct) ⟨us, []⟩ = pure ((["self"] : List Str).zip us))
    (hb : ∀ (cdv : Value) (A : Around) (outer : List Env) (s : Shared) (H : Hp) (E : XK),
      PE (cxOf (L2.CX P w) P w K mg base ["self"] d.qual d.scope (d.at_ K) cdv A outer s H E) (.Call (.Name "iter" p1) [.Attribute (.Name "self" p2) fl p3] [] p4) (tCB (rIterT K s.heap.objs.size) (tCons (tFld K (tVar 0) fl) tNil))) : OkIt P w K mg base (k + 1) (d.at_ K) C fl := by
  obtain ⟨fd, F⟩ := Z.1.def_ i hd
  have e0 : d.dvs K = [] := by unfold He5.DefA.dvs; rw [h0]; rfl
  have e1 : d.kws K = [] := by unfold He5.DefA.kws; rw [h1]; rfl
  rw [e0, e1] at F
  intro A outer s H a dx t fs ys hr en ha hf hq
  have bt := (F.bindsA (ps := ["self"]) hbn) s [.ref a] rfl
  refine run_at (vs := [.ref a]) F S rfl hr en bt (.cons rfl .nil) fun cdv hr2 => ⟨tRet (tCB (rIterT K s.heap.objs.size) (tCons (tFld K (tVar 0) fl) tNil)), ?_, ?_⟩
  · rw [hbd]
    exact pss_one (ps_ret (hb cdv A outer s H E0))
  · exact ⟨_, rfl, a, C, dx, fs, _, rfl, ha, hc, hn, hf, t, ys, rfl, hq, fun it h1 h2 => ⟨it, h1, h2, rfl, rfl⟩⟩
end
/-- a class with such an __iter__ -/
structure ItC (K : PySem.W.Frag) (C f : Addr) : Prop where
  at_ : PySem.W.findIn K (.ref C) "__iter__" = some (some (.ref f))
  fn : PySem.W.isFn K (.ref f) = true
theorem ItC.of {K : PySem.W.Frag} {C f : Addr} (m : Meth K C "__iter__" f) : ItC K C f := ⟨m.at_, m.fn⟩
def iOwn (K : PySem.W.Frag) (C : Addr) (fl : Str) (ta : TE) : TI := fun σ H R => ta σ H fun x H1 => ∃ a dx fs t ys, x = .ref a ∧ H1 a = some (.ins C dx fs) ∧ fs.lookup fl = some (.ref t) ∧ SqT K H1 t ys ∧ R (Itt K t) H1
section
variable {X : Cx} {tg e : Expr} {te : TE} {k : Nat} {f C : Addr} {fl : Str}
theorem pi_own (he : PE X e te) (hi : ItC X.K C f) (F : OkIt X.prog X.w X.K X.mg X.base k f C fl) (hr : Room k X.A) : PI X tg e (iOwn X.K C fl te) := by
  refine ⟨fun pins s σ H R I h => ?_⟩
  refine thn (he.run pins s σ H _ I h) fun u s1 ⟨x, H1, I1, rx, a, dx, fs, t, ys, ex, ea, hl, hq, q⟩ => ?_
  subst ex
  obtain rfl : u = Value.ref a := rx
  obtain ⟨mA, J, _⟩ := ins_get I1.hok ea
  obtain ⟨od, J, _⟩ := J.look
  obtain ⟨m, hF⟩ := I1.fr
  refine PySem.W.owit_iter hF I1.ok.mod.kin J hi.at_ hi.fn ?_
  refine wpAny_call (codeAny_mono (F X.A X.stack s1 H1 a dx t fs ys hr I1.env0 ea hl hq) fun r s' hc => ?_)
  cases r with
  | error e => exact (passL pins σ H1 s1 e s' I1 hc)
  | ok g =>
    cases g with
    | ret u =>
      obtain ⟨v, H', os, bare, un, hok, rv, it, hnew, hn, ev, eH⟩ := hc
      subst ev eH
      obtain rfl : u = Value.ref it := rv
      obtain ⟨hh, g, d, tk, os'⟩ := s'
      obtain rfl : os' = s1.os := os
      have I2 : Inv X pins σ (upd H1 it (ItT t it 0)) ⟨hh, g, d, tk, s1.os⟩ := I1.call (h' := hh) (g' := g) (d' := d) (t' := tk) (ch := []) un hok bare (fun b z => absurd z (by simp))
      have eo : hh.get? it = some (tiObj t 0) := (I2.hok it _ upd_same).1
      have hi2 : upd H1 it (ItT t it 0) it = some (.ext fun h => h.get? it = some (tiObj t 0)) := upd_same
      have I3 := ItX.inv_drop I2 hi2
      have fp := ItX.inv_fp I2 hi2 (Nat.le_trans I1.sz hnew)
      rw [ItX.dropH_upd hn] at I3 fp
      unfold PySem.W.OwitIt
      have hT : (⟨hh, g, d, tk, s1.os⟩ : Shared).TypeIs (.ref it) "tuple_iterator" := ⟨_, eo, rfl⟩
      refine wpAny_specialOf (name := Str.ofString "__next__") hT PySem.F.slot_tuple_iterator_next.lookup ?_
      refine ⟨it, [it], _, Itt X.K t, H1, rfl, I3, turn_tuple t it, ⟨_, eo, rfl, rfl⟩, fun b hb => ?_, q⟩
      have e : b = it := by simpa using hb
      rw [e]
      exact fp
    | next => exact False.elim hc
    | brk => exact False.elim hc
    | cont => exact False.elim hc
end
/-- the items of an instance of c, its field fl a tuple -/
def ownI (c fl : Str) (f : P) : I := fun env => (f env).bind fun d e => match d with
  | .ins c' ns ds => if c' = c then (match (ns.zip ds).lookup fl with
    | some (.tup xs) => .ok xs e
    | _ => .bad) else .bad
  | _ => .bad
theorem repL_lookup {K : PySem.W.Frag} {H : Hp} {fl : Str} {d : D} : ∀ {ns : List Str} {ds : List D} {vs : List V}, RepL K H ds vs → ns.length = vs.length → (ns.zip ds).lookup fl = some d → ∃ v, (ns.zip vs).lookup fl = some v ∧ Rep K H d v
  | [], _, _, _, _, h => by simp at h
  | n :: ns, [], _, _, _, h => by simp at h
  | n :: ns, x :: ds, _, ⟨v, r, h1, h2, h3⟩, hl, h => by
    subst h1
    rw [List.zip_cons_cons, List.lookup_cons] at h ⊢
    cases q : (fl == n) with
    | true =>
      rw [q] at h
      cases h
      exact ⟨v, rfl, h2⟩
    | false =>
      rw [q] at h
      exact repL_lookup h3 (by simpa using hl) h
section
variable {X : Cx} {W : WX} {tg e : Expr} {f : P} {k : Nat} {g : Addr} {c fl : Str}
theorem k_iown (he : PE X e (tP X.K W f)) (hi : Meth X.K (He.ga X.K c) "__iter__" g) (F : OkIt X.prog X.w X.K X.mg X.base k g (He.ga X.K c) fl) (hr : Room k X.A) : PI X tg e (tI X.K W (ownI c fl f)) :=
  PI.imp (pi_own he (.of hi) F hr) fun σ H R w => by
    obtain ⟨env, IO, Fr, ok, w⟩ := w
    unfold ownI at w
    refine ⟨env, IO, Fr, ok, ?_⟩
    cases hf : f env with
    | ok d e1 =>
      rw [hf] at w
      cases d with
      | ins c' ns ds =>
        rw [Res.bind_ok] at w
        simp only [] at w
        split at w
        · rename_i hcc
          subst hcc
          cases hl : (ns.zip ds).lookup fl with
          | none => rw [hl] at w; exact w.elim
          | some x =>
            rw [hl] at w
            cases x with
            | tup xs =>
              simp only [] at w
              intro v H' ok1 r st
              obtain ⟨a, dx, vs, rfl, h1, h2, h3⟩ := r
              obtain ⟨v, g1, g2⟩ := repL_lookup h3 h2 hl
              obtain ⟨t, ys, rfl, k1, k2⟩ := g2
              exact ⟨a, dx, _, t, ys, rfl, same_hid_self _ _ h1, g1, Same.sqt same_hid_self k1, w H' ok1 st _ (itR_tup k1 k2)⟩
            | _ => exact w.elim
        · exact w.elim
      | _ => exact w.elim
    | exc x e1 => rw [hf] at w; exact w
    | bad => rw [hf] at w; exact w.elim
end
end PL

/-! Pl16: calls of built-ins by name, xs[::-1], insert, a def of no promise, fresh things lent. -/
namespace PL
open PySem L2
theorem u64 {A : Around} {k : Nat} (hr : Room k A) : A.units + 64 < cLine := by have := hr.un; omega
section
variable {P : Program} {w : World} {K : PySem.W.Frag} {mg : Str → Option Value} {base : Heap}
theorem Ok.none {fa : List Fb} {fn : List He5.DefA} {d : He5.DefA} {ps : List Str} {k i : Nat} (Z : Zf fa fn K mg) (hd : fn[i]? = some d) (h0 : d.dfl = []) (h1 : d.kwd = [])
    (hbn : ∀ (kV doc pm : Value) (an : Option Addr) (cdv ct : Value) (us : List Value), us.length = ps.length → bindArgs (PySem.W.fnOf d.name d.qual d.params d.body d.scope .none kV doc pm an cdv ct) ⟨us, []⟩ = pure (ps.zip us)) :
    Ok P w K mg base k (d.at_ K) ps (fun _ => .bad) := by
  obtain ⟨fd, F⟩ := Z.1.def_ i hd
  have e0 : d.dvs K = [] := by unfold He5.DefA.dvs; rw [h0]; rfl
  have e1 : d.kws K = [] := by unfold He5.DefA.kws; rw [h1]; rfl
  rw [e0, e1] at F
  refine ⟨F.kp, fd, lk_of F, F.bindsN hbn, fun vs H Q E h => spF_len h, fun A outer s H args us vs Q E hr e0 hb rv h => ?_⟩
  obtain ⟨_, _, _, _, _, _, z⟩ := h
  exact z.elim
end
def max3L : List D → Option Sl
  | [.int i, .int j, .int k] => some (.shr (.int (let m := if i < j then j else i; if m < k then k else m)))
  | _ => none
def min3L : List D → Option Sl
  | [.int i, .int j, .int k] => some (.shr (.int (let m := if j < i then j else i; if k < m then k else m)))
  | _ => none
def max1L : List D → Option Sl
  | [.lst ds] => (ints? ds).bind fun
    | [] => none
    | n :: r => some (.shr (.int (r.foldl max n)))
  | _ => none
def min1L : List D → Option Sl
  | [.lst ds] => (ints? ds).bind fun
    | [] => none
    | n :: r => some (.shr (.int (r.foldl min n)))
  | _ => none
/-- max(xs, default=m) -/
def maxDef (m : Int) : D → Option D
  | .lst ds => (ints? ds).map fun
    | [] => .int m
    | n :: r => .int (r.foldl max n)
  | _ => none
theorem foldl_max_ge : ∀ (r : List Int) (n : Int), n ≤ r.foldl max n ∧ ∀ y ∈ r, y ≤ r.foldl max n
  | [], n => ⟨Int.le_refl _, fun y hy => by simp at hy⟩
  | x :: r, n => by
    obtain ⟨h1, h2⟩ := foldl_max_ge r (max n x)
    rw [List.foldl_cons]
    refine ⟨by omega, fun y hy => ?_⟩
    rcases List.mem_cons.mp hy with rfl | hy
    · omega
    · exact h2 y hy
theorem foldl_max_mem : ∀ (r : List Int) (n : Int), r.foldl max n ∈ n :: r
  | [], n => by simp
  | x :: r, n => by
    have h := foldl_max_mem r (max n x)
    rw [List.foldl_cons]
    rcases List.mem_cons.mp h with h | h
    · rw [h]
      rcases Int.le_total n x with z | z
      · rw [Int.max_eq_right z]; simp
      · rw [Int.max_eq_left z]; simp
    · simp [h]
theorem foldl_min_le : ∀ (r : List Int) (n : Int), r.foldl min n ≤ n ∧ ∀ y ∈ r, r.foldl min n ≤ y
  | [], n => ⟨Int.le_refl _, fun y hy => by simp at hy⟩
  | x :: r, n => by
    obtain ⟨h1, h2⟩ := foldl_min_le r (min n x)
    rw [List.foldl_cons]
    refine ⟨by omega, fun y hy => ?_⟩
    rcases List.mem_cons.mp hy with rfl | hy
    · omega
    · exact h2 y hy
theorem foldl_min_mem : ∀ (r : List Int) (n : Int), r.foldl min n ∈ n :: r
  | [], n => by simp
  | x :: r, n => by
    have h := foldl_min_mem r (min n x)
    rw [List.foldl_cons]
    rcases List.mem_cons.mp h with h | h
    · rw [h]
      rcases Int.le_total n x with z | z
      · rw [Int.min_eq_left z]; simp
      · rw [Int.min_eq_right z]; simp
    · simp [h]
section
variable {K : PySem.W.Frag}
theorem BReps.three {env : List Sl} {Fr : List Addr} {σ : L2.St} {H : Hp} {d d' d'' : D} {vs : List V} (h : BReps K env Fr σ H [d, d', d''] vs) : ∃ v v' v'', vs = [v, v', v''] ∧ BRep K env Fr σ H d v ∧ BRep K env Fr σ H d' v' ∧ BRep K env Fr σ H d'' v'' := by
  obtain ⟨v, r, rfl, h1, h2⟩ := h
  obtain ⟨v', v'', rfl, h3, h4⟩ := BReps.two h2
  exact ⟨v, v', v'', rfl, h1, h3, h4⟩
theorem nu_max3 (i j k : Int) : nuMax3 (.int i) (.int j) (.int k) = some (.int (let m := if i < j then j else i; if m < k then k else m)) := by
  unfold nuMax3 nuMax2
  simp only [nuLt, nuCB, Option.map_some, Option.bind_some]
  by_cases h : i < j
  · by_cases h2 : j < k <;> simp [h, h2, nuCB]
  · by_cases h2 : i < k <;> simp [h, h2, nuCB]
theorem nu_min3 (i j k : Int) : nuMin3 (.int i) (.int j) (.int k) = some (.int (let m := if j < i then j else i; if k < m then k else m)) := by
  unfold nuMin3 nuMin2
  simp only [nuLt, nuCB, Option.map_some, Option.bind_some]
  by_cases h : j < i
  · by_cases h2 : k < j <;> simp [h, h2, nuCB]
  · by_cases h2 : k < i <;> simp [h, h2, nuCB]
theorem cd_max3 : CallD K (rNuC3 nuMax3) max3L := fun {env IO Fr σ H ds s vs Q} e b h k => by
  unfold max3L at h
  split at h
  · obtain ⟨v, v', v'', rfl, q, q', q''⟩ := b.three
    cases h; cases q.int; cases q'.int; cases q''.int
    exact ⟨_, _, _, _, rfl, nu_max3 _ _ _, k _ _ ⟨e, rfl⟩ (Stp.refl _ _ _)⟩
  · cases h
theorem cd_min3 : CallD K (rNuC3 nuMin3) min3L := fun {env IO Fr σ H ds s vs Q} e b h k => by
  unfold min3L at h
  split at h
  · obtain ⟨v, v', v'', rfl, q, q', q''⟩ := b.three
    cases h; cases q.int; cases q'.int; cases q''.int
    exact ⟨_, _, _, _, rfl, nu_min3 _ _ _, k _ _ ⟨e, rfl⟩ (Stp.refl _ _ _)⟩
  · cases h
theorem cd_max1 : CallD K (rMax K) max1L := fun {env IO Fr σ H ds s vs Q} e b h k => by
  unfold max1L at h
  split at h
  · obtain ⟨v, rfl, q⟩ := b.one
    obtain ⟨p, ws, rfl, h1, r⟩ := q.lst
    obtain ⟨ns, hb, h⟩ := Option.bind_eq_some_iff.mp h
    have hw := ints_rep hb r
    cases ns with
    | nil => cases h
    | cons n rr =>
      cases h
      refine ⟨p, n :: rr, rfl, .of (by rw [h1, hw]), by simp, fun m hm hle => ?_⟩
      obtain ⟨g1, g2⟩ := foldl_max_ge rr n
      have g3 := hle _ (foldl_max_mem rr n)
      have g4 : m ≤ rr.foldl max n := by
        rcases List.mem_cons.mp hm with rfl | z
        · exact g1
        · exact g2 _ z
      have : m = rr.foldl max n := by omega
      rw [this]
      exact k _ _ ⟨e, rfl⟩ (Stp.refl _ _ _)
  · cases h
theorem cd_min1 : CallD K (rMin K) min1L := fun {env IO Fr σ H ds s vs Q} e b h k => by
  unfold min1L at h
  split at h
  · obtain ⟨v, rfl, q⟩ := b.one
    obtain ⟨p, ws, rfl, h1, r⟩ := q.lst
    obtain ⟨ns, hb, h⟩ := Option.bind_eq_some_iff.mp h
    have hw := ints_rep hb r
    cases ns with
    | nil => cases h
    | cons n rr =>
      cases h
      refine ⟨p, n :: rr, rfl, .of (by rw [h1, hw]), by simp, fun m hm hle => ?_⟩
      obtain ⟨g1, g2⟩ := foldl_min_le rr n
      have g3 := hle _ (foldl_min_mem rr n)
      have g4 : rr.foldl min n ≤ m := by
        rcases List.mem_cons.mp hm with rfl | z
        · exact g1
        · exact g2 _ z
      have : m = rr.foldl min n := by omega
      rw [this]
      exact k _ _ ⟨e, rfl⟩ (Stp.refl _ _ _)
  · cases h
theorem BRep.lstL {env : List Sl} {IO : List (Option Addr)} {Fr : List Addr} {σ : L2.St} {H : Hp} {ds : List D} {v : V} (e : EnvOk K env IO Fr σ H) (b : BRep K env Fr σ H (.lst ds) v) : ∃ p ws, v = .ref p ∧ SqL K H p ws ∧ RepL K (hid H (Hd env σ Fr)) ds ws := by
  obtain ⟨p, ws, h1, h2, h3⟩ := b.lst
  exact ⟨p, ws, h1, .inl (.inl h2), h3⟩
theorem cd_list : CallD K (fun xs H Q => ∃ p ys, xs = [.ref p] ∧ (SqL K H p ys ∨ SqT K H p ys) ∧ ∀ l, H l = none → Q (.ref l) (upd H l (.lst ys))) listL := fun {env IO Fr σ H ds s vs Q} e b h k => by
  unfold listL at h
  split at h
  · obtain ⟨v, rfl, q⟩ := b.one
    cases h
    obtain ⟨p, ws, rfl, h1, r⟩ := q.lst
    refine ⟨p, ws, rfl, .inl (.inl (.inl h1)), fun l hl => ?_⟩
    obtain ⟨g1, g2⟩ := e.new (d := .lst _) (o := .lst ws) hl ⟨ws, rfl, r⟩
    exact k _ _ g1 g2
  · obtain ⟨v, rfl, q⟩ := b.one
    cases h
    obtain ⟨p, ws, rfl, h1, r⟩ := q.tup
    refine ⟨p, ws, rfl, .inr h1, fun l hl => ?_⟩
    obtain ⟨g1, g2⟩ := e.new (d := .lst _) (o := .lst ws) hl ⟨ws, rfl, r⟩
    exact k _ _ g1 g2
  · cases h
theorem cd_tuple : CallD K (fun xs H Q => ∃ p ys, xs = [.ref p] ∧ ((SqL K H p ys ∧ ∀ l, H l = none → Q (.ref l) (upd H l (.tup ys))) ∨ (SqT K H p ys ∧ Q (.ref p) H))) tupleL := fun {env IO Fr σ H ds s vs Q} e b h k => by
  unfold tupleL at h
  split at h
  · obtain ⟨v, rfl, q⟩ := b.one
    cases h
    obtain ⟨p, ws, rfl, h1, r⟩ := q.lst
    refine ⟨p, ws, rfl, .inl ⟨.inl (.inl h1), fun l hl => ?_⟩⟩
    obtain ⟨g1, g2⟩ := e.newT hl r
    exact k _ _ g1 g2
  · obtain ⟨v, rfl, q⟩ := b.one
    cases h
    rcases q with rp | ⟨p, o, _, _, z⟩
    · obtain ⟨p, ws, rfl, h1, r⟩ := id rp
      exact ⟨p, ws, rfl, .inr ⟨Same.sqt same_hid_self h1, k _ _ ⟨e, rp⟩ (Stp.refl _ _ _)⟩⟩
    · exact z.elim
  · cases h
end

/-! ### xs[::-1] -/
def revL : D → Option Sl
  | .lst ds => some (.own (.lst ds.reverse))
  | _ => none
def revE (a : PL.A) : E := unaE revL a
theorem unaE_rev {K : PySem.W.Frag} : UnaE K (fun x H Q => ∃ a xs, x = .ref a ∧ SqL K H a xs ∧ ∀ p, H p = none → Q (.ref p) (upd H p (.lst xs.reverse))) revL := fun {env IO Fr σ H x s vx Q} e b h k => by
  cases x with
  | lst ds =>
    cases h
    obtain ⟨p, ws, rfl, h1, r⟩ := b.lst
    refine ⟨p, ws, rfl, .inl (.inl h1), fun q hq => ?_⟩
    obtain ⟨g1, g2⟩ := e.new (d := .lst ds.reverse) (o := .lst ws.reverse) hq ⟨_, rfl, r.rev⟩
    exact k _ _ g1 g2
  | _ => cases h
section
variable {X : Cx} {W : WX} {e : Expr} {es : List Expr} {a : PL.A} {as : List PL.A} {k : Nat} {p p1 p2 p3 pos : Pos}
theorem k_rev (ha : PE X e (tA X.K W a)) : PE X (.Subscript e (.Slice none none (some (.UnaryOp .USub (.Constant (.int 1) k p1) p2)) p3) pos) (tE X.K W (revE a)) :=
  PE.imp (pe_revL ha) fun _ _ _ h => unaE_rd unaE_rev h

/-! ### calls of built-ins -/
theorem k_int (hg : Gl X "int") (hm : X.mg "int" = none) (ha : PA X (e :: es) (tAs X.K W as))
    (he : starEach (e :: es) X.env = (false, eval e X.env) :: starEach es X.env := by rfl) (hpl : (backTo pos (starEach es X.env)).any (·.1) = false := by rfl) : PE X (.Call (.Name "int" p) (e :: es) [] pos) (tE X.K W (blt intL as)) :=
  c_callTy call_int1 cd_int hg hm PyProof.Rows.boot_int ha (by decide) (by decide) he hpl
theorem k_max2 (hc : X.calm = true) (hg : Gl X "max") (hm : X.mg "max" = none) (ha : PA X (e :: es) (tAs X.K W as))
    (he : starEach (e :: es) X.env = (false, eval e X.env) :: starEach es X.env := by rfl) (hpl : (backTo pos (starEach es X.env)).any (·.1) = false := by rfl) : PE X (.Call (.Name "max" p) (e :: es) [] pos) (tE X.K W (blt max2L as)) :=
  c_callB (call_max2 hc) cd_max2 hg hm PyProof.Rows.boot_max ha (by decide) (by decide) he hpl
theorem k_min2 (hc : X.calm = true) (hg : Gl X "min") (hm : X.mg "min" = none) (ha : PA X (e :: es) (tAs X.K W as))
    (he : starEach (e :: es) X.env = (false, eval e X.env) :: starEach es X.env := by rfl) (hpl : (backTo pos (starEach es X.env)).any (·.1) = false := by rfl) : PE X (.Call (.Name "min" p) (e :: es) [] pos) (tE X.K W (blt min2L as)) :=
  c_callB (call_min2 hc) cd_min2 hg hm PyProof.Rows.boot_min ha (by decide) (by decide) he hpl
theorem k_max3 (hc : X.calm = true) (hg : Gl X "max") (hm : X.mg "max" = none) (ha : PA X (e :: es) (tAs X.K W as))
    (he : starEach (e :: es) X.env = (false, eval e X.env) :: starEach es X.env := by rfl) (hpl : (backTo pos (starEach es X.env)).any (·.1) = false := by rfl) : PE X (.Call (.Name "max" p) (e :: es) [] pos) (tE X.K W (blt max3L as)) :=
  c_callB (call_max3Nu hc) cd_max3 hg hm PyProof.Rows.boot_max ha (by decide) (by decide) he hpl
theorem k_min3 (hc : X.calm = true) (hg : Gl X "min") (hm : X.mg "min" = none) (ha : PA X (e :: es) (tAs X.K W as))
    (he : starEach (e :: es) X.env = (false, eval e X.env) :: starEach es X.env := by rfl) (hpl : (backTo pos (starEach es X.env)).any (·.1) = false := by rfl) : PE X (.Call (.Name "min" p) (e :: es) [] pos) (tE X.K W (blt min3L as)) :=
  c_callB (call_min3Nu hc) cd_min3 hg hm PyProof.Rows.boot_min ha (by decide) (by decide) he hpl
theorem k_max1 (hc : X.calm = true) (hg : Gl X "max") (hm : X.mg "max" = none) (ha : PA X (e :: es) (tAs X.K W as))
    (he : starEach (e :: es) X.env = (false, eval e X.env) :: starEach es X.env := by rfl) (hpl : (backTo pos (starEach es X.env)).any (·.1) = false := by rfl) : PE X (.Call (.Name "max" p) (e :: es) [] pos) (tE X.K W (blt max1L as)) :=
  c_callB (cr_max hc) cd_max1 hg hm PyProof.Rows.boot_max ha (by decide) (by decide) he hpl
theorem k_min1 (hc : X.calm = true) (hg : Gl X "min") (hm : X.mg "min" = none) (ha : PA X (e :: es) (tAs X.K W as))
    (he : starEach (e :: es) X.env = (false, eval e X.env) :: starEach es X.env := by rfl) (hpl : (backTo pos (starEach es X.env)).any (·.1) = false := by rfl) : PE X (.Call (.Name "min" p) (e :: es) [] pos) (tE X.K W (blt min1L as)) :=
  c_callB (cr_min hc) cd_min1 hg hm PyProof.Rows.boot_min ha (by decide) (by decide) he hpl
theorem k_any (hc : X.calm = true) (hg : Gl X "any") (hm : X.mg "any" = none) (ha : PA X (e :: es) (tAs X.K W as))
    (he : starEach (e :: es) X.env = (false, eval e X.env) :: starEach es X.env := by rfl) (hpl : (backTo pos (starEach es X.env)).any (·.1) = false := by rfl) : PE X (.Call (.Name "any" p) (e :: es) [] pos) (tE X.K W (blt anyL as)) :=
  c_callB (cr_any hc) cd_any hg hm PyProof.Rows.boot_any ha (by decide) (by decide) he hpl
theorem k_all (hc : X.calm = true) (hg : Gl X "all") (hm : X.mg "all" = none) (ha : PA X (e :: es) (tAs X.K W as))
    (he : starEach (e :: es) X.env = (false, eval e X.env) :: starEach es X.env := by rfl) (hpl : (backTo pos (starEach es X.env)).any (·.1) = false := by rfl) : PE X (.Call (.Name "all" p) (e :: es) [] pos) (tE X.K W (blt allL as)) :=
  c_callB (cr_all hc) cd_all hg hm PyProof.Rows.boot_all ha (by decide) (by decide) he hpl
theorem k_sum (hc : X.calm = true) (hg : Gl X "sum") (hm : X.mg "sum" = none) (ha : PA X (e :: es) (tAs X.K W as))
    (he : starEach (e :: es) X.env = (false, eval e X.env) :: starEach es X.env := by rfl) (hpl : (backTo pos (starEach es X.env)).any (·.1) = false := by rfl) : PE X (.Call (.Name "sum" p) (e :: es) [] pos) (tE X.K W (blt sumL as)) :=
  c_callB (cr_sum hc) cd_sum hg hm PyProof.Rows.boot_sum ha (by decide) (by decide) he hpl
theorem k_abs (hg : Gl X "abs") (hm : X.mg "abs" = none) (ha : PA X (e :: es) (tAs X.K W as))
    (he : starEach (e :: es) X.env = (false, eval e X.env) :: starEach es X.env := by rfl) (hpl : (backTo pos (starEach es X.env)).any (·.1) = false := by rfl) : PE X (.Call (.Name "abs" p) (e :: es) [] pos) (tE X.K W (blt absL as)) :=
  c_callB call_abs cd_abs hg hm PyProof.Rows.boot_abs ha (by decide) (by decide) he hpl
theorem k_list (hg : Gl X "list") (hm : X.mg "list" = none) (ha : PA X (e :: es) (tAs X.K W as))
    (he : starEach (e :: es) X.env = (false, eval e X.env) :: starEach es X.env := by rfl) (hpl : (backTo pos (starEach es X.env)).any (·.1) = false := by rfl) : PE X (.Call (.Name "list" p) (e :: es) [] pos) (tE X.K W (blt listL as)) :=
  c_callTy call_list_of cd_list hg hm PyProof.Rows.boot_list ha (by decide) (by decide) he hpl
theorem k_tuple (hg : Gl X "tuple") (hm : X.mg "tuple" = none) (ha : PA X (e :: es) (tAs X.K W as))
    (he : starEach (e :: es) X.env = (false, eval e X.env) :: starEach es X.env := by rfl) (hpl : (backTo pos (starEach es X.env)).any (·.1) = false := by rfl) : PE X (.Call (.Name "tuple" p) (e :: es) [] pos) (tE X.K W (blt tupleL as)) :=
  c_callTy call_tuple_of cd_tuple hg hm PyProof.Rows.boot_tuple ha (by decide) (by decide) he hpl

/-! ### max(xs, default=m) -/
def rMaxDef (K : PySem.W.Frag) (m : Int) : List V → List V → Hp → VK → Prop := fun vs zs H Q => ∃ (a : Addr) (ns : List Int), vs = [V.ref a] ∧ zs = [.int m] ∧ SqL K H a (ns.map V.int) ∧ Q (.int (match ns with
  | [] => m
  | n :: r => r.foldl max n)) H
theorem maxOf_int (y : Int) (ys : List Int) : PySem.W.maxOf y ys = ys.foldl max y := by
  have h1 := PySem.W.maxD_map (α := Int) y ys
  have h2 := PySem.W.maxD_ints y ys
  have h3 : PySem.W.maxD (PyData.int y) (ys.map PyData.int) = PyData.int (PySem.W.maxOf y ys) := h1
  rw [h2] at h3
  exact (PyData.int.inj h3).symm
theorem call_maxDef {m : Int} (hc : X.calm = true) (hu : X.A.units + 64 < cLine) : CallRK X (.builtin "max") ["default"] (rMaxDef X.K m) := by
  intro pins s σ H xs zs us ws Q I r rz h
  obtain ⟨a, ns, rfl, rfl, hq, q⟩ := h
  obtain rfl := Vals.ref1 r
  obtain ⟨u, rfl, ru⟩ := vals1 rz
  obtain ⟨tk0, rfl⟩ := ru
  obtain ⟨its, rv, hl, _⟩ := I.list hq
  refine PySem.W.max_list_datum_default (α := Int) (xs := ns) (d := .int m tk0) (I.ok.hd hc) hl.isList (PySem.W.HoldAll.of_ints rv.ints) (by show X.A.units + 1 + 0 < cLine; omega) (fun e h' tk hk => ?_) fun y ys i v h' tk e hi hh hk => ?_
  · subst e
    exact ⟨.int m, H, I.kept hk, ⟨tk0, rfl⟩, q⟩
  · subst e
    have hv : ∃ t, v = .int (PySem.W.maxOf y ys) t := by
      have := PySem.W.HoldAll.toInts (PySem.W.HoldAll.cons hh PySem.W.HoldAll.nil)
      cases this with
      | cons t _ => exact ⟨_, rfl⟩
    obtain ⟨t, rfl⟩ := hv
    refine ⟨.int (PySem.W.maxOf y ys), H, I.kept hk, ⟨t, rfl⟩, ?_⟩
    rw [maxOf_int]
    exact q
theorem una_maxDef {K : PySem.W.Frag} (m : Int) : Una K (fun x H Q => rMaxDef K m [x] [.int m] H Q) (maxDef m) := fun {env IO Fr σ H x z vx Q} e b h k => by
  unfold maxDef at h
  split at h
  · obtain ⟨p, ws, rfl, h1, r⟩ := b.lst
    obtain ⟨ns, hb, rfl⟩ := Option.map_eq_some_iff.mp h
    refine ⟨p, ns, rfl, rfl, .inl (.inl (by rw [h1, ints_rep hb r])), ?_⟩
    cases ns with
    | nil => exact k _ rfl
    | cons n rr => exact k _ rfl
  · cases h
theorem k_maxdef {m : Int} {j : Nat} {kp : Pos} (hu : X.A.units + 64 < cLine) (hc : X.calm = true) (hg : Gl X "max") (hm : X.mg "max" = none) (ha : PE X e (tA X.K W a)) (hs : starEach [e] X.env = (false, eval e X.env) :: starEach [] X.env := by rfl)
    (h1 : backTo pos (starEach [e] X.env) = (false, eval e X.env) :: backTo pos (starEach [] X.env) := by rfl) (h2 : (backTo pos (starEach [e] X.env)).any (·.1) = false := by rfl)
    (h3 : (backToKw pos (keywordEach [⟨some "default", .Constant (.int m) j p1, kp⟩] X.env)).all (·.1.isSome) = true := by rfl) (h4 : (backToKw pos (keywordEach [⟨some "default", .Constant (.int m) j p1, kp⟩] X.env)).any (·.1.isNone) = false := by rfl)
    (h5 : (backToKw pos (keywordEach [⟨some "default", .Constant (.int m) j p1, kp⟩] X.env)).filterMap (·.1) = (["default"] : List Str) := by rfl) :
    PE X (.Call (.Name "max" p) [e] [⟨some "default", .Constant (.int m) j p1, kp⟩] pos) (tP X.K W (una (maxDef m) a)) :=
  PE.imp (pe_callBK (call_maxDef (m := m) hc hu) hg hm PyProof.Rows.boot_max (pa_cons ha pa_nil hs) (pk_cons pe_int pk_nil) (by decide) (by decide) h1 h2 h3 h4 h5) fun σ H Q h => by
    have h := una_rd (una_maxDef m) h
    exact h
end

/-! ### xs.insert(i, x) -/
def insD (ds : List D) (args : List D) : Option (List D) := match args with
  | [.int i, d] => if ds.length < 16777216 ∧ 0 ≤ i ∧ i.natAbs < 4611686018427387904 then some (ds.take i.toNat ++ [d] ++ ds.drop i.toNat) else none
  | _ => none
theorem mtd_insert {K : PySem.W.Frag} : MtD K (fun x vs H Q => ∃ (l : Addr) (xs : List V) (i : Int) (y : V), x = .ref l ∧ vs = [.int i, y] ∧ H l = some (.lst xs) ∧ xs.length < sizeLine ∧ 0 ≤ i ∧ i < 2 ^ 63 ∧
    Q .non (upd H l (.lst (xs.take i.toNat ++ [y] ++ xs.drop i.toNat)))) insD := fun {H0 H p ds args ds' vs ws Q} hH r ra h k => by
  unfold insD at h
  split at h
  · split at h
    · rename_i i d hl
      cases h
      obtain ⟨v1, s, rfl, rv, v2, s2, rfl, rv2, rfl⟩ := ra
      cases rv
      refine ⟨p, vs, i, v2, rfl, rfl, hH, ?_, hl.2.1, by have := hl.2.2; omega, k _ _ (RepL.snoc (RepL.snoc (r.take _) ⟨v2, [], rfl, rv2, rfl⟩) (r.drop _))⟩
      rw [← r.len]; exact hl.1
    · cases h
  · cases h
section
variable {X : Cx} {W : WX} {o e e2 : Expr} {fs : List P} {apos cpos pos : Pos} {i : Nat}
theorem k_insert (i : Nat) (ho : PE X o (tA X.K W (.nm i))) (ha : PA X [e, e2] (tPs X.K W fs))
    (hbase : attributeBase o "insert" X.env (eval o X.env) = eval o X.env := by rfl)
    (hfew : ((backTo cpos (starEach [e, e2] X.env)).all (fun z => !z.1) && (backToKw cpos (keywordEach [] X.env)).all (fun z => z.1.isSome)
      && decide (([e, e2] : List Expr).length + ([] : List Keyword).length + (if ([] : List Keyword).isEmpty then 0 else 1) < 30)) = true := by rfl)
    (hline : (apos.endLine == cpos.line) = true := by rfl) (hs : starEach [e, e2] X.env = (false, eval e X.env) :: starEach [e2] X.env := by rfl) (hplain : (backTo cpos (starEach [e2] X.env)).any (·.1) = false := by rfl)
    (hsw : swapsWith (.Call (.Attribute o "insert" apos) [e, e2] [] cpos) none pos.line X.env = pure false := by rfl) :
    PS X (.Expr (.Call (.Attribute o "insert" apos) [e, e2] [] cpos) pos) (tS X.K W (mtS insD i fs)) :=
  PS.imp (ps_expr (pe_bm PySem.F.plainAttrs_list PySem.F.slot_list_insert PySem.F.type_list_insert mt_insert ho ha hbase hfew hline hs hplain) hsw) fun Z σ H w => mt_rd mtd_insert w
end
section
variable {fa : List Fb} {fn : List He5.DefA} {K : PySem.W.Frag} {mg : Str → Option Value} (Z : Zf fa fn K mg)
include Z
theorem Zf.excS (i : Nat) {x : Str} (h : fa[i]? = some (.fa (.exc x)) := by rfl) : PySem.W.subIn K (.ref (He.ga K x)) (.type "BaseException") = some true := (He.exc_ok (Z.1.fact i h)).2.2.1
theorem Zf.excT (i : Nat) {x : Str} (h : fa[i]? = some (.fa (.exc x)) := by rfl) : PySem.W.typeIn K (.ref (He.ga K x)) = some (.type "type") := (He.exc_ok (Z.1.fact i h)).2.2.2
end
end PL

/-! Pl17: a op b op' c op'' d as a test; a class's constant. -/
namespace PL
open PySem L2 PyProof.Rows
/-- a op1 b op2 c op3 d -/
def tChain3 (r r' r'' : R2) (ta tb tc td : TE) : TE := fun σ H Q => ta σ H fun x H1 => tb σ H1 fun y H2 => r x y H2 fun z H3 => ∃ k, z = .bl k ∧
  (if k = true then tc σ H3 fun u H4 => r' y u H4 fun z' H5 => ∃ k', z' = .bl k' ∧ (if k' = true then td σ H5 fun v H6 => r'' u v H6 Q else Q (.bl false) H5) else Q (.bl false) H3)
section
variable {X : Cx} {a b c d : Expr} {ta tb tc td : TE} {pos : Pos}
theorem pt_chain3 {op op' op2 : CmpOp} {r r' r'' : R2} (ho : OpR X (compareOp op) r) (ho' : OpR X (compareOp op') r') (ho2 : OpR X (compareOp op2) r'') (ha : PE X a ta) (hb : PE X b tb) (hc : PE X c tc) (hd : PE X d td)
    (hm : lastMarks [op, op', op2] [b, c, d] = false := by with_unfolding_all rfl) : PT X (.Compare a [op, op', op2] [b, c, d] pos) (tTest (tChain3 r r' r'' ta tb tc td)) := by
  refine ⟨fun pins s σ H Q I h => ?_⟩
  refine isTrue_chain (thn (ha.run pins s σ H _ I h) fun va s1 ⟨x, H1, I1, r1, q1⟩ => test_link (thn (hb.run pins s1 σ H1 _ I1 q1) fun vb s2 ⟨y, H2, I2, r2, q2⟩ =>
    thn (ho pins s2 σ H2 x y va vb _ I2 r1 r2 q2) fun vz s3 ⟨z, H3, I3, r3, k, e, q3⟩ => ?_)) hm
  subst e
  cases r3
  refine wpAny_truthy_bool ?_
  cases k with
  | false =>
    obtain ⟨k', e', q'⟩ := q3
    cases e'
    exact ite_ff ⟨H3, I3, q'⟩
  | true =>
    refine ite_tt (test_link (thn (hc.run pins s3 σ H3 _ I3 q3) fun vc s4 ⟨u, H4, I4, r4, q4⟩ => thn (ho' pins s4 σ H4 y u vb vc _ I4 r2 r4 q4) fun vz2 s5 ⟨z', H5, I5, r5, k', e, q5⟩ => ?_))
    subst e
    cases r5
    refine wpAny_truthy_bool ?_
    cases k' with
    | false =>
      obtain ⟨k2, e2, q'⟩ := q5
      cases e2
      exact ite_ff ⟨H5, I5, q'⟩
    | true =>
      refine ite_tt (test_last (thn (hd.run pins s5 σ H5 _ I5 q5) fun vd s6 ⟨v, H6, I6, r6, q6⟩ => thn (ho2 pins s6 σ H6 u v vc vd _ I6 r4 r6 q6) fun vz3 s7 ⟨z3, H7, I7, r7, k3, e3, q7⟩ => ?_))
      subst e3
      cases r7
      exact wpAny_truthy_bool ⟨H7, I7, q7⟩
end
def chain3P (p q r : D → D → Option D) (a b c d : PL.A) : P := fun env => (a.ev env).bind fun oa e1 => (b.ev e1).bind fun ob e2 => match a.fin oa e2, b.fin ob e2 with
  | some x, some y => (match p x y with
    | some (.bl true) => (c.ev e2).bind fun oc e3 => (match b.fin ob e3, c.fin oc e3 with
      | some y', some z => (match q y' z with
        | some (.bl true) => (d.ev e3).bind fun od e4 => (match c.fin oc e4, d.fin od e4 with
          | some z', some u => opt (r z' u) e4
          | _, _ => .bad)
        | some (.bl false) => .ok (.bl false) e3
        | _ => .bad)
      | _, _ => .bad)
    | some (.bl false) => .ok (.bl false) e2
    | _ => .bad)
  | _, _ => .bad
section
variable {K : PySem.W.Frag} {W : WX} {o1 o2 o3 o4 : PL.A}
theorem chain3_rd {r r' r2 : R2} {p q q2 : D → D → Option D} (hp : Bin K r p) (hq : Bin K r' q) (hq2 : Bin K r2 q2) {σ : L2.St} {H : Hp} {Q : VK} (w : tP K W (chain3P p q q2 o1 o2 o3 o4) σ H Q) : tChain3 r r' r2 (tA K W o1) (tA K W o2) (tA K W o3) (tA K W o4) σ H Q := by
  obtain ⟨env, IO, Fr, e, w⟩ := tP_run.mp w
  unfold chain3P at w
  refine tA_of e (Run.mono (Stp.refl _ _ _) w.split fun oa e1 H1 ok1 s1 h1 vx ax => ?_)
  refine tA_of ok1 (Run.mono (Stp.refl _ _ _) h1.split fun ob e2 H2 ok2 s2 h2 vy ay => ?_)
  have ax2 := ax.step s2
  cases hx : o1.fin oa e2 with
  | none => rw [hx] at h2; exact h2.elim
  | some x =>
  cases hy : o2.fin ob e2 with
  | none => rw [hx, hy] at h2; exact h2.elim
  | some y =>
  rw [hx, hy] at h2
  simp only [] at h2
  cases hz : p x y with
  | none => rw [hz] at h2; exact h2.elim
  | some z =>
  rw [hz] at h2
  refine hp ok2 (ax2.fin ok2 hx) (ay.fin ok2 hy) hz fun v rv => ?_
  cases z with
  | bl k =>
    cases rv
    refine ⟨k, rfl, ?_⟩
    cases k with
    | false => exact h2 H2 ok2 (Stp.refl _ _ _) _ rfl
    | true =>
      simp only [] at h2
      refine tA_of ok2 (Run.mono (Stp.refl _ _ _) h2.split fun oc e3 H3 ok3 s3 h3 vz az => ?_)
      have ay3 := ay.step s3
      cases hy3 : o2.fin ob e3 with
      | none => rw [hy3] at h3; exact h3.elim
      | some y3 =>
      cases hz3 : o3.fin oc e3 with
      | none => rw [hy3, hz3] at h3; exact h3.elim
      | some z3 =>
      rw [hy3, hz3] at h3
      simp only [] at h3
      cases hq3 : q y3 z3 with
      | none => rw [hq3] at h3; exact h3.elim
      | some g =>
      rw [hq3] at h3
      refine hq ok3 (ay3.fin ok3 hy3) (az.fin ok3 hz3) hq3 fun v rv => ?_
      cases g with
      | bl k =>
        cases rv
        refine ⟨k, rfl, ?_⟩
        cases k with
        | false => exact h3 H3 ok3 (Stp.refl _ _ _) _ rfl
        | true =>
          simp only [] at h3
          refine tA_of ok3 (Run.mono (Stp.refl _ _ _) h3.split fun od e4 H4 ok4 s4 h4 vu au => ?_)
          have az4 := az.step s4
          cases hz4 : o3.fin oc e4 with
          | none => rw [hz4] at h4; exact h4.elim
          | some z4 =>
          cases hu4 : o4.fin od e4 with
          | none => rw [hz4, hu4] at h4; exact h4.elim
          | some u4 =>
          rw [hz4, hu4] at h4
          simp only [] at h4
          cases hq4 : q2 z4 u4 with
          | none => rw [hq4] at h4; exact h4.elim
          | some r3 => rw [hq4] at h4; exact hq2 ok4 (az4.fin ok4 hz4) (au.fin ok4 hu4) hq4 (h4 H4 ok4 (Stp.refl _ _ _))
      | _ => exact h3.elim
  | _ => exact h2.elim
end
section
variable {X : Cx} {W : WX} {a b c d e : Expr} {o1 o2 o3 o4 : PL.A} {x f : Str} {p pos : Pos}
theorem c_tchain3 {op op' op2 : CmpOp} {r r' r2 : R2} {p q q2 : D → D → Option D} (ho : OpR X (compareOp op) r) (ho' : OpR X (compareOp op') r') (ho2 : OpR X (compareOp op2) r2) (hp : Bin X.K r p) (hq : Bin X.K r' q) (hq2 : Bin X.K r2 q2)
    (ha : PE X a (tA X.K W o1)) (hb : PE X b (tA X.K W o2)) (hc : PE X c (tA X.K W o3)) (hd : PE X d (tA X.K W o4)) (hm : lastMarks [op, op', op2] [b, c, d] = false := by with_unfolding_all rfl) :
    PT X (.Compare a [op, op', op2] [b, c, d] pos) (tT X.K W (tst (chain3P p q q2 o1 o2 o3 o4))) :=
  PT.imp (pt_chain3 ho ho' ho2 ha hb hc hd hm) (tst_rd fun _ _ _ w => chain3_rd hp hq hq2 w)
/-- C.f, a number -/
theorem k_cval {i : Int} {C : Str} (hm : X.mg x = some (.ref (He.ga X.K C))) (hv : ClX.CRead X.K (He.ga X.K C) (.type "type") ∧ ∃ t, ClX.CVal X.K (He.ga X.K C) (.type "type") f (.int i) (.int i t)) (hg : Gl X x := by rfl) (hd : (x == ("__debug__" : Str)) = false := by decide)
    (hb : attributeBase (.Name x p) f X.env (eval (.Name x p) X.env) = eval (.Name x p) X.env := by rfl) : PE X (.Attribute (.Name x p) f pos) (tP X.K W (cst (.int i))) :=
  PE.imp (ClX.pe_cval (pe_glob (v := .ref (He.ga X.K C)) hg hm rfl hd) hb) fun σ H Q w => by
    obtain ⟨h1, t, h2⟩ := hv
    obtain ⟨env, IO, Fr, e, w⟩ := tP_run.mp w
    exact ⟨_, _, _, _, rfl, h1, h2, w H e (Stp.refl _ _ _) _ rfl⟩
end
end PL

/-! Pl18: a law's end. -/
namespace PL
open PySem L2 PyProof.Rows
theorem law_sp {K : PySem.W.Frag} {fn : Fn} {H : Hp} {a : Addr} {ns : List Int} {outs : List Sl} (h : fn [.shr (.scr ns)] = .ok (.shr (.bl true)) outs) (hS : SqL K H a (ns.map V.int)) : spF K 1 fn [.ref a] H (fun v _ => v = .bl true) fun _ _ _ => False := by
  have hd : hid H (fun b => b ∈ ([] : List Addr)) = H := by
    funext b
    unfold hid
    simp
  have r : RepL K (hid H (fun b => b ∈ ([] : List Addr))) [.scr ns] [V.ref a] := by
    rw [hd]
    exact ⟨_, [], rfl, ⟨a, rfl, hS⟩, rfl⟩
  obtain ⟨e2, hd2, no⟩ := env_shr (Fr := []) (fun b z => absurd z (by simp)) r
  refine ⟨[.shr (.scr ns)], _, [], rfl, e2, no, ?_⟩
  rw [h]
  intro v H' rs st
  exact rs.2
theorem walk_ofM {l : PySem.W.OpenLaw} {n k i : Nat} {q : Program} {loose : List Str} {XP : (Str → Option Value) → Heap → Prop} {YP : World → Heap → Prop} {d : DefRec} {fa : List Fb} {fn : List He5.DefA} {dl : He5.DefA} {s : Fn}
    (hn : l.most = some n) (hn2 : n ≤ sizeLine) (hdf : d.params.defaults = []) (hr : Room k callerA) (hYP : ∀ w h, YP w h → ∃ K : PySem.W.Frag, K.In h ∧ SaysM fa fn K) (hname : d.name = "law") (hat : ∀ K, dl.at_ K = He.ga K "law")
    (hl : fn[i]? = some dl) (h0 : dl.dfl = []) (h1 : dl.kwd = []) (hg0 : fa[0]? = some (.fa (.glo "law")))
    (hbn : ∀ (kV doc pm : Value) (an : Option Addr) (cdv ct : Value) (us : List Value), us.length = 1 → bindArgs (PySem.W.fnOf dl.name dl.qual dl.params dl.body dl.scope .none kV doc pm an cdv ct) ⟨us, []⟩ = pure ((["script"] : List Str).zip us))
    (F : ∀ (w : World) (K : PySem.W.Frag) (mg : Str → Option Value) (base : Heap), Zf fa fn K mg → Ok l.prog w K mg base k (He.ga K "law") ["script"] s)
    (hs : ∀ ns : List Int, ns.length ≤ n → ∃ outs, s [.shr (.scr ns)] = .ok (.shr (.bl true)) outs) :
    PySem.W.WalkO q loose XP YP l.row.toRowW d [] (fun f vs => PySem.call f vs) := by
  refine Att.attach_call hn hdf fun w s₀ s₁ mg mb fa' o pm cd doc a vs ns G Y ho hd hcd hmg hobj hints hlen hgen => ?_
  obtain ⟨K, KX, hS⟩ := hYP w _ Y
  rw [hname] at hmg
  have Z : Zf fa fn K mg := ⟨hS, _, KX, G.T.g⟩
  have e := hmg.symm.trans (Z.glo 0 hg0)
  cases e
  obtain ⟨fd, FD⟩ := hS.def_ i hl
  have e0 : dl.dvs K = [] := by unfold He5.DefA.dvs; rw [h0]; rfl
  have e1 : dl.kws K = [] := by unfold He5.DefA.kws; rw [h1]; rfl
  rw [e0, e1, hat] at FD
  obtain ⟨oc, od, osl, lk⟩ := lk_of FD
  have bt := FD.bindsA (ps := ["script"]) hbn
  refine law_call (CX := L2.CX l.prog w) (fd := fd) (x := "script") KX G.T.g G.T.b G.T.builtins G.T.nolimit hgen hobj hints (Nat.le_trans hlen hn2) hr (fun base hb hn => ?_) (fun s u => bt s [u] rfl) (fun H hO hSq => law_sp (hs ns hlen).choose_spec hSq) fun H e s' hc => ?_
  · obtain ⟨_, fd', ⟨oc', od', osl', lk'⟩, _, hF⟩ := F w K mg base Z
    rw [lk] at lk'
    cases lk'
    exact hF
  · obtain ⟨_, _, _, _, _, _, _, _, _, _, _, _, z⟩ := hc
    exact z
end PL

/-! Pl19: the combinators as equations, for simp. -/
namespace PL
open PySem L2
section
variable {env : List Sl} {f g : S} {e : E} {p q : P} {t u : T} {i : Nat} {a b c : PL.A} {as : List PL.A}
@[simp] theorem q_seqS : seqS f g env = match f env with | .nx e => g e | r => r := id rfl
@[simp] theorem q_passS : passS env = .nx env := id rfl
@[simp] theorem q_breakS : breakS env = .bk env := id rfl
@[simp] theorem q_contS : contS env = .ct env := id rfl
@[simp] theorem q_setE : setE i e env = match e env with | .ok s e => if setOk e i then .nx (e.set i s) else .bad | .exc x e => .ex x e | .bad => .bad := id rfl
@[simp] theorem q_retE : retE e env = match e env with | .ok s e => .rt s e | .exc x e => .ex x e | .bad => .bad := id rfl
@[simp] theorem q_retV : retV i env = match env[i]? with | some (.shr d) => .rt (.shr d) env | some (.own d) => .rt (.own d) (env.set i .no) | _ => .bad := id rfl
@[simp] theorem q_retN : retN env = .rt (.shr .non) env := id rfl
@[simp] theorem q_dropE : dropE e env = match e env with | .ok _ e => .nx e | .exc x e => .ex x e | .bad => .bad := id rfl
@[simp] theorem q_ifS : ifS t f g env = match t env with | .ok true e => f e | .ok false e => g e | .exc x e => .ex x e | .bad => .bad := id rfl
@[simp] theorem q_tst : tst p env = (p env).bind fun d e => match d with | .bl k => .ok k e | _ => .bad := id rfl
@[simp] theorem q_andT : andT t u env = (t env).bind fun b e => if b then u e else .ok false e := id rfl
@[simp] theorem q_orT : orT t u env = (t env).bind fun b e => if b then .ok true e else u e := id rfl
@[simp] theorem q_notT : notT t env = (t env).bind fun b e => .ok (!b) e := id rfl
@[simp] theorem q_truT : truT a env = (one a env).bind fun d e => opt (tru d) e := id rfl
@[simp] theorem q_andP : andP p q env = (p env).bind fun d e => match d with | .bl true => q e | .bl false => .ok (.bl false) e | _ => .bad := id rfl
@[simp] theorem q_orP : orP p q env = (p env).bind fun d e => match d with | .bl true => .ok (.bl true) e | .bl false => q e | _ => .bad := id rfl
@[simp] theorem q_notP : notP p env = (p env).bind fun d e => match d with | .bl k => .ok (.bl (!k)) e | _ => .bad := id rfl
@[simp] theorem q_ifE {x y : E} : ifE t x y env = (t env).bind fun b e => if b then x e else y e := id rfl
@[simp] theorem q_ifP : ifP t p q env = (t env).bind fun b e => if b then p e else q e := id rfl
@[simp] theorem q_cst {d : D} : cst d env = .ok d env := id rfl
@[simp] theorem q_fz : fz e env = match e env with | .ok (.shr d) e => .ok d e | .ok (.own d) e => .ok d e | .ok _ _ => .bad | .exc x e => .exc x e | .bad => .bad := id rfl
@[simp] theorem q_sh : sh p env = (p env).bind fun d e => .ok (.shr d) e := id rfl
@[simp] theorem q_one : one a env = (a.ev env).bind fun o e => opt (a.fin o e) e := id rfl
@[simp] theorem q_bin {op : D → D → Option D} : bin op a b env = (a.ev env).bind fun oa e1 => (b.ev e1).bind fun ob e2 => match a.fin oa e2, b.fin ob e2 with | some x, some y => opt (op x y) e2 | _, _ => .bad := by
  unfold bin two
  cases a.ev env <;> simp
  rename_i o e
  cases b.ev e <;> simp
  rename_i o2 e2
  cases a.fin o e2 <;> cases b.fin o2 e2 <;> simp
@[simp] theorem q_binE {op : D → D → Option Sl} : binE op a b env = (a.ev env).bind fun oa e1 => (b.ev e1).bind fun ob e2 => match a.fin oa e2, b.fin ob e2 with | some x, some y => opt (op x y) e2 | _, _ => .bad := by
  unfold binE two
  cases a.ev env <;> simp
  rename_i o e
  cases b.ev e <;> simp
  rename_i o2 e2
  cases a.fin o e2 <;> cases b.fin o2 e2 <;> simp
@[simp] theorem q_una {op : D → Option D} : una op a env = (one a env).bind fun x e => opt (op x) e := id rfl
@[simp] theorem q_unaE {op : D → Option Sl} : unaE op a env = (one a env).bind fun x e => opt (op x) e := id rfl
@[simp] theorem q_evn : A.ev (.nm i) env = (opt (pk env i) env).bind fun _ e => .ok none e := id rfl
@[simp] theorem q_evx : A.ev (.ex p) env = (p env).bind fun d e => .ok (some d) e := id rfl
@[simp] theorem q_finn {o : Option D} : A.fin (.nm i) o env = pk env i := id rfl
@[simp] theorem q_finx {o : Option D} : A.fin (.ex p) o env = o := id rfl
@[simp] theorem q_opts {α : Type} {x : α} : opt (some x) env = .ok x env := id rfl
@[simp] theorem q_optn {α : Type} : opt (none : Option α) env = .bad := id rfl
@[simp] theorem q_evs0 : evs [] env = .ok [] env := id rfl
@[simp] theorem q_evsc : evs (a :: as) env = (a.ev env).bind fun o e => (evs as e).bind fun os e' => .ok (o :: os) e' := id rfl
@[simp] theorem q_fins0 {os : List (Option D)} : fins [] os env = some [] := by cases os <;> exact id rfl
@[simp] theorem q_finsc {o : Option D} {os : List (Option D)} : fins (a :: as) (o :: os) env = match a.fin o env, fins as os env with | some d, some ds => some (d :: ds) | _, _ => none := id rfl
@[simp] theorem q_many : many as env = (evs as env).bind fun os e => opt (fins as os e) e := id rfl
@[simp] theorem q_blt {op : List D → Option Sl} : blt op as env = (many as env).bind fun ds e => opt (op ds) e := id rfl
@[simp] theorem q_evP0 : evP [] env = .ok [] env := id rfl
@[simp] theorem q_evPc {ps : List P} : evP (p :: ps) env = (p env).bind fun d e => (evP ps e).bind fun ds e' => .ok (d :: ds) e' := id rfl
@[simp] theorem q_fnOf {m : Nat} {body : S} {args : List Sl} : fnOf m body args = match body (args ++ List.replicate m .no) with | .rt s env => .ok s (outsOf args env) | .nx env => .ok (.shr .non) (outsOf args env) | .ex x env => .exc x (outsOf args env) | _ => .bad := id rfl
@[simp] theorem q_callF {fn : Fn} : callF fn as env = (evs as env).bind fun os e1 => callEnd fn as os e1 := id rfl
@[simp] theorem q_callEnd {fn : Fn} {os : List (Option D)} : callEnd fn as os env = match fins as os env with | none => .bad | some ds => (match fn (ds.map .shr) with
    | .ok s _ => (match keepOr (nmS s) (names as) env with | some e2 => .ok s e2 | none => .bad)
    | .exc x _ => (match keepOr (nms x.xs) (names as) env with | some e2 => .exc x e2 | none => .bad)
    | .bad => .bad) := id rfl
@[simp] theorem q_forS {it : I} {tg : Tg} {body : S} : forS it tg body env = match it env with | .ok ds e => loopS tg body ds e | .exc x e => .ex x e | .bad => .bad := id rfl
@[simp] theorem q_rngI {op : List D → Option (List D)} : rngI op as env = (many as env).bind fun ds e => opt (op ds) e := id rfl
@[simp] theorem q_outs0 : outsOf [] env = [] := by cases env <;> exact id rfl
@[simp] theorem q_outsI {d : D} {x : Sl} {as env : List Sl} : outsOf (.io d :: as) (x :: env) = x :: outsOf as env := id rfl
@[simp] theorem q_outsS {d : D} {x : Sl} {as env : List Sl} : outsOf (.shr d :: as) (x :: env) = .no :: outsOf as env := id rfl
@[simp] theorem q_Res_exc {α β : Type} {x : Exn} {k : α → List Sl → Res β} : (Res.exc x env : Res α).bind k = .exc x env := id rfl
@[simp] theorem q_Res_bad {α β : Type} {k : α → List Sl → Res β} : (Res.bad : Res α).bind k = .bad := id rfl
end
/-! ### more of them -/
@[simp] theorem q_vr {i : Nat} {env : List Sl} : vr i env = (match env[i]? with
  | some (.shr d) => .ok d env
  | some (.own d) => .ok d (env.set i (.shr d))
  | _ => .bad) := id rfl
@[simp] theorem q_lstP {fs : List P} {env : List Sl} : lstP fs env = ((evP fs env).bind fun ds e => opt (lstL ds) e) := id rfl
@[simp] theorem q_tupP {fs : List P} {env : List Sl} : tupP fs env = ((evP fs env).bind fun ds e => opt (if ds.length ≤ 16777216 then some (.tup ds) else none) e) := id rfl
@[simp] theorem q_chainP {p q : D → D → Option D}{a b c : PL.A} {env : List Sl} : chainP p q a b c env = ((a.ev env).bind fun oa e1 => (b.ev e1).bind fun ob e2 => match a.fin oa e2, b.fin ob e2 with
  | some x, some y => (match p x y with
    | some (.bl true) => (c.ev e2).bind fun oc e3 => (match b.fin ob e3, c.fin oc e3 with
      | some y', some z => opt (q y' z) e3
      | _, _ => .bad)
    | some (.bl false) => .ok (.bl false) e2
    | _ => .bad)
  | _, _ => .bad) := id rfl
@[simp] theorem q_chain3P {p q r : D → D → Option D}{a b c d : PL.A} {env : List Sl} : chain3P p q r a b c d env = ((a.ev env).bind fun oa e1 => (b.ev e1).bind fun ob e2 => match a.fin oa e2, b.fin ob e2 with
  | some x, some y => (match p x y with
    | some (.bl true) => (c.ev e2).bind fun oc e3 => (match b.fin ob e3, c.fin oc e3 with
      | some y', some z => (match q y' z with
        | some (.bl true) => (d.ev e3).bind fun od e4 => (match c.fin oc e4, d.fin od e4 with
          | some z', some u => opt (r z' u) e4
          | _, _ => .bad)
        | some (.bl false) => .ok (.bl false) e3
        | _ => .bad)
      | _, _ => .bad)
    | some (.bl false) => .ok (.bl false) e2
    | _ => .bad)
  | _, _ => .bad) := id rfl
@[simp] theorem q_callIO {i0 : Nat}{fn : Fn}{as : List PL.A} {env : List Sl} : callIO i0 fn as env = (if (pk env i0).isNone then .bad else (evs as env).bind fun os e1 => match fins as os e1, ownOf e1 i0 with
  | some ds, some d0 => if i0 ∈ names as then .bad else (match fn (.io d0 :: ds.map .shr) with
    | .ok s (.io d' :: _) => (match keepOr (flatS s && flatO d') (names as) e1 with
      | some e2 => .ok s (setD e2 i0 d')
      | none => .bad)
    | .exc x (.io d' :: _) => (match keepOr (x.xs.all flat && flatO d') (names as) e1 with
      | some e2 => .exc x (setD e2 i0 d')
      | none => .bad)
    | _ => .bad)
  | _, _ => .bad) := id rfl
@[simp] theorem q_mkE {c : Str}{fn : Fn}{as : List PL.A} {env : List Sl} : mkE c fn as env = ((evs as env).bind fun os e1 => match fins as os e1 with
  | none => .bad
  | some ds => match fn (.io (.ins c [] []) :: ds.map .shr) with
    | .ok (.shr .non) (.io d' :: _) => (match keepOr (nmO d') (names as) e1 with
      | some e2 => .ok (.own d') e2
      | none => .bad)
    | .exc x _ => (match keepOr (nms x.xs) (names as) e1 with
      | some e2 => .exc x e2
      | none => .bad)
    | _ => .bad) := id rfl
@[simp] theorem q_methF {c m : Str}{fn : Fn}{a : PL.A}{as : List PL.A} {env : List Sl} : methF c m fn a as env = ((a.ev env).bind fun oa e1 => if rcvOk c m (a.fin oa e1) then (evs as e1).bind fun os e2 => callEnd fn (a :: as) (oa :: os) e2 else .bad) := id rfl
@[simp] theorem q_propF {c : Str}{fn : Fn}{a : PL.A} {env : List Sl} : propF c fn a env = ((a.ev env).bind fun oa e1 => if rcvOk c Str.empty (a.fin oa e1) then (match callEnd fn [a] [oa] e1 with
  | .ok s e2 => .ok s e2
  | _ => .bad) else .bad) := id rfl
@[simp] theorem q_mtS {op : List D → List D → Option (List D)}{i : Nat}{fs : List P} {env : List Sl} : mtS op i fs env = (if (ownLst env i).isNone then .bad else match evP fs env with
  | .ok args e1 => (match ownLst e1 i with
    | some ds => (match op ds args with
      | some ds' => .nx (setD e1 i (.lst ds'))
      | none => .bad)
    | none => .bad)
  | .exc x e => .ex x e
  | .bad => .bad) := id rfl
@[simp] theorem q_putS {op : Nat → D → D → List Sl → Option (List Sl)}{i : Nat}{fi fv : P} {env : List Sl} : putS op i fi fv env = (match fv env with
  | .ok d e1 => if (pk e1 i).isNone then .bad else (match fi e1 with
    | .ok k e2 => (match op i k d e2 with
      | some e3 => .nx e3
      | none => .bad)
    | .exc x e => .ex x e
    | .bad => .bad)
  | .exc x e => .ex x e
  | .bad => .bad) := id rfl
@[simp] theorem q_attS {c f : Str}{i : Nat}{fv : P} {env : List Sl} : attS c f i fv env = (match fv env with
  | .ok d e1 => (match ownOf e1 i with
    | some (.ins c' ns ds) => if c' = c ∧ ns.length < 1000 then .nx (setD e1 i (.ins c (putN f d ns ds).1 (putN f d ns ds).2)) else .bad
    | _ => .bad)
  | .exc x e => .ex x e
  | .bad => .bad) := id rfl
@[simp] theorem q_augS {op : D → D → Option D}{i : Nat}{f : P} {env : List Sl} : augS op i f env = (match env[i]? with
  | some (.shr x) => (match f env with
    | .ok y e1 => (match op x y with
      | some z => if setOk e1 i then .nx (e1.set i (.shr z)) else .bad
      | none => .bad)
    | .exc x e => .ex x e
    | .bad => .bad)
  | _ => .bad) := id rfl
@[simp] theorem q_raiseS {c : Str} {env : List Sl} : raiseS c env = (.ex ⟨c, [], []⟩ env) := id rfl
@[simp] theorem q_dnewE  {env : List Sl} : dnewE  env = (.ok (.own (.dic [] [])) env) := id rfl
@[simp] theorem q_get2P {a b c : PL.A} {env : List Sl} : get2P a b c env = ((a.ev env).bind fun oa e1 => if isDic (a.fin oa e1) then (b.ev e1).bind fun ob e2 => (c.ev e2).bind fun oc e3 => (match a.fin oa e3, b.fin ob e3, c.fin oc e3 with
  | some x, some y, some z => (match dgetO x y with
    | some (some d) => .ok d e3
    | some none => if flat z then .ok z e3 else .bad
    | none => .bad)
  | _, _, _ => .bad) else .bad) := id rfl
@[simp] theorem q_lcE {it : I}{tg : Tg}{vs : List Nat}{test : T}{elt : P} {env : List Sl} : lcE it tg vs test elt env = (match it env with
  | .ok ds e1 => if wipeOk e1 vs ∧ (tgV tg).all (fun i => vs.contains i) then (match lcL tg vs test elt ds 0 (wipeE e1 vs) with
    | .ok ys e2 => .ok (.own (.lst ys)) (backE e2 e1 vs)
    | _ => .bad) else .bad
  | .exc x e => .exc x e
  | .bad => .bad) := id rfl
@[simp] theorem q_yesT  {env : List Sl} : yesT  env = (.ok true env) := id rfl
@[simp] theorem q_seqI {f : P} {env : List Sl} : seqI f env = ((f env).bind fun d e => match d with
  | .lst ds => .ok ds e
  | .tup ds => .ok ds e
  | _ => .bad) := id rfl
@[simp] theorem q_ownI {c fl : Str}{f : P} {env : List Sl} : ownI c fl f env = ((f env).bind fun d e => match d with
  | .ins c' ns ds => if c' = c then (match (ns.zip ds).lookup fl with
    | some (.tup xs) => .ok xs e
    | _ => .bad) else .bad
  | _ => .bad) := id rfl
@[simp] theorem q_unpS {tg : Tg}{f : P} {env : List Sl} : unpS tg f env = (match f env with
  | .ok d e => (match tgS tg d e with
    | some e' => .nx e'
    | none => .bad)
  | .exc x e => .ex x e
  | .bad => .bad) := id rfl
@[simp] theorem q_slE {a : PL.A}{lo hi : Option P} {env : List Sl} : slE a lo hi env = ((a.ev env).bind fun oa e1 => (opA lo e1).bind fun l e2 => (opA hi e2).bind fun u e3 => opt ((a.fin oa e3).bind fun x => slL x l u) e3) := id rfl
@[simp] theorem q_revE {a : PL.A} {env : List Sl} : revE a env = ((unaE revL a) env) := id rfl
@[simp] theorem q_nmS1 {d : D} : nmS (.shr d) = nm d := id rfl
@[simp] theorem q_nmS2 {d : D} : nmS (.own d) = nmO d := id rfl
@[simp] theorem q_nmO1 {ds : List D} : nmO (.lst ds) = nms ds := id rfl
@[simp] theorem q_nmO2 {c : Str} {ns : List Str} {ds : List D} : nmO (.ins c ns ds) = nms ds := id rfl
@[simp] theorem q_nmO3 {ks : List Key} {ds : List D} : nmO (.dic ks ds) = nms ds := id rfl
@[simp] theorem q_nm1 {i : Int} : nm (.int i) = true := by simp [nm]
@[simp] theorem q_nm2 {i : Str} : nm (.str i) = true := by simp [nm]
@[simp] theorem q_nm3 {i : Bool} : nm (.bl i) = true := by simp [nm]
@[simp] theorem q_nm4 : nm .non = true := by simp [nm]
@[simp] theorem q_nm5 {ds : List D} : nm (.tup ds) = nms ds := by simp [nm]
@[simp] theorem q_nm6 {ds : List D} : nm (.lst ds) = false := by simp [nm]
@[simp] theorem q_nm7 {c : Str} {ns : List Str} {ds : List D} : nm (.ins c ns ds) = false := by simp [nm]
@[simp] theorem q_nm8 {ks : List Key} {ds : List D} : nm (.dic ks ds) = false := by simp [nm]
@[simp] theorem q_nms0 : nms [] = true := by simp [nms]
@[simp] theorem q_nmsc {d : D} {ds : List D} : nms (d :: ds) = (nm d && nms ds) := by simp [nms]
end PL

/-! Pl20: C.m(..) of a staticmethod, own operators, own ==. -/
namespace PL
open PySem L2 PyProof.Rows

/-! ### a staticmethod -/
structure StM (K : PySem.W.Frag) (c m : Str) (f : Addr) : Prop where
  rd : ClX.CRead K (He.ga K c) (.type "type")
  at_ : ∃ p, PySem.W.findCls K (.ref (He.ga K c)) (.type "type") m = some (.get (.builtin "staticmethod.__get__") (.ref p) .none (.ref (He.ga K c))) ∧ ∃ rest, PySem.W.recIn K p "staticmethod" = some (.ref f :: rest)
theorem stm_ok {K : PySem.W.Frag} {c m : Str} (h : (Fb.sta c m).ok K = true) (hr : (Fb.red c).ok K = true) : StM K c m (sga K c m) := by
  obtain ⟨h1, h2⟩ := He.ba h
  obtain ⟨g1, rest, g2⟩ := He5.wrapB_ok h1
  exact ⟨cread_ok hr, _, g1, rest, g2⟩
section
variable {fa : List Fb} {fn : List He5.DefA} {K : PySem.W.Frag} {mg : Str → Option Value} (Z : Zf fa fn K mg)
include Z
theorem Zf.sta (i j : Nat) {x m : Str} (h : fa[i]? = some (.sta x m) := by rfl) (h2 : fa[j]? = some (.red x) := by rfl) : StM K x m (sga K x m) := stm_ok (Z.1.fact i h) (Z.1.fact j h2)
end
section
variable {X : Cx} {pins : List (Addr × Obj)} {σ : L2.St} {H : Hp} {s : Shared} {A : Around} {E : Value → Shared → Prop} {c m : Str} {f : Addr}
theorem getstat_ok {b : Bool} {Q : Value → Shared → Prop} (I : Inv X pins σ H s) (S : StM X.K c m f) (h : ∀ s', Inv X pins σ H s' → Q (.ref f) s') : wpAny (model X.prog X.w) A (getAttr (.ref (He.ga X.K c)) m b) Q E s := by
  obtain ⟨p, h1, rest, h2⟩ := S.at_
  refine PySem.W.cls_bind I.kIn S.rd.rd h1 ?_
  exact wpAny_call (PySem.W.sm_get (s := { s with toks := s.toks + 1 }) I.kIn h2 (PySem.W.handed_on rfl (h _ (I.tok _))))
end
section
variable {X : Cx} {W : WX} {k : Nat} {f : Addr} {ps : List Str} {fn : Fn} {x m c : Str} {p pos apos : Pos} {e : Expr} {es : List Expr} {as : List PL.A}
theorem k_stat {pl : Sem Bool} (tk : Takes X W) (hm : X.mg x = some (.ref (He.ga X.K c))) (S : StM X.K c m f) (F : Ok X.prog X.w X.K X.mg X.base k f ps fn) (hr : Room k X.A) (ha : PA X (e :: es) (tAs X.K W as))
    (hn : as.length = ps.length := by rfl) (hg : Gl X x := by rfl) (hd : (x == ("__debug__" : Str)) = false := by decide) (hst : starEach (e :: es) X.env = (false, eval e X.env) :: starEach es X.env := by rfl) (hpl : (backTo pos (starEach es X.env)).any (·.1) = false := by rfl)
    (ht : eval (.Call (.Attribute (.Name x p) m apos) (e :: es) [] pos) X.env = (do
      let ov ← eval (.Name x p) X.env
      standAt apos.atName
      let (f, first) ← holding [ov] (getMethod ov m pl)
      callWith pos f first (backTo pos (starEach (e :: es) X.env)) (backToKw pos (keywordEach [] X.env))) := by rfl) :
    PE X (.Call (.Attribute (.Name x p) m apos) (e :: es) [] pos) (tE X.K W (callF fn as)) := by
  obtain ⟨hk, fd, _, hb, G⟩ := F
  refine ⟨fun pins s σ H Q I h => ?_⟩
  refine PySem.W.methodCall_KW (pl := pl) (thn ((pe_glob (v := .ref (He.ga X.K c)) (pos := p) hg hm rfl hd).run pins s σ H (fun v H1 => v = .ref (He.ga X.K c) ∧ H1 = H) I ⟨rfl, rfl⟩) fun u s1 ⟨v, H1, I1, rx, ev, eH⟩ => ?_) ht
  subst ev eH
  obtain rfl : u = Value.ref (He.ga X.K c) := rx
  refine PySem.W.method_cls I1.kIn S.rd.ga (getstat_ok I1 S fun s2 I2 => ?_)
  refine PySem.W.callWith_K (first := []) (h₀ := X.base) I.ok.mod.kin hk (thn (ha.run pos pins s2 σ H1 _ I2 (call_rd h)) fun us s3 ⟨vs, H2, I3, r, q2⟩ => ⟨I3.kIn, ?_⟩) hst hpl
  exact run_fnS (us := us) (vs := vs) (E := WE W) G hr hb (passAt tk σ) I3 r (by rw [hn] at q2; exact q2)
theorem k_stat0 {pl : Sem Bool} (tk : Takes X W) (hm : X.mg x = some (.ref (He.ga X.K c))) (S : StM X.K c m f) (F : Ok X.prog X.w X.K X.mg X.base k f ps fn) (hr : Room k X.A)
    (hn : ps.length = 0 := by rfl) (hg : Gl X x := by rfl) (hd : (x == ("__debug__" : Str)) = false := by decide)
    (ht : eval (.Call (.Attribute (.Name x p) m apos) [] [] pos) X.env = (do
      let ov ← eval (.Name x p) X.env
      standAt apos.atName
      let (f, first) ← holding [ov] (getMethod ov m pl)
      callWith pos f first (backTo pos (starEach [] X.env)) (backToKw pos (keywordEach [] X.env))) := by rfl) :
    PE X (.Call (.Attribute (.Name x p) m apos) [] [] pos) (tE X.K W (callF fn [])) := by
  obtain ⟨hk, fd, _, hb, G⟩ := F
  refine ⟨fun pins s σ H Q I h => ?_⟩
  refine PySem.W.methodCall_KW (pl := pl) (thn ((pe_glob (v := .ref (He.ga X.K c)) (pos := p) hg hm rfl hd).run pins s σ H (fun v H1 => v = .ref (He.ga X.K c) ∧ H1 = H) I ⟨rfl, rfl⟩) fun u s1 ⟨v, H1, I1, rx, ev, eH⟩ => ?_) ht
  subst ev eH
  obtain rfl : u = Value.ref (He.ga X.K c) := rx
  refine PySem.W.method_cls I1.kIn S.rd.ga (getstat_ok I1 S fun s2 I2 => ?_)
  have h' : spF X.K 0 fn [] H1 Q (WE W σ) := call_rd (as := []) h
  rw [← hn] at h'
  exact PySem.W.callWith_K0 (first := []) I2.kIn hk (run_fnS (us := []) (vs := []) (E := WE W) G hr hb (passAt tk σ) I2 .nil h')
end

/-! ### own operators -/
def isIns (c : Str) : Option D → Bool
  | some (.ins c' _ _) => decide (c' = c)
  | _ => false
/-- a op b by an own method of the class c, both of that class -/
def opF (c : Str) (fn : Fn) (a b : PL.A) : E := fun env => (a.ev env).bind fun oa e1 => (b.ev e1).bind fun ob e2 => if isIns c (a.fin oa e2) && isIns c (b.fin ob e2) then callEnd fn [a, b] [oa, ob] e2 else .bad
@[simp] theorem q_opF {c : Str} {fn : Fn} {a b : PL.A} {env : List Sl} : opF c fn a b env = ((a.ev env).bind fun oa e1 => (b.ev e1).bind fun ob e2 => if isIns c (a.fin oa e2) && isIns c (b.fin ob e2) then callEnd fn [a, b] [oa, ob] e2 else .bad) := id rfl
theorem op_rd {K : PySem.W.Frag} {W : WX} {c : Str} {fn : Fn} {a b : PL.A} {σ : L2.St} {H : Hp} {Q : VK} (w : tE K W (opF c fn a b) σ H Q) :
    tA K W a σ H fun x H1 => tA K W b σ H1 fun y H2 => ∃ p q dx dy fs gs, x = .ref p ∧ y = .ref q ∧ H2 p = some (.ins (He.ga K c) dx fs) ∧ H2 q = some (.ins (He.ga K c) dy gs) ∧ spF K 2 fn [x, y] H2 Q fun c a H' => W c a σ H' := by
  obtain ⟨env, IO, Fr, e, w⟩ := tE_run.mp w
  refine tA_of e (Run.mono (Stp.refl _ _ _) w.split fun oa e1 H1 ok1 s1 h1 v av => ?_)
  refine tA_of ok1 (Run.mono (Stp.refl _ _ _) h1.split fun ob e2 H2 ok2 s2 h2 u au => ?_)
  have av2 := av.step s2
  by_cases hc : (isIns c (a.fin oa e2) && isIns c (b.fin ob e2)) = true
  · rw [if_pos hc] at h2
    simp only [Bool.and_eq_true] at hc
    cases hf : a.fin oa e2 with
    | none => rw [hf] at hc; simp [isIns] at hc
    | some d =>
      cases hg : b.fin ob e2 with
      | none => rw [hg] at hc; simp [isIns] at hc
      | some d' =>
        rw [hf, hg] at hc
        cases d with
        | ins c1 ns1 ds1 =>
          cases d' with
          | ins c2 ns2 ds2 =>
            simp only [isIns, decide_eq_true_eq] at hc
            obtain ⟨rfl, rfl⟩ := hc
            obtain ⟨p, dx, vs, rfl, g1, _⟩ := (av2.fin ok2 hf).ins
            obtain ⟨q, dy, ws, rfl, k1, _⟩ := (au.fin ok2 hg).ins
            exact ⟨p, q, dx, dy, _, _, rfl, rfl, g1, k1, callEnd_rd (as := [a, b]) (os := [oa, ob]) ok2 ⟨oa, [ob], _, [V.ref q], rfl, rfl, av2, ob, [], _, [], rfl, rfl, au, rfl, rfl⟩ h2⟩
          | _ => simp [isIns] at hc
        | _ => simp [isIns] at hc
  · rw [if_neg hc] at h2; exact h2.elim
theorem ep_back {X : Cx} {pins : List (Addr × Obj)} {σ : L2.St} {Q : VK} {u : Value} {s : Shared} (h : EP X pins σ Q u s) : PySem.W.CmpBack (EP X pins σ Q) u s := by
  obtain ⟨v, H', I, r, q⟩ := h
  cases u with
  | notImplemented => cases v <;> first | (exact absurd r (by simp [RelV])) | (obtain ⟨t, z⟩ := (show ∃ t, _ = _ from r); exact Value.noConfusion z) | (exact Value.noConfusion r)
  | _ => exact ⟨v, H', I, r, q⟩
section
variable {X : Cx} {W : WX} {k : Nat} {f : Addr} {ps : List Str} {fn : Fn} {c : Str} {pos : Pos} {a b : Expr} {o1 o2 : PL.A}
theorem k_binop {op : Operator} (tk : Takes X W) (hf : PySem.W.findIn X.K (.ref (He.ga X.K c)) (PySem.dunder op.info.2) = some (some (.ref f)) ∧ PySem.W.isFn X.K (.ref f) = true) (hsf : PySem.W.selfFirst X.K (He.ga X.K c) = true) (F : Ok X.prog X.w X.K X.mg X.base k f ps fn) (hr : Room k X.A)
    (ha : PE X a (tA X.K W o1)) (hb : PE X b (tA X.K W o2)) (hn : ps.length = 2 := by rfl) : PE X (.BinOp a op b pos) (tE X.K W (opF c fn o1 o2)) := by
  obtain ⟨hk, fd, _, hbn, G⟩ := F
  refine ⟨fun pins s σ H Q I h => ?_⟩
  refine wpAny_BinOp (thn (ha.run pins s σ H _ I (op_rd h)) fun v s1 ⟨x, H1, I1, r1, q1⟩ => thn (hb.run pins s1 σ H1 _ I1 q1) fun u s2 ⟨y, H2, I2, r2, q2⟩ => ?_)
  obtain ⟨p, q, dx, dy, fs, gs, rfl, rfl, g1, g2, sp⟩ := q2
  obtain rfl : v = Value.ref p := r1
  obtain rfl : u = Value.ref q := r2
  obtain ⟨mA, J, _⟩ := ins_get I2.hok g1
  obtain ⟨mB, J', _⟩ := ins_get I2.hok g2
  obtain ⟨od, J, _⟩ := J.look
  obtain ⟨od', J', _⟩ := J'.look
  obtain ⟨m, hF⟩ := I2.fr
  refine PySem.W.binop_K hF I2.ok.mod.kin J J'.type hsf hf.1 hf.2 ?_
  rw [← hn] at sp
  exact thn (run_fnS (us := [.ref p, .ref q]) (vs := [.ref p, .ref q]) (E := WE W) G hr hbn (passAt tk σ) I2 (.cons rfl (.cons rfl .nil)) sp) fun _ _ h => ep_back h
/-- a == b, both of one class with an own == -/
theorem k_eqown (tk : Takes X W) (hu : X.A.units + 64 < cLine) (hm : Meth X.K (He.ga X.K c) "__eq__" f) (F : Ok X.prog X.w X.K X.mg X.base k f ps fn) (hr : Room k X.A)
    (ha : PE X a (tA X.K W o1)) (hb : PE X b (tA X.K W o2)) (hn : ps.length = 2 := by rfl) : PE X (.Compare a [.Eq] [b] pos) (tE X.K W (opF c fn o1 o2)) := by
  obtain ⟨hk, fd, _, hbn, G⟩ := F
  refine ⟨fun pins s σ H Q I h => ?_⟩
  refine wpAny_Compare1 (thn (ha.run pins s σ H _ I (op_rd h)) fun v s1 ⟨x, H1, I1, r1, q1⟩ => thn (hb.run pins s1 σ H1 _ I1 q1) fun u s2 ⟨y, H2, I2, r2, q2⟩ => ?_) (nomark _)
  obtain ⟨p, q, dx, dy, fs, gs, rfl, rfl, g1, g2, sp⟩ := q2
  obtain rfl : v = Value.ref p := r1
  obtain rfl : u = Value.ref q := r2
  obtain ⟨mA, J, _⟩ := ins_get I2.hok g1
  obtain ⟨mB, J', _⟩ := ins_get I2.hok g2
  obtain ⟨od, J, _⟩ := J.look
  obtain ⟨od', J', _⟩ := J'.look
  obtain ⟨m, hF⟩ := I2.fr
  show wpAny _ _ (richCompare .Eq (.ref p) (.ref q)) _ _ _
  refine PySem.W.cmp_K (op := .Eq) (tb := .ref (He.ga X.K c)) (by omega) hF I2.ok.mod.kin J J'.type (by simp [PySem.W.notFirst]) hm.at_ hm.fn ?_
  rw [← hn] at sp
  exact thn (run_fnS (us := [.ref p, .ref q]) (vs := [.ref p, .ref q]) (E := WE W) G hr hbn (passAt tk σ) I2 (.cons rfl (.cons rfl .nil)) sp) fun _ _ h => ep_back h
/-- .. as a test -/
def tstE (f : E) : T := fun env => match f env with
  | .ok (.shr (.bl k)) e => .ok k e
  | .ok _ _ => .bad
  | .exc x e => .exc x e
  | .bad => .bad
@[simp] theorem q_tstE {f : E} {env : List Sl} : tstE f env = (match f env with
  | .ok (.shr (.bl k)) e => .ok k e
  | .ok _ _ => .bad
  | .exc x e => .exc x e
  | .bad => .bad) := id rfl
end
end PL

/-! Pl21: try with one clause 'except X as e', whose suite sets names by what e is. -/
namespace PL
open PySem L2 PyProof.Rows

/-- what the suite asks: constants, e's kin, names of bools -/
inductive HE where
  | cst (d : D) | isi (c : Str) | isv (t : String) | neg (h : HE) | both (h g : HE) | var (j : Nat)
def hev (tab : Str → Str → Bool) (x : Exn) (env : List Sl) : HE → Option D
  | .cst d => if flat d then some d else none
  | .isi c => some (.bl (tab x.c c))
  | .isv t => some (.bl (tab x.c ⟨(Str.ofString t).cps⟩))
  | .neg h => match hev tab x env h with
    | some (.bl b) => some (.bl (!b))
    | _ => none
  | .both h g => match hev tab x env h with
    | some (.bl true) => (match hev tab x env g with
      | some (.bl b) => some (.bl b)
      | _ => none)
    | some (.bl false) => some (.bl false)
    | _ => none
  | .var j => match env[j]? with
    | some (.shr (.bl b)) => some (.bl b)
    | _ => none
def suS (tab : Str → Str → Bool) (x : Exn) (i : Nat) : List (Nat × HE) → List Sl → Option (List Sl)
  | [], env => some env
  | (j, h) :: l, env => match hev tab x env h with
    | some z => if setOk env j = true ∧ j ≠ i then suS tab x i l (env.set j (.shr z)) else none
    | none => none
/-- try: body; except (a class that lets in the classes cs) as e: the suite l -/
def tryS (tab : Str → Str → Bool) (cs ds : List Str) (i : Nat) (body : S) (l : List (Nat × HE)) : S := fun env => match body env with
  | .ex x env' => if cs.contains x.c then (if x.ns.isEmpty && x.xs.isEmpty && setOk env' i then (match env'[i]? with
      | some (.own _) => .bad
      | _ => (match suS tab x i l (env'.set i .no) with
        | some e => .nx e
        | none => .bad)) else .bad) else if ds.contains x.c then .ex x env' else .bad
  | r => r
@[simp] theorem q_tryS {tab : Str → Str → Bool} {cs ds : List Str} {i : Nat} {body : S} {l : List (Nat × HE)} {env : List Sl} : tryS tab cs ds i body l env = (match body env with
  | .ex x env' => if cs.contains x.c then (if x.ns.isEmpty && x.xs.isEmpty && setOk env' i then (match env'[i]? with
      | some (.own _) => .bad
      | _ => (match suS tab x i l (env'.set i .no) with
        | some e => .nx e
        | none => .bad)) else .bad) else if ds.contains x.c then .ex x env' else .bad
  | r => r) := id rfl

/-- the reading of what the suite asks: nothing changes -/
def tH (K : PySem.W.Frag) (tab : Str → Str → Bool) (x : Exn) (i : Nat) (a : Addr) (h : HE) : TE := fun σ H Q => ∃ env IO Fr, EnvOk K env IO Fr σ H ∧ env[i]? = some .no ∧ σ[i]? = some (some (.ref a)) ∧ ∃ z, hev tab x env h = some z ∧ ∀ v, (∀ H', Rep K H' z v) → Q v H
theorem hev_flat {tab : Str → Str → Bool} {x : Exn} {env : List Sl} : ∀ {h : HE} {z : D}, hev tab x env h = some z → flat z = true
  | .cst d, z, h => by
    unfold hev at h
    split at h
    · rename_i hd; cases h; exact hd
    · cases h
  | .isi c, z, h => by cases h; rfl
  | .isv c, z, h => by cases h; rfl
  | .neg g, z, h => by
    unfold hev at h
    split at h
    · cases h; rfl
    · cases h
  | .both g g', z, h => by
    unfold hev at h
    split at h
    · split at h
      · cases h; rfl
      · cases h
    · cases h; rfl
    · cases h
  | .var j, z, h => by
    unfold hev at h
    split at h
    · cases h; rfl
    · cases h
/-- facts of a raised class, for isinstance -/
structure ExI (K : PySem.W.Frag) (tab : Str → Str → Bool) (c : Str) (own : List Str) (vt : List String) : Prop where
  ex : ExcC K (He.ga K c)
  own_ : ∀ d ∈ own, PySem.W.kitOne K (.ref (He.ga K c)) (.ref (He.ga K d)) = some (tab c d)
  ty_ : ∀ t ∈ vt, PySem.W.kitOne K (.ref (He.ga K c)) (.type t) = some (tab c ⟨(Str.ofString t).cps⟩)
section
variable {X : Cx} {a : Addr} {oe : Obj} {pn : List (Addr × Obj)} {x : Exn} {tab : Str → Str → Bool} {i : Nat} {own : List Str} {vt : List String}
theorem h_cst {e : Expr} {d : D} {v : V} (h : PE (X.suite a ((a, oe) :: pn)) e (tC v)) (r : ∀ H, Rep X.K H d v) : PE (X.suite a ((a, oe) :: pn)) e (tH X.K tab x i a (.cst d)) :=
  PE.imp h fun σ H Q w => by
    obtain ⟨env, IO, Fr, ok, h1, h2, z, hz, k⟩ := w
    unfold hev at hz
    split at hz
    · cases hz
      exact k v r
    · cases hz
theorem h_var {j : Nat} {y : Str} {p : Pos} (hN : X.N[j]? = some y := by rfl) (hv : Vis X.env.scope y := by first | exact Or.inl rfl | exact Or.inr (Or.inl rfl) | exact Or.inr (Or.inr rfl)) (hd : (y == ("__debug__" : Str)) = false := by decide)
    (hcd : (y == ("__classdict__" : Str)) = false := by decide) : PE (X.suite a ((a, oe) :: pn)) (.Name y p) (tH X.K tab x i a (.var j)) :=
  PE.imp (pe_var (X := X.suite a ((a, oe) :: pn)) hN hv hd hcd) fun σ H Q w => by
    obtain ⟨env, IO, Fr, ok, h1, h2, z, hz, k⟩ := w
    unfold hev at hz
    split at hz
    · rename_i b hb
      cases hz
      obtain ⟨v, g1, g2⟩ := ok.shr j _ hb
      cases g2
      exact ⟨_, g1, k _ fun _ => rfl⟩
    · cases hz
theorem h_isi {C : Str} {n : Str} {p q r pos : Pos} (F : ExI X.K tab x.c own vt) (hz : Zc (.ref (He.ga X.K x.c)) none oe) (hf : ∃ vs, oe.data = .fields vs) (ho : C ∈ own) (hm : X.mg "isinstance" = none) (hC : X.mg C = some (.ref (He.ga X.K C)))
    (hN : X.N[i]? = some n := by rfl) (hv : Vis X.env.scope n := by first | exact Or.inl rfl | exact Or.inr (Or.inl rfl) | exact Or.inr (Or.inr rfl)) (hd : (n == ("__debug__" : Str)) = false := by decide) (hcd : (n == ("__classdict__" : Str)) = false := by decide)
    (hg : Gl X "isinstance" := by rfl) (hgx : Gl X C := by rfl) (hdC : (C == ("__debug__" : Str)) = false := by decide)
    (h1 : starEach [.Name n q, .Name C r] X.env = (false, eval (.Name n q) X.env) :: starEach [.Name C r] X.env := by rfl) (h2 : starEach [.Name C r] X.env = (false, eval (.Name C r) X.env) :: starEach [] X.env := by rfl) (hpl : (backTo pos (starEach [.Name C r] X.env)).any (·.1) = false := by rfl) :
    PE (X.suite a ((a, oe) :: pn)) (.Call (.Name "isinstance" p) [.Name n q, .Name C r] [] pos) (tH X.K tab x i a (.isi C)) :=
  PE.imp (pe_callB (X := X.suite a ((a, oe) :: pn)) (call_isE F.ex hz hf) hg hm boot_isinstance (pa_cons (pe_var (X := X.suite a ((a, oe) :: pn)) hN hv hd hcd) (pa_cons (pe_glob (X := X.suite a ((a, oe) :: pn)) (v := .ref (He.ga X.K C)) hgx hC rfl hdC) pa_nil h2) h1) (by decide) (by decide) h1 hpl) fun σ H Q w => by
    obtain ⟨env, IO, Fr, ok, e1, e2, z, hz', k⟩ := w
    cases hz'
    exact ⟨_, e2, .ref (He.ga X.K C), .ref (He.ga X.K C), tab x.c C, rfl, fun u ru => ru, F.own_ C ho, k _ fun _ => rfl⟩
theorem h_isv {t : String} {ty : Str} {n : Str} {p q r pos : Pos} (F : ExI X.K tab x.c own vt) (hz : Zc (.ref (He.ga X.K x.c)) none oe) (hf : ∃ vs, oe.data = .fields vs) (ho : t ∈ vt) (hm : X.mg "isinstance" = none) (hC : X.mg ty = none) (hty : bootBuiltins ty = some (.type t))
    (hN : X.N[i]? = some n := by rfl) (hv : Vis X.env.scope n := by first | exact Or.inl rfl | exact Or.inr (Or.inl rfl) | exact Or.inr (Or.inr rfl)) (hd : (n == ("__debug__" : Str)) = false := by decide) (hcd : (n == ("__classdict__" : Str)) = false := by decide)
    (hg : Gl X "isinstance" := by rfl) (hgx : Gl X ty := by rfl) (hnm : ty ≠ "__name__" := by decide) (hdC : (ty == ("__debug__" : Str)) = false := by decide)
    (h1 : starEach [.Name n q, .Name ty r] X.env = (false, eval (.Name n q) X.env) :: starEach [.Name ty r] X.env := by rfl) (h2 : starEach [.Name ty r] X.env = (false, eval (.Name ty r) X.env) :: starEach [] X.env := by rfl) (hpl : (backTo pos (starEach [.Name ty r] X.env)).any (·.1) = false := by rfl) :
    PE (X.suite a ((a, oe) :: pn)) (.Call (.Name "isinstance" p) [.Name n q, .Name ty r] [] pos) (tH X.K tab x i a (.isv t)) :=
  PE.imp (pe_callB (X := X.suite a ((a, oe) :: pn)) (call_isE F.ex hz hf) hg hm boot_isinstance (pa_cons (pe_var (X := X.suite a ((a, oe) :: pn)) hN hv hd hcd) (pa_cons (pe_bltn (X := X.suite a ((a, oe) :: pn)) (v := .ty t) hgx hC hty rfl hnm hdC) pa_nil h2) h1) (by decide) (by decide) h1 hpl) fun σ H Q w => by
    obtain ⟨env, IO, Fr, ok, e1, e2, z, hz', k⟩ := w
    cases hz'
    exact ⟨_, e2, .ty t, .type t, tab x.c ⟨(Str.ofString t).cps⟩, rfl, fun u ru => ru, F.ty_ t ho, k _ fun _ => rfl⟩
end
section
variable {X : Cx} {a : Addr} {oe : Obj} {pn : List (Addr × Obj)} {x : Exn} {tab : Str → Str → Bool} {i : Nat} {e e' : Expr} {rest : List Expr} {h g : HE} {pos : Pos}
theorem h_neg (he : PE (X.suite a ((a, oe) :: pn)) e (tH X.K tab x i a h)) : PE (X.suite a ((a, oe) :: pn)) (.UnaryOp .Not e pos) (tH X.K tab x i a (.neg h)) :=
  PE.imp (pe_not he) fun σ H Q w => by
    obtain ⟨env, IO, Fr, ok, h1, h2, z, hz, k⟩ := w
    unfold hev at hz
    split at hz
    · rename_i b hb
      cases hz
      exact ⟨env, IO, Fr, ok, h1, h2, _, hb, fun v r => ⟨b, r H, k _ fun _ => rfl⟩⟩
    · cases hz
theorem h_both (he : PE (X.suite a ((a, oe) :: pn)) e (tH X.K tab x i a h)) (hr : PE (X.suite a ((a, oe) :: pn)) (.BoolOp .And (e' :: rest) pos) (tH X.K tab x i a g)) : PE (X.suite a ((a, oe) :: pn)) (.BoolOp .And (e :: e' :: rest) pos) (tH X.K tab x i a (.both h g)) :=
  PE.imp (pe_and he hr) fun σ H Q w => by
    obtain ⟨env, IO, Fr, ok, h1, h2, z, hz, k⟩ := w
    unfold hev at hz
    split at hz
    · rename_i hb
      split at hz
      · rename_i b hb2
        cases hz
        exact ⟨env, IO, Fr, ok, h1, h2, _, hb, fun v r => ⟨true, r H, ⟨env, IO, Fr, ok, h1, h2, _, hb2, k⟩⟩⟩
      · cases hz
    · rename_i hb
      cases hz
      exact ⟨env, IO, Fr, ok, h1, h2, _, hb, fun v r => ⟨false, r H, k _ fun _ => rfl⟩⟩
    · cases hz
theorem h_one (he : PE (X.suite a ((a, oe) :: pn)) e (tH X.K tab x i a h)) : PE (X.suite a ((a, oe) :: pn)) (.BoolOp .And [e] pos) (tH X.K tab x i a h) := pe_one he
end

/-! ### suites -/
def tSu (K : PySem.W.Frag) (tab : Str → Str → Bool) (x : Exn) (i : Nat) (a : Addr) : List (Nat × HE) → TS
  | [] => tNext
  | (j, h) :: l => tSeq (tAsg (tH K tab x i a h) (gName j)) (tSu K tab x i a l)
theorem su_nil {X : Cx} {a : Addr} {x : Exn} {tab : Str → Str → Bool} {i : Nat} : PSs X [] (tSu X.K tab x i a []) := pss_nil
theorem su_cons {X : Cx} {a : Addr} {oe : Obj} {pn : List (Addr × Obj)} {x : Exn} {tab : Str → Str → Bool} {i j : Nat} {y : Str} {e : Expr} {h : HE} {l : List (Nat × HE)} {rest : List Stmt} {pos pos' : Pos} (he : PE (X.suite a ((a, oe) :: pn)) e (tH X.K tab x i a h))
    (hr : PSs (X.suite a ((a, oe) :: pn)) rest (tSu X.K tab x i a l)) (hN : X.N.Nodup) (hi : X.N[j]? = some y := by rfl) (hx : Loc X.env.scope y := by first | exact Or.inl rfl | exact Or.inr rfl) (hs : swapsWith e (some (.Name y pos')) pos.line X.env = pure false := by rfl)
    (hf : X.fn y = true ∨ X.env.scope.names.lookup y = some .local := by first | exact .inl rfl | exact .inr rfl | assumption) : PSs (X.suite a ((a, oe) :: pn)) (.Assign [.Name y pos'] e pos :: rest) (tSu X.K tab x i a ((j, h) :: l)) :=
  pss_cons (ps_set (X := X.suite a ((a, oe) :: pn)) hN hi hx he hs hf) hr
theorem set_self {env : List Sl} {i : Nat} {s : Sl} (h : env[i]? = some s) : env.set i s = env := by
  refine List.ext_getElem? fun j => ?_
  by_cases hj : i = j
  · subst hj
    rw [List.getElem?_set_self (List.getElem?_eq_some_iff.mp h).1, h]
  · rw [List.getElem?_set_ne hj]
section
variable {K : PySem.W.Frag} {tab : Str → Str → Bool} {x : Exn} {i : Nat} {a : Addr} {IO : List (Option Addr)} {Fr : List Addr} {H : Hp} {D : Ends}
theorem su_rd : ∀ {l : List (Nat × HE)} {env env2 : List Sl} {σ : L2.St}, EnvOk K env IO Fr σ H → env[i]? = some .no → σ[i]? = some (some (.ref a)) → suS tab x i l env = some env2 →
    (∀ σ', EnvOk K env2 IO Fr σ' H → env2[i]? = some .no → Stp Fr (Hd env σ Fr) H (Hd env2 σ' Fr) H → D.nx σ' H) → tSu K tab x i a l D σ H
  | [], env, env2, σ, ok, h1, h2, hs, k => by
    cases hs
    exact k σ ok h1 (Stp.refl _ _ _)
  | (j, h) :: l, env, env2, σ, ok, h1, h2, hs, k => by
    unfold suS at hs
    cases hz : hev tab x env h with
    | none => rw [hz] at hs; cases hs
    | some z =>
      rw [hz] at hs
      simp only [] at hs
      split at hs
      · rename_i hj
        refine ⟨env, IO, Fr, ok, h1, h2, z, hz, fun v r => ?_⟩
        obtain ⟨g1, g2⟩ := ResOk.store (s := .shr z) (v := v) (i := j) ⟨ok, r _⟩ hj.1
        refine su_rd (env := env.set j (.shr z)) g1 (by rw [List.getElem?_set_ne hj.2]; exact h1) (by rw [List.getElem?_set_ne hj.2]; exact h2) hs fun σ' e2 n2 st => k σ' e2 n2 (g2.trans st)
      · cases hs
end
section
variable {X : Cx} {W : WX} {C n : Str} {i : Nat} {body suite : List Stmt} {b₀ : Stmt} {np pos pos' : Pos} {f : S} {l : List (Nat × HE)} {tab : Str → Str → Bool} {cs ds : List Str}
theorem c_try (tk : Takes X W) (hN : X.N.Nodup) (gC : X.mg C = some (.ref (He.ga X.K C))) (hcs : ∀ c ∈ cs, PySem.W.exmOne X.K (.ref (He.ga X.K c)) (.ref (He.ga X.K C)) = some true) (hds : ∀ c ∈ ds, PySem.W.exmOne X.K (.ref (He.ga X.K c)) (.ref (He.ga X.K C)) = some false)
    (hb : ∀ (W' : WX) (pn : List (Addr × Obj)) (xe : Value → Shared → Prop), Takes (X.tr pn xe) W' → PassesOwn (model X.prog X.w) X.A X.env xe → PSs (X.tr pn xe) body (tS X.K W' f))
    (hsu : ∀ (x : Exn) (a : Addr) (oe : Obj) (pn : List (Addr × Obj)), x.c ∈ cs → Zc (.ref (He.ga X.K x.c)) none oe → (∃ vs, oe.data = .fields vs) → PSs (X.suite a ((a, oe) :: pn)) (b₀ :: suite) (tSu X.K tab x i a l))
    (hs : X.stack = X.env :: X.outer := by rfl) (hf : X.env.frame = some X.env.locals := by rfl) (hi : X.N[i]? = some n := by rfl) (hln : X.env.kindOf n = some .local := by rfl) (hg : Gl X C := by rfl) (hdb : (C == ("__debug__" : Str)) = false := by decide) :
    PS X (.Try body [.ExceptHandler (some (.Name C np)) (some n) (b₀ :: suite) pos'] [] [] pos) (tS X.K W (tryS tab cs ds i f l)) := by
  refine PS.imp (ps_try_as (c := .ref (He.ga X.K C)) (ts := fun a cls d D σ H => ∃ x : Exn, x.c ∈ cs ∧ cls = .ref (He.ga X.K x.c) ∧ d = none ∧ tSu X.K tab x i a l D σ H) hs hf hN hi hln ⟨hg, hdb, .inl gC⟩ tk (tb := fun W' => tS X.K W' f) hb fun a oe cls d pn hz hd => ?_) fun D σ H w => ?_
  · refine ⟨fun pins s σ H D I h => ?_⟩
    obtain ⟨x, h1, rfl, rfl, h2⟩ := h
    exact (hsu x a oe pn h1 hz hd).run pins s σ H D I h2
  · obtain ⟨env, IO, Fr, ok, w⟩ := w
    refine ⟨env, IO, Fr, ok, ?_⟩
    rw [q_tryS] at w
    cases hfe : f env with
    | nx e => rw [hfe] at w; exact w
    | bk e => rw [hfe] at w; exact w
    | ct e => rw [hfe] at w; exact w
    | rt s e => rw [hfe] at w; exact w
    | bad => rw [hfe] at w; exact w
    | ex x e =>
      rw [hfe] at w
      simp only [] at w ⊢
      intro c d σ' H' ok' st ec
      by_cases h1 : cs.contains x.c = true
      · rw [if_pos h1] at w
        have hm : x.c ∈ cs := by simpa using h1
        by_cases h2 : (x.ns.isEmpty && x.xs.isEmpty && setOk e i) = true
        · rw [if_pos h2] at w
          simp only [Bool.and_eq_true, List.isEmpty_iff] at h2
          obtain ⟨⟨n1, n2⟩, so⟩ := h2
          obtain ⟨rfl, hd⟩ := ec
          have dn : d = none := by
            rcases hd with ⟨_, _, z⟩ | ⟨dd, vs, ⟨_, z⟩, _⟩
            · exact z
            · exact absurd n1 z
          subst dn
          have main : (match suS tab x i l (e.set i .no) with
              | some e => RunS X.K W IO Fr (Hd env σ Fr) H (.nx e) D
              | none => False) ∧ wipeOk e [i] = true := by
            unfold setOk at so
            cases hi0 : e[i]? with
            | none => rw [hi0] at so; cases so
            | some s0 =>
              rw [hi0] at so w
              cases s0 with
              | io _ => cases so
              | own _ => exact w.elim
              | no =>
                refine ⟨?_, by simp [wipeOk, hi0]⟩
                cases hl : suS tab x i l (e.set i .no) with
                | none => rw [hl] at w; exact w
                | some e2 => rw [hl] at w; exact w
              | shr _ =>
                refine ⟨?_, by simp [wipeOk, hi0]⟩
                cases hl : suS tab x i l (e.set i .no) with
                | none => rw [hl] at w; exact w
                | some e2 => rw [hl] at w; exact w
          obtain ⟨main, wo⟩ := main
          have il : i < e.length := by
            unfold setOk at so
            by_cases hi2 : i < e.length
            · exact hi2
            · rw [List.getElem?_eq_none_iff.mpr (by omega)] at so; cases so
          refine ⟨true, hcs _ hm, fun _ a ha => ⟨x, hm, rfl, rfl, ?_⟩, fun z => by cases z⟩
          cases hl : suS tab x i l (e.set i .no) with
          | none => rw [hl] at main; exact main.elim
          | some e2 =>
            rw [hl] at main
            obtain ⟨k1, k2⟩ := ok'.wipe (vs := [i]) (σ' := σ'.set i (some (.ref a))) wo (by simp) (fun j hj => by rw [List.getElem?_set_ne (fun q => hj (by simp [q]))])
            have we : wipeE e [i] = e.set i .no := rfl
            rw [we] at k1 k2
            have sl : i < σ'.length := by rw [← ok'.len]; exact il
            refine su_rd k1 (by rw [List.getElem?_set_self il]) (by rw [List.getElem?_set_self sl]) hl fun σ2 ok2 n2 st2 => ?_
            obtain ⟨g1, g2⟩ := ok2.wipe (vs := [i]) (σ' := σ2.set i none) (by simp [wipeOk, n2]) (by simp) (fun j hj => by rw [List.getElem?_set_ne (fun q => hj (by simp [q]))])
            have we2 : wipeE e2 [i] = e2 := set_self n2
            rw [we2] at g1 g2
            refine main (σ2.set i none) H' g1 ?_
            have hd1 : Hd (e.set i .no) (σ'.set i (some (.ref a))) Fr = Hd e σ' Fr := by funext b; exact propext (k2 b)
            have hd2 : Hd e2 (σ2.set i none) Fr = Hd e2 σ2 Fr := by funext b; exact propext (g2 b)
            rw [hd1] at st2
            rw [hd2]
            exact st.trans st2
        · rw [if_neg h2] at w; exact w.elim
      · rw [if_neg h1] at w
        by_cases h3 : ds.contains x.c = true
        · rw [if_pos h3] at w
          have hm : x.c ∈ ds := by simpa using h3
          refine ⟨false, ?_, fun z => (by cases z), fun _ => w c d σ' H' ok' st ec⟩
          rw [ec.1]
          exact hds _ hm
        · rw [if_neg h3] at w; exact w.elim
end
theorem boot_ValueError : bootBuiltins "ValueError" = some (.type "ValueError") := by decide +kernel
theorem tab_ok {K : PySem.W.Frag} {u v : Value} {b b' : Bool} (h : PySem.W.kitOne K u v = some b) (e : b' = b) : PySem.W.kitOne K u v = some b' := by rw [e]; exact h
theorem exi_mk {K : PySem.W.Frag} {tab : Str → Str → Bool} {c : Str} {own : List Str} {vt : List String} (h1 : ExcC K (He.ga K c)) (h2 : ∀ d ∈ own, PySem.W.kitOne K (.ref (He.ga K c)) (.ref (He.ga K d)) = some (tab c d)) (h3 : ∀ t ∈ vt, PySem.W.kitOne K (.ref (He.ga K c)) (.type t) = some (tab c ⟨(Str.ofString t).cps⟩)) : ExI K tab c own vt := ⟨h1, h2, h3⟩
end PL

/-! Pl22: in, not in. -/
namespace PL
open PySem L2
theorem u65 {A : Around} {k : Nat} (hr : Room k A) : A.units + 65 < cLine := by have := hr.un; omega
/-- x in a list, one sign in a text -/
def inB : D → D → Option Bool
  | x, .lst ys => if eqAble x && eqAble (.lst ys) && (SeqAt.shaped (toPy x) && SeqAt.shaped (toPy (.lst ys))) then some ((ys.map toPy).any fun z => PyData.eqv z (toPy x)) else none
  | .str x, .str z => (match x.cps.toList with
    | [c] => some (decide (c ∈ z.cps.toList))
    | _ => none)
  | _, _ => none
def inD (x y : D) : Option D := (inB x y).map .bl
def notInD (x y : D) : Option D := (inB x y).map fun b => .bl (!b)
def rInS (f : Bool → Bool) : R2 := fun x y H Q => ∃ (c : Nat) (z : Str), x = .str ⟨#[c]⟩ ∧ y = .str z ∧ Q (.bl (f (decide (c ∈ z.cps.toList)))) H
theorem bin_in {K : PySem.W.Frag} {f : Bool → Bool} {r : R2} (hr : ∀ x y H Q, (∃ d ds, Dp K H x d ∧ Dp K H y (.list ds) ∧ SeqAt.shaped d = true ∧ SeqAt.shaped (.list ds) = true ∧ Q (.bl (f (ds.any fun z => PyData.eqv z d))) H) → r x y H Q) :
    Bin K (fun x y H Q => r x y H Q ∨ rInS f x y H Q) (fun x y => (inB x y).map fun b => .bl (f b)) := fun {env IO Fr σ H x y z vx vy Q} e bx by_ h k => by
  obtain ⟨b, hb, rfl⟩ := Option.map_eq_some_iff.mp h
  unfold inB at hb
  split at hb
  · rename_i x ys
    split at hb
    · rename_i hc
      cases hb
      simp only [Bool.and_eq_true] at hc
      obtain ⟨⟨h1, h2⟩, h3, h4⟩ := hc
      have d1 := dp_of h1 bx.rep
      have d2 := dp_of h2 by_.rep
      have e2 : toPy (.lst ys) = .list (ys.map toPy) := by simp [toPy]
      rw [e2] at d2 h4
      exact .inl (hr _ _ _ _ ⟨_, _, d1, d2, h3, h4, k _ rfl⟩)
    · cases hb
  · rename_i x z
    split at hb
    · rename_i c hc
      cases hb
      cases bx.str
      cases by_.str
      have hx : x = ⟨#[c]⟩ := by
        cases x with
        | mk a =>
          simp only at hc
          have : a = #[c] := by
            apply Array.ext'
            simpa using hc
          rw [this]
      exact .inr ⟨c, z, by rw [hx], rfl, k _ rfl⟩
    · cases hb
  · cases hb
theorem bin_inD {K : PySem.W.Frag} : Bin K (fun x y H Q => rInD K x y H Q ∨ rInS id x y H Q) inD := bin_in (f := id) fun _ _ _ _ h => h
theorem bin_notInD {K : PySem.W.Frag} : Bin K (fun x y H Q => rNotInD K x y H Q ∨ rInS not x y H Q) notInD := bin_in (f := not) fun _ _ _ _ h => h
theorem o_in {X : Cx} {k : Nat} (hr : Room k X.A) : OpR X (compareOp .In) (fun x y H Q => rInD X.K x y H Q ∨ rInS id x y H Q) := OpR.or (op_inD (u65 hr)) op_in_sign
theorem o_notIn {X : Cx} {k : Nat} (hr : Room k X.A) : OpR X (compareOp .NotIn) (fun x y H Q => rNotInD X.K x y H Q ∨ rInS not x y H Q) := OpR.or (op_notInD (u65 hr)) op_notIn_sign
end PL

/-! Pl23: a fresh thing lent to be changed, f(g(..), ..). -/
namespace PL
open PySem L2
def callX (f0 : E) (fn : Fn) (as : List PL.A) : E := fun env => match f0 env with
  | .ok (.own d) e1 => (match evs as e1 with
    | .ok os e2 => (match fins as os e2 with
      | some ds => (match fn (.io d :: ds.map .shr) with
        | .ok s _ => (match keepOr (nmS s) (names as) e2 with
          | some e3 => .ok s e3
          | none => .bad)
        | .exc x _ => (match keepOr (nms x.xs) (names as) e2 with
          | some e3 => .exc x e3
          | none => .bad)
        | .bad => .bad)
      | none => .bad)
    | _ => .bad)
  | .ok _ _ => .bad
  | .exc x e => .exc x e
  | .bad => .bad
@[simp] theorem q_callX {f0 : E} {fn : Fn} {as : List PL.A} {env : List Sl} : callX f0 fn as env = (match f0 env with
  | .ok (.own d) e1 => (match evs as e1 with
    | .ok os e2 => (match fins as os e2 with
      | some ds => (match fn (.io d :: ds.map .shr) with
        | .ok s _ => (match keepOr (nmS s) (names as) e2 with
          | some e3 => .ok s e3
          | none => .bad)
        | .exc x _ => (match keepOr (nms x.xs) (names as) e2 with
          | some e3 => .exc x e3
          | none => .bad)
        | .bad => .bad)
      | none => .bad)
    | _ => .bad)
  | .ok _ _ => .bad
  | .exc x e => .exc x e
  | .bad => .bad) := id rfl
def less (H : Hp) (p : Addr) : Hp := fun b => if b = p then none else H b
theorem less_some {H : Hp} {p b : Addr} {o : HO} : less H p b = some o ↔ b ≠ p ∧ H b = some o := by
  unfold less
  split
  · rename_i h; simp [h]
  · rename_i h; simp [h]
section
variable {K : PySem.W.Frag} {env : List Sl} {IO : List (Option Addr)} {Fr : List Addr} {σ : L2.St} {H : Hp} {p : Addr}
/-- what is in no slot may be forgotten -/
theorem EnvOk.less (e : EnvOk K env IO (p :: Fr) σ H) (np : p ∉ Fr) : EnvOk K env IO Fr σ (less H p) ∧ Same (hid H (Hd env σ (p :: Fr))) (hid (less H p) (Hd env σ Fr)) := by
  have m : Same (hid H (Hd env σ (p :: Fr))) (hid (PL.less H p) (Hd env σ Fr)) := same_hid.mpr fun b u h1 h2 =>
    ⟨fun h => h1 (h.elim (fun z => .inl (List.mem_cons_of_mem _ z)) .inr), less_some.mpr ⟨fun z => h1 (.inl (by simp [z])), h2⟩⟩
  refine ⟨⟨e.len, fun b hb z => ?_, fun i d h => ?_, e.inj, fun i d h => ?_, e.io, e.oi⟩, m⟩
  · have := e.fr b (List.mem_cons_of_mem _ hb)
    unfold PL.less at z
    split at z
    · rename_i q; exact np (q ▸ hb)
    · exact this z
  · obtain ⟨q, u, h1, h2, h3, h4⟩ := e.own i d h
    exact ⟨q, u, h1, fun z => h2 (List.mem_cons_of_mem _ z), less_some.mpr ⟨fun z => h2 (by simp [z]), h3⟩, RepO.mono m h4⟩
  · obtain ⟨v, h1, h2⟩ := e.shr i d h
    exact ⟨v, h1, Rep.mono m h2⟩
theorem callX_rd {W : WX} {f0 : E} {fn : Fn} {as : List PL.A} {Q : VK} (w : tE K W (callX f0 fn as) σ H Q) : tE K W f0 σ H fun x H1 => tAs K W as σ H1 fun vs H2 => spF K (as.length + 1) fn (x :: vs) H2 Q fun c a H' => W c a σ H' := by
  obtain ⟨env, IO, Fr, e0, w⟩ := tE_run.mp w
  refine tE_run.mpr ⟨env, IO, Fr, e0, ?_⟩
  rw [q_callX] at w
  cases hf0 : f0 env with
  | bad => rw [hf0] at w; exact w
  | exc x e => rw [hf0] at w; exact w
  | ok s e1 =>
  rw [hf0] at w
  cases s with
  | no => exact w.elim
  | shr d => exact w.elim
  | io d => exact w.elim
  | own d =>
  simp only [] at w
  intro v H1 ro st
  obtain ⟨p, o, rfl, np, ok1, hp, rep⟩ := ro
  have st : Stp Fr (Hd env σ Fr) H (Hd e1 σ (p :: Fr)) H1 := st
  refine tAs_of ok1 ?_
  cases hev : evs as e1 with
  | bad => rw [hev] at w; exact w.elim
  | exc x e => rw [hev] at w; exact w.elim
  | ok os e2 =>
  rw [hev] at w
  simp only [] at w
  intro H2 ok2 st2 vs _ avs
  cases hf : fins as os e2 with
  | none => rw [hf] at w; exact w.elim
  | some ds =>
  rw [hf] at w
  simp only [] at w
  obtain ⟨okq, mq⟩ := ok2.less np
  have hp2 : H2 p = some o := (st2.fr p (by simp)).trans hp
  have rep2 : RepO K (hid H2 (Hd e2 σ (p :: Fr))) d o := RepO.mono (same_hid.mpr fun b u h1 h2 => st2.same b u h1 h2) rep
  have stq : Stp Fr (Hd env σ Fr) H (Hd e2 σ Fr) (less H2 p) := by
    refine ⟨fun b u h1 h2 => ?_, fun b hb => ?_⟩
    · obtain ⟨g1, g2⟩ := st.same b u h1 h2
      obtain ⟨k1, k2⟩ := st2.same b u g1 g2
      exact ⟨fun z => k1 (z.elim (fun q => .inl (List.mem_cons_of_mem _ q)) .inr), less_some.mpr ⟨fun z => k1 (.inl (by simp [z])), k2⟩⟩
    · have g1 := st.fr b hb
      have g2 := st2.fr b (List.mem_cons_of_mem _ hb)
      have ne : b ≠ p := fun z => np (z ▸ hb)
      show (if b = p then none else H2 b) = H b
      rw [if_neg ne, g2, g1]
  have r0 := args_rep (C := (· ∈ (p :: Fr) ++ ownAs e2 σ (names as))) (L := names as) ok2 (hdOwn _) (ok2.ownNot _) (fun _ z => z) avs hf
  have npC : p ∉ Fr ++ ownAs e2 σ (names as) := fun z => by
    rcases List.mem_append.mp z with z | z
    · exact np z
    · obtain ⟨i, f, _, z2, z3⟩ := mem_ownAs.mp z
      obtain ⟨q, u, h1, h2, _⟩ := ok2.own i f z2
      rw [z3] at h1; cases h1
      exact h2 (by simp)
  have sub : ∀ b, (b ∈ Fr ++ ownAs e2 σ (names as) ∨ b = p) ↔ b ∈ (p :: Fr) ++ ownAs e2 σ (names as) := fun b => by
    simp only [List.cons_append, List.mem_cons, List.mem_append]
    constructor
    · rintro ((h | h) | h)
      · exact .inr (.inl h)
      · exact .inr (.inr h)
      · exact .inl h
    · rintro (h | h | h)
      · exact .inr h
      · exact .inl (.inl h)
      · exact .inl (.inr h)
  have r2 : RepL K (hid H2 fun b => b ∈ Fr ++ ownAs e2 σ (names as) ∨ b = p) ds vs := RepL.mono (same_hid.mpr fun b u z1 z2 => ⟨fun z => z1 ((sub b).mp z), z2⟩) r0
  have rep3 : RepO K (hid H2 fun b => b ∈ Fr ++ ownAs e2 σ (names as) ∨ b = p) d o := RepO.mono (same_hid.mpr fun b u z1 z2 => ⟨fun z => z1 (hdOwn (Fr := p :: Fr) (names as) b ((sub b).mp z)), z2⟩) rep2
  obtain ⟨e4, hd4, no⟩ := env_io (p := p) (o := o) (d0 := d) (fun b hb => by
    rcases List.mem_append.mp hb with z | z
    · exact ok2.fr b (List.mem_cons_of_mem _ z)
    · exact ok2.frOwn (names as) b (List.mem_append_right _ z)) npC hp2 rep3 r2
  refine ⟨.io d :: ds.map .shr, [some p], Fr ++ ownAs e2 σ (names as), by rw [List.length_cons, List.length_map, fins_len hf], e4, no, ?_⟩
  have keep : ∀ {outs : List Sl} {σ2 : L2.St} {F2 : List Addr} {H' : Hp}, Stp (Fr ++ ownAs e2 σ (names as)) (Hd (.io d :: ds.map .shr) ((V.ref p :: vs).map some) (Fr ++ ownAs e2 σ (names as))) H2 (Hd outs σ2 F2) H' → Same (less H2 p) H' := fun st4 b u h => by
    obtain ⟨nb, h⟩ := less_some.mp h
    by_cases hm : b ∈ Fr ++ ownAs e2 σ (names as)
    · rw [st4.fr b hm]; exact h
    · exact (st4.same b u (fun z => ((hd4 b).mp z).elim hm nb) h).2
  cases hfn : fn (.io d :: ds.map .shr) with
  | bad => rw [hfn] at w; exact w.elim
  | ok s outs =>
    rw [hfn] at w
    simp only [] at w
    intro v H' rs st4
    have sm := keep st4
    cases hk : keepOr (nmS s) (names as) e2 with
    | none => rw [hk] at w; exact w.elim
    | some e3 =>
      rw [hk] at w
      cases s with
      | no => exact rs.elim
      | io d => exact rs.elim
      | shr d =>
        obtain ⟨_, rp⟩ := rs
        obtain ⟨g1, g2⟩ := post_shr okq sm hk (Rep.mono (same_hid.mpr fun b u z1 z2 => ⟨fun z => z1 (.inl z), z2⟩) rp)
        exact w v H' g1 (stq.trans g2)
      | own d =>
        obtain ⟨q, o2, rfl, nq, _, hq, ro⟩ := rs
        have hqn : less H2 p q = none := by
          cases z : less H2 p q with
          | none => rfl
          | some u =>
            obtain ⟨ne, h2⟩ := less_some.mp z
            exact absurd (.inl List.mem_cons_self) (st4.same q u (fun z => ((hd4 q).mp z).elim nq ne) h2).1
        obtain ⟨g1, g2⟩ := post_own okq sm hqn hq hk (RepO.mono (same_hid.mpr fun b u z1 z2 => ⟨fun z => z1 (.inl (List.mem_cons.mpr (z.elim .inr .inl))), z2⟩) ro)
        exact w _ H' g1 ⟨fun b u h1 h2 => g2.same b u (stq.same b u h1 h2).1 (stq.same b u h1 h2).2, fun b hb => (g2.fr b hb).trans (stq.fr b hb)⟩
  | exc x outs =>
    rw [hfn] at w
    simp only [] at w
    intro c a H' eo st4 ec
    have sm := keep st4
    cases hk : keepOr (nms x.xs) (names as) e2 with
    | none => rw [hk] at w; exact w.elim
    | some e3 =>
      rw [hk] at w
      obtain ⟨g1, g2, g3⟩ := post_exc okq sm hk (ec.mono (same_hid.mpr fun b u z1 z2 => ⟨fun z => z1 (.inl z), z2⟩))
      exact w c a H' g1 (stq.trans g2) g3
end
section
variable {X : Cx} {W : WX} {k : Nat} {f : Addr} {ps : List Str} {fn : Fn} {x c : Str} {p pos : Pos} {e : Expr} {es : List Expr} {as : List PL.A} {f0 : E}
theorem k_callX (tk : Takes X W) (F : Ok X.prog X.w X.K X.mg X.base k f ps fn) (hr : Room k X.A) (hm : X.mg x = some (.ref f))
    (h0 : PE X e (tE X.K W f0)) (ha : PA X es (tAs X.K W as)) (hn : as.length + 1 = ps.length := by rfl) (hg : Gl X x := by rfl) (hdb : (x == ("__debug__" : Str)) = false := by decide) (he : starEach (e :: es) X.env = (false, eval e X.env) :: starEach es X.env := by rfl) (hpl : (backTo pos (starEach es X.env)).any (·.1) = false := by rfl) :
    PE X (.Call (.Name x p) (e :: es) [] pos) (tE X.K W (callX f0 fn as)) := by
  obtain ⟨hk, fd, _, hb, G⟩ := F
  refine PE.imp (pe_callS G hr hg hm hk hb (fun σ => passAt tk σ) (pa_cons h0 ha he) hdb he hpl) fun σ H Q w => ?_
  have h := callX_rd w
  rw [← hn]
  exact h
theorem k_call0 (tk : Takes X W) (F : Ok X.prog X.w X.K X.mg X.base k f ps fn) (hr : Room k X.A) (hm : X.mg x = some (.ref f)) (hn : ps.length = 0 := by rfl) (hg : Gl X x := by rfl) (hdb : (x == ("__debug__" : Str)) = false := by decide) :
    PE X (.Call (.Name x p) [] [] pos) (tE X.K W (callF fn [])) := by
  obtain ⟨hk, fd, _, hb, G⟩ := F
  refine ⟨fun pins s σ H Q I h => ?_⟩
  refine wpAny_Call_Name_kw (ld_glob I hg hm ?_ hdb)
  have h' : spF X.K 0 fn [] H Q (WE W σ) := call_rd (as := []) h
  rw [← hn] at h'
  exact PySem.W.callWith_K0 (first := []) I.kIn hk (run_fnS (us := []) (vs := []) (E := WE W) G hr hb (passAt tk σ) I .nil h')
end
end PL

/-! Pl24: walks over a text, over enumerate of a list; join. -/
namespace PL
open PySem L2
/-- the signs of a text -/
def strI (f : P) : I := fun env => (f env).bind fun d e => match d with
  | .str z => .ok (z.cps.toList.map fun c => .str ⟨#[c]⟩) e
  | _ => .bad
@[simp] theorem q_strI {f : P} {env : List Sl} : strI f env = ((f env).bind fun d e => match d with
  | .str z => .ok (z.cps.toList.map fun c => .str ⟨#[c]⟩) e
  | _ => .bad) := id rfl
def enL : Nat → List D → List D
  | _, [] => []
  | i, d :: ds => .tup [.int (i : Int), d] :: enL (i + 1) ds
theorem enL_get : ∀ {ds : List D} {i j : Nat} {d : D}, (enL i ds)[j]? = some d → ∃ x, ds[j]? = some x ∧ d = .tup [.int ((i + j : Nat) : Int), x]
  | [], i, j, d, h => by simp [enL] at h
  | x :: ds, i, 0, d, h => by simp [enL] at h; exact ⟨x, rfl, by rw [← h]; rfl⟩
  | x :: ds, i, j + 1, d, h => by
    obtain ⟨y, h1, h2⟩ := enL_get (ds := ds) (i := i + 1) (j := j) (by simpa [enL] using h)
    exact ⟨y, by simpa using h1, by rw [h2, show i + 1 + j = i + (j + 1) by omega]⟩
theorem enL_len : ∀ {ds : List D} {i : Nat}, (enL i ds).length = ds.length
  | [], _ => rfl
  | x :: ds, i => by simp [enL, enL_len (ds := ds)]
/-- enumerate of a list -/
def enI (f : P) : I := fun env => (f env).bind fun d e => match d with
  | .lst ds => .ok (enL 0 ds) e
  | _ => .bad
@[simp] theorem q_enI {f : P} {env : List Sl} : enI f env = ((f env).bind fun d e => match d with
  | .lst ds => .ok (enL 0 ds) e
  | _ => .bad) := id rfl
theorem itR_str {K : PySem.W.Frag} {P1 : Addr → Prop} {H1 : Hp} {z : Str} : ItR K P1 H1 (Its z) (z.cps.toList.map fun c => .str ⟨#[c]⟩) := fun P2 H2 st hn => by
  refine ⟨fun i d hd => ?_, by show z.cps.size ≤ _; simp⟩
  rw [List.getElem?_map] at hd
  obtain ⟨c, h1, rfl⟩ := Option.map_eq_some_iff.mp hd
  have hi : i < z.cps.size := by
    obtain ⟨h2, _⟩ := List.getElem?_eq_some_iff.mp h1
    simpa using h2
  refine ⟨hi, fun x H3 y => ?_⟩
  obtain ⟨rfl, c', h2, rfl⟩ := y
  have e : c = c' := by
    rw [← Array.getElem?_toList] at h2
    rw [h1] at h2
    exact Option.some.inj h2
  subst e
  exact ⟨fun _ _ q => q, rfl⟩
theorem itR_enum {K : PySem.W.Frag} {P1 : Addr → Prop} {H1 : Hp} {a : Addr} {vs : List V} {ds : List D} (h : hid H1 P1 a = some (.lst vs)) (r : RepL K (hid H1 P1) ds vs) : ItR K P1 H1 (Ite K a) (enL 0 ds) := fun P2 H2 st hn => by
  obtain ⟨h1, h2⟩ := hid_some.mp h
  obtain ⟨g1, g2⟩ := st a _ h1 h2
  have sq : SqL K H2 a vs := .of g2
  have m : Same (hid H1 P1) (hid H2 P2) := same_hid.mpr st
  refine ⟨fun i d hd => ?_, ⟨vs, sq, by rw [enL_len, r.len]; exact Nat.le_refl _⟩⟩
  obtain ⟨x, k1, rfl⟩ := enL_get hd
  obtain ⟨v, k2, k3⟩ := r.get k1
  refine ⟨⟨vs, v, sq, k2⟩, fun u H3 y => ?_⟩
  obtain ⟨T, w, rfl, hT, rfl, hy⟩ := y
  have := hy vs sq
  rw [k2] at this
  cases this
  have sm : Same H2 (upd H2 T (.tup [.int (i : Nat), v])) := same_upd hT
  have nT : ¬ P2 T := fun z => hn T z hT
  have m2 : Same (hid H2 P2) (hid (upd H2 T (.tup [.int (i : Nat), v])) P2) := same_hid.mpr fun b u z1 z2 => ⟨z1, sm b u z2⟩
  refine ⟨sm, T, _, rfl, .inl (.inl (hid_some.mpr ⟨nT, upd_same⟩)), ⟨_, _, rfl, ?_, _, _, rfl, Rep.mono m2 (Rep.mono m k3), rfl⟩⟩
  show (V.int (i : Nat)) = .int ((0 + i : Nat) : Int)
  rw [Nat.zero_add]
section
variable {X : Cx} {W : WX} {tg e : Expr} {f : P} {p pos tpos : Pos} {elts : List Expr} {kk : Nat}
theorem k_istr (he : PE X e (tP X.K W f)) : PI X tg e (tI X.K W (strI f)) :=
  PI.imp (pi_str he) fun σ H R w => by
    obtain ⟨env, IO, Fr, ok, w⟩ := w
    unfold strI at w
    refine ⟨env, IO, Fr, ok, ?_⟩
    cases hf : f env with
    | ok d e1 =>
      rw [hf] at w
      cases d with
      | str z =>
        intro v H' ok1 r st
        cases r
        exact ⟨z, rfl, w H' ok1 st _ itR_str⟩
      | _ => exact w.elim
    | exc x e1 => rw [hf] at w; exact w
    | bad => rw [hf] at w; exact w.elim
theorem k_ienum (hm : X.mg "enumerate" = none) (he : PE X e (tP X.K W f)) (hg : Gl X "enumerate" := by rfl) (hs : starEach [e] X.env = [(false, eval e X.env)] := by rfl) : PI X (.Tuple elts kk tpos) (.Call (.Name "enumerate" p) [e] [] pos) (tI X.K W (enI f)) :=
  PI.imp (pi_enum hg hm (pa_cons he pa_nil hs) hs) fun σ H R w => by
    obtain ⟨env, IO, Fr, ok, w⟩ := w
    unfold enI at w
    refine ⟨env, IO, Fr, ok, ?_⟩
    cases hf : f env with
    | ok d e1 =>
      rw [hf] at w
      cases d with
      | lst ds =>
        intro v H' ok1 r st
        obtain ⟨a, vs, rfl, h1, h2⟩ := r
        exact ⟨a, vs, rfl, .of (same_hid_self _ _ h1), w H' ok1 st _ (itR_enum h1 h2)⟩
      | _ => exact w.elim
    | exc x e1 => rw [hf] at w; exact w
    | bad => rw [hf] at w; exact w.elim
end
/-! ### s.join(xs) -/
def strs? : List D → Option (List Str)
  | [] => some []
  | .str b :: ds => (strs? ds).map (b :: ·)
  | _ => none
theorem strs_rep {K : PySem.W.Frag} {H : Hp} : ∀ {ds : List D} {bs : List Str} {vs : List V}, strs? ds = some bs → RepL K H ds vs → vs = bs.map V.str
  | [], _, _, h, r => by cases h; exact r
  | d :: ds, bs, _, h, ⟨v, r, h1, h2, h3⟩ => by
    cases d with
    | str b =>
      simp only [strs?, Option.map_eq_some_iff] at h
      obtain ⟨cs, h4, rfl⟩ := h
      cases h2
      rw [h1, strs_rep h4 h3, List.map_cons]
    | _ => simp [strs?] at h
def joinD (s : Str) : D → Option D
  | .lst ds => (strs? ds).bind fun ys => if (ys.map (·.length)).sum + ys.length * s.length ≤ 16777216 then some (.str (Txt.join s ys)) else none
  | .tup ds => (strs? ds).bind fun ys => if (ys.map (·.length)).sum + ys.length * s.length ≤ 16777216 then some (.str (Txt.join s ys)) else none
  | _ => none
section
variable {X : Cx} {W : WX} {e : Expr} {g : PL.A} {s : Str} {j : Nat} {p1 apos pos : Pos}
theorem una_join {K : PySem.W.Frag} : Una K (fun y H Q => ∃ p, ∃ ys : List Str, y = .ref p ∧ (SqL K H p (ys.map V.str) ∨ SqT K H p (ys.map V.str)) ∧ (ys.map (·.length)).sum + ys.length * s.length ≤ 16777216 ∧ Q (.str (Txt.join s ys)) H) (joinD s) := fun {env IO Fr σ H x z vx Q} e b h k => by
  unfold joinD at h
  split at h
  · obtain ⟨p, ws, rfl, h1, r⟩ := b.lst
    obtain ⟨ys, hs, h⟩ := Option.bind_eq_some_iff.mp h
    split at h
    · rename_i hl
      cases h
      exact ⟨p, ys, rfl, .inl (.inl (.inl (by rw [h1, strs_rep hs r]))), hl, k _ rfl⟩
    · cases h
  · obtain ⟨p, ws, rfl, h1, r⟩ := b.tup
    obtain ⟨ys, hs, h⟩ := Option.bind_eq_some_iff.mp h
    split at h
    · rename_i hl
      cases h
      exact ⟨p, ys, rfl, .inr (by rw [← strs_rep hs r]; exact h1), hl, k _ rfl⟩
    · cases h
  · cases h
theorem k_join (he : PE X e (tA X.K W g)) (hs : starEach [e] X.env = [(false, eval e X.env)] := by rfl) (hbase : attributeBase (.Constant (.str s) j p1) "join" X.env (eval (.Constant (.str s) j p1) X.env) = eval (.Constant (.str s) j p1) X.env := by rfl) (hline : (apos.endLine == pos.line) = true := by rfl) :
    PE X (.Call (.Attribute (.Constant (.str s) j p1) "join" apos) [e] [] pos) (tP X.K W (una (joinD s) g)) :=
  PE.imp (pe_join pe_str he hs hbase hline) fun σ H Q w => by
    have h := una_rd una_join w
    refine ⟨⟨s, rfl⟩, ?_⟩
    have mono : ∀ {T : TE} {Y Y' : VK}, T σ H Y → T = T → T σ H Y := fun a _ => a
    obtain ⟨env, IO, Fr, ok, w⟩ := tP_run.mp w
    refine one_of ok (Run.mono (Stp.refl _ _ _) w.split fun d env' H' e' st y v _ bx => ?_)
    cases hd : joinD s d with
    | none => rw [hd] at y; exact y.elim
    | some z =>
      rw [hd] at y
      obtain ⟨p, ys, e1, e2, e3, e4⟩ := una_join (K := X.K) (s := s) e' bx hd (Q := Q) fun v rv => y H' e' (Stp.refl _ _ _) v rv
      exact ⟨s, p, ys, rfl, by rw [e1], e2, e3, e4⟩
end
end PL

/-! Pl25: text * int. -/
namespace PL
open PySem L2
def repS (z : Str) (n : Int) : Str := if n < 1 then Str.empty else if (n == 1 || z.length == 0) = true then z else ⟨(List.replicate n.toNat z.cps).foldl (· ++ ·) #[]⟩
def mulS : D → D → Option D
  | .str z, .int n => if z.length ≤ 1000 ∧ n.natAbs ≤ 10000 then some (.str (repS z n)) else none
  | _, _ => none
def rMulS : R2 := fun x y H Q => ∃ z n, x = .str z ∧ y = .int n ∧ z.length ≤ 1000 ∧ n.natAbs ≤ 10000 ∧ Q (.str (repS z n)) H
theorem rep_size (a : Array Nat) : ∀ (k : Nat) (acc : Array Nat), ((List.replicate k a).foldl (· ++ ·) acc).size = acc.size + k * a.size
  | 0, acc => by simp
  | k + 1, acc => by
    rw [List.replicate_succ, List.foldl_cons, rep_size a k, Array.size_append, Nat.succ_mul]
    omega
theorem op_mulS {X : Cx} : OpR X (binaryOp .Mult) rMulS := by
  intro pins s σ H x y v u Q I rx ry h
  obtain ⟨z, n, rfl, rfl, hz, hn, q⟩ := h
  obtain ⟨t, rfl⟩ := rx
  obtain ⟨t', rfl⟩ := ry
  have h63 : (2 : Int) ^ 63 = 9223372036854775808 := by decide +kernel
  refine PySem.P.mul_str ?_ (fun h1 _ => ?_) (fun h1 _ => ?_) ?_
  · rw [h63, decide_eq_false (by omega), decide_eq_false (by omega)]; rfl
  · rw [h63]
    have hd : (1000 : Int) ≤ (9223372036854775808 - 1) / n := by
      rw [Int.le_ediv_iff_mul_le (by omega)]
      omega
    omega
  · have : z.length * n.toNat ≤ 1000 * 10000 := Nat.mul_le_mul hz (by omega)
    show decide (_ > sizeLine) = false
    exact decide_eq_false (by rw [sizeLine_eq]; omega)
  · unfold repS at q
    split
    · rename_i h1
      rw [if_pos h1] at q
      exact ⟨by decide, .str Str.empty, H, I.tok _, ⟨_, rfl⟩, q⟩
    · rename_i h1
      rw [if_neg h1] at q
      split
      · rename_i h2
        rw [if_pos h2] at q
        exact ⟨.str z, H, I, ⟨_, rfl⟩, q⟩
      · rename_i h2
        rw [if_neg h2] at q
        exact ⟨by
          have hs := rep_size z.cps n.toNat #[]
          have hl : z.cps.size ≤ 1000 := hz
          have : n.toNat * z.cps.size ≤ 10000 * 1000 := Nat.mul_le_mul (by omega) hl
          show (Array.size _) ≤ _
          rw [hs, sizeLine_eq]
          simp
          omega, .str _, H, I.tok _, ⟨_, rfl⟩, q⟩
theorem bin_mulS {K : PySem.W.Frag} : Bin K rMulS mulS := fun {env IO Fr σ H x y z vx vy Q} e bx by_ h k => by
  unfold mulS at h
  split at h
  · split at h
    · rename_i hl
      cases h
      exact ⟨_, _, bx.str, by_.int, hl.1, hl.2, k _ rfl⟩
    · cases h
  · cases h
section
variable {X : Cx} {W : WX} {a b : Expr} {o1 o2 : PL.A} {pos : Pos}
theorem k_mulS (ha : PE X a (tA X.K W o1)) (hb : PE X b (tA X.K W o2)) : PE X (.BinOp a .Mult b pos) (tP X.K W (bin mulS o1 o2)) := c_bin op_mulS bin_mulS ha hb
end
end PL

/-! Pl26: shared meanings (blocks G) and what they compute: loops, _law_same, kinds, the plain list, a climate made. -/
namespace PL
open PySem L2
/-! ### general -/
theorem loop_nx {tg : Tg} {body : S} (I : Nat → List Sl → Prop) : ∀ (ds : List D) (k : Nat) (env : List Sl), I k env →
    (∀ j d env, ds[j]? = some d → I (k + j) env → ∃ e e2, tgS tg d env = some e ∧ (body e = .nx e2 ∨ body e = .ct e2) ∧ I (k + j + 1) e2) → ∃ env', loopS tg body ds env = .nx env' ∧ I (k + ds.length) env'
  | [], k, env, h, _ => ⟨env, by unfold loopS; rfl, h⟩
  | d :: ds, k, env, h, st => by
    obtain ⟨e, e2, h1, h2, h3⟩ := st 0 d env rfl h
    obtain ⟨e3, g1, g2⟩ := loop_nx I ds (k + 1) e2 h3 (fun j d env hd hi => by
      have := st (j + 1) d env (by simpa using hd) (by rw [show k + (j + 1) = k + 1 + j by omega]; exact hi)
      rw [show k + (j + 1) + 1 = k + 1 + j + 1 by omega] at this
      exact this)
    refine ⟨e3, ?_, by rw [List.length_cons, show k + (ds.length + 1) = k + 1 + ds.length by omega]; exact g2⟩
    unfold loopS
    rw [h1]
    rcases h2 with h2 | h2 <;> simp [h2, g1]
theorem rngL_get {lo : Int} {n j : Nat} {d : D} (h : (rngL lo n)[j]? = some d) : d = .int (lo + j) ∧ j < n := by
  unfold rngL at h
  rw [List.getElem?_map] at h
  obtain ⟨i, h1, rfl⟩ := Option.map_eq_some_iff.mp h
  obtain ⟨h2, h3⟩ := List.getElem?_eq_some_iff.mp h1
  rw [List.getElem_range] at h3
  subst h3
  exact ⟨rfl, by simpa using h2⟩
theorem rngL_len {lo : Int} {n : Nat} : (rngL lo n).length = n := by simp [rngL]
@[simp] theorem eqD_int (i j : Int) : eqD (.int i) (.int j) = some (.bl (i == j)) := by
  simp [eqD, eqq, eqAble, toPy, SeqAt.shaped, PyData.eqv, PyData.canLay0, PyData.depth]
@[simp] theorem neD_int (i j : Int) : neD (.int i) (.int j) = some (.bl (!(i == j))) := by
  simp [neD, eqq, eqAble, toPy, SeqAt.shaped, PyData.eqv, PyData.canLay0, PyData.depth]
@[simp] theorem eqD_str (i j : Str) (h1 : PyData.strOk i = true) (h2 : PyData.strOk j = true) : eqD (.str i) (.str j) = some (.bl (i == j)) := by
  simp [eqD, eqq, eqAble, toPy, SeqAt.shaped, PyData.eqv, PyData.canLay0, PyData.depth, h1, h2]
@[simp] theorem neD_str (i j : Str) (h1 : PyData.strOk i = true) (h2 : PyData.strOk j = true) : neD (.str i) (.str j) = some (.bl (!(i == j))) := by
  simp [neD, eqq, eqAble, toPy, SeqAt.shaped, PyData.eqv, PyData.canLay0, PyData.depth, h1, h2]
@[simp] theorem eqD_bl (i j : Bool) : eqD (.bl i) (.bl j) = some (.bl (i == j)) := by
  simp [eqD, eqq, eqAble, toPy, SeqAt.shaped, PyData.eqv, PyData.canLay0, PyData.depth]
theorem rng1_ok {n : Nat} (h : n < 4611686018427387904) : rng1D [.int (n : Int)] = some (rngL 0 n) := by
  unfold rng1D
  simp [h]
theorem rng1_i {i : Int} (h0 : 0 ≤ i) (h : i < 4611686018427387904) : rng1D [.int i] = some (rngL 0 i.toNat) := by
  have h2 : i.natAbs < 4611686018427387904 := by omega
  unfold rng1D
  simp [h2]
theorem bind_get {xs : List D} {i : Nat} : ((if i < xs.length then some i else none).bind fun j => xs[j]?) = xs[i]? := by
  by_cases h : i < xs.length
  · simp [h]
  · simp [h]
theorem forS_ok {it : I} {tg : Tg} {body : S} {ds : List D} {env e1 : List Sl} (h : it env = .ok ds e1) : forS it tg body env = loopS tg body ds e1 := by
  unfold forS; rw [h]
def loB : Sl → Bool
  | .io _ => false
  | _ => true
theorem setOk_lo {env : List Sl} {i : Nat} : setOk env i = match env[i]? with | some s => loB s | none => false := by
  unfold setOk
  cases env[i]? with
  | none => rfl
  | some s => cases s <;> rfl
@[simp] theorem loB_no : loB .no = true := id rfl
@[simp] theorem loB_shr {d : D} : loB (.shr d) = true := id rfl
@[simp] theorem loB_own {d : D} : loB (.own d) = true := id rfl
theorem lcL_ok {tg : Tg} {vs : List Nat} {elt : P} {env0 : List Sl} (f : D → D) : ∀ (ds : List D) (n : Nat), n + ds.length ≤ 16777216 →
    (∀ d ∈ ds, ∃ e e3, tgS tg d env0 = some e ∧ elt e = .ok (f d) e3 ∧ wipeOk e3 vs = true ∧ wipeE e3 vs = env0) → lcL tg vs yesT elt ds n env0 = .ok (ds.map f) env0
  | [], n, _, _ => by unfold lcL; rfl
  | d :: ds, n, hn, h => by
    obtain ⟨e, e3, h1, h2, h3, h4⟩ := h d (by simp)
    have ih := lcL_ok f ds (n + 1) (by simp at hn; omega) (fun x hx => h x (by simp [hx]))
    have hlt : n < 16777216 := by simp at hn; omega
    unfold lcL
    simp [h1, yesT, h2, h3, h4, hlt, ih]
-- G s_law_cell
def s_law_cell : Fn := fnOf 0 <|
  seqS (ifS (tst (bin ltD (.nm 1) (.ex (fz (blt lenL [(.nm 0)]))))) (retE (sh (bin idx (.nm 0) (.nm 1)))) (passS)) <|
  retE (sh (bin addI (.ex (bin mulI (.ex (cst (.int 977))) (.nm 1))) (.ex (cst (.int 31)))))
-- /G
-- G s_law_pool
def s_law_pool : Fn := fnOf 0 <|
  seqS (ifS (tst (bin geD (.nm 0) (.ex (bin powI (.ex (cst (.int 10))) (.ex (cst (.int 18))))))) (retE (lstP [bin subI (.nm 0) (.ex (bin powI (.ex (cst (.int 10))) (.ex (cst (.int 18))))), bin modI (.ex (fz (blt intL [(.nm 0)]))) (.ex (cst (.int 1000000007))), cst (.int 0)])) (passS)) <|
  seqS (ifS (tst (bin ltD (.nm 0) (.ex (cst (.int 0))))) (retE (lstP [cst (.int 0), bin modI (.ex (fz (blt intL [(.ex (bin subI (.ex (cst (.int 1))) (.ex (bin mulI (.ex (cst (.int 2))) (.nm 0)))))]))) (.ex (cst (.int 1000000007))), cst (.int 0)])) (passS)) <|
  retE (lstP [cst (.int 0), bin modI (.ex (fz (blt intL [(.ex (bin mulI (.ex (cst (.int 2))) (.nm 0)))]))) (.ex (cst (.int 1000000007))), cst (.int 0)])
-- /G
-- G s_law_take
def s_law_take : Fn := fnOf 2 <|
  seqS (putS lput 0 (cst (.int 2)) (bin addI (.ex (bin idx (.nm 0) (.ex (cst (.int 2))))) (.ex (cst (.int 1))))) <|
  seqS (ifS (tst (bin gtD (.ex (bin idx (.nm 0) (.ex (cst (.int 0))))) (.ex (cst (.int 1))))) (seqS (setE 2 (sh (bin modI (.ex (fz (blt intL [(.ex (bin idx (.nm 0) (.ex (cst (.int 0)))))]))) (.nm 1)))) <|
  seqS (putS lput 0 (cst (.int 0)) (bin fdivI (.ex (bin idx (.nm 0) (.ex (cst (.int 0))))) (.nm 1))) <|
  retV 2) (passS)) <|
  seqS (setE 3 (sh (bin modI (.ex (fz (blt intL [(.ex (bin addI (.ex (bin addI (.ex (bin idx (.nm 0) (.ex (cst (.int 1))))) (.ex (bin mulI (.ex (cst (.int 48271))) (.ex (bin idx (.nm 0) (.ex (cst (.int 2))))))))) (.ex (cst (.int 12345)))))]))) (.ex (cst (.int 2147483647)))))) <|
  seqS (setE 3 (sh (bin modI (.ex (fz (blt intL [(.ex (bin addI (.ex (bin addI (.ex (bin mulI (.nm 3) (.nm 3))) (.ex (bin mulI (.ex (cst (.int 16807))) (.ex (bin idx (.nm 0) (.ex (cst (.int 2))))))))) (.ex (cst (.int 7)))))]))) (.ex (cst (.int 2147483629)))))) <|
  seqS (setE 3 (sh (bin modI (.ex (fz (blt intL [(.ex (bin addI (.ex (bin addI (.ex (bin mulI (.nm 3) (.nm 3))) (.ex (bin mulI (.ex (cst (.int 69621))) (.ex (bin idx (.nm 0) (.ex (cst (.int 2))))))))) (.ex (cst (.int 3)))))]))) (.ex (cst (.int 2147483587)))))) <|
  retE (sh (bin modI (.ex (fz (blt intL [(.ex (bin fdivI (.nm 3) (.ex (cst (.int 7)))))]))) (.nm 1)))
-- /G
-- G s_law_same
def s_law_sameB (rc : Fn) : S :=
  seqS (ifS (tst (bin isN (.nm 1) (.ex (cst .non)))) (retE (sh (bin isN (.nm 0) (.ex (cst .non))))) (passS)) <|
  seqS (ifS (truT (.ex (una (isiB .bool) (.nm 1)))) (retE (sh (andP (una (isiB .bool) (.nm 0)) (bin eqD (.nm 0) (.nm 1))))) (passS)) <|
  seqS (ifS (truT (.ex (una (isiB .int) (.nm 1)))) (retE (sh (andP (una (isiB .int) (.nm 0)) (andP (notP (una (isiB .bool) (.nm 0))) (bin eqD (.nm 0) (.nm 1)))))) (passS)) <|
  seqS (ifS (truT (.ex (una (isiB .str) (.nm 1)))) (retE (sh (andP (una (isiB .str) (.nm 0)) (bin eqD (.nm 0) (.nm 1))))) (passS)) <|
  seqS (ifS (andT (truT (.ex (una (isiB .tuple) (.nm 1)))) (notT (truT (.ex (una (isiB .tuple) (.nm 0)))))) (retE (sh (cst (.bl false)))) (passS)) <|
  seqS (ifS (andT (truT (.ex (una (isiB .list) (.nm 1)))) (notT (truT (.ex (una (isiB .list) (.nm 0)))))) (retE (sh (cst (.bl false)))) (passS)) <|
  seqS (ifS (tst (bin neD (.ex (fz (blt lenL [(.nm 0)]))) (.ex (fz (blt lenL [(.nm 1)]))))) (retE (sh (cst (.bl false)))) (passS)) <|
  seqS (forS (rngI rng1D [(.ex (fz (blt lenL [(.nm 1)])))]) (.nm 2) (ifS (notT (truT (.ex (fz (callF rc [(.ex (bin idx (.nm 0) (.nm 2))), (.ex (bin idx (.nm 1) (.nm 2)))]))))) (retE (sh (cst (.bl false)))) (passS))) <|
  retE (sh (cst (.bl true)))
def s_law_same : Nat → Fn
  | 0 => fun _ => .bad
  | n + 1 => fnOf 1 (s_law_sameB (s_law_same n))
-- /G
-- G s_law_up
def s_law_up : Fn := fnOf 0 <|
  retE (sh (bin fdivI (.ex (bin subI (.ex (bin addI (.nm 0) (.nm 1))) (.ex (cst (.int 1))))) (.nm 1)))
-- /G
-- G s_law_lead
def s_law_lead : Fn := fnOf 0 <|
  retE (sh (bin mulI (.ex (bin subI (.ex (fz (callF s_law_up [(.nm 2), (.ex (bin subI (.nm 1) (.nm 0)))]))) (.ex (cst (.int 1))))) (.nm 0)))
-- /G
-- G s_law_least_run_b1
def s_law_least_run_b1 : S :=
  ifS (andT (tst (bin geD (.ex (bin idx (.nm 3) (.ex (cst (.int 0))))) (.nm 1))) (orT (tst (bin eqD (.nm 2) (.ex (cst (.int 0))))) (tst (bin ltD (.ex (bin idx (.nm 3) (.ex (cst (.int 1))))) (.nm 2))))) (setE 2 (sh (bin idx (.nm 3) (.ex (cst (.int 1)))))) (passS)
-- /G
-- G s_law_least_run
def s_law_least_run : Fn := fnOf 2 <|
  seqS (setE 2 (sh (cst (.int 0)))) <|
  seqS (forS (seqI (vr 0)) (.nm 3) (s_law_least_run_b1)) <|
  retV 2
-- /G
-- G s_law_plain_b1
def s_law_plain_b1 : S :=
  seqS (setE 3 (callF s_law_least_run [(.nm 0), (.nm 2)])) <|
  ifS (andT (tst (bin gtD (.nm 3) (.ex (cst (.int 0))))) (tst (bin neD (.nm 3) (.ex (fz (callF s_law_least_run [(.nm 0), (.ex (bin addI (.nm 2) (.ex (cst (.int 1)))))])))))) (mtS appD 1 [tupP [vr 2, vr 3]]) (passS)
-- /G
-- G s_law_plain
def s_law_plain : Fn := fnOf 3 <|
  seqS (setE 1 (lstP [])) <|
  seqS (forS (rngI rng2D [(.ex (cst (.int 1))), (.ex (cst (.int 17)))]) (.nm 2) (s_law_plain_b1)) <|
  retV 1
-- /G
-- G s_check_kind
def s_check_kind : Fn := fnOf 0 <|
  ifS (orT (notT (tst (chainP leD leD (.ex (cst (.int 1))) (.nm 0) (.ex (cst (.int 16)))))) (notT (tst (chainP leD leD (.ex (cst (.int 1))) (.nm 1) (.ex (cst (.int 120))))))) (raiseS "BadKind") (passS)
-- /G
-- G s_plain_list_b1
def s_plain_list_b1 : S :=
  ifS (tst (bin ltD (.nm 3) (.ex (get2P (.nm 1) (.nm 2) (.ex (bin addI (.ex (cst (.int 120))) (.ex (cst (.int 1))))))))) (putS dput 1 (vr 2) (vr 3)) (passS)
-- /G
-- G s_plain_list_b2
def s_plain_list_b2 : S :=
  ifS (tst (bin ltD (.ex (get2P (.nm 1) (.nm 2) (.nm 5))) (.nm 5))) (seqS (setE 5 (sh (bin sub (.nm 1) (.nm 2)))) <|
  mtS appD 4 [tupP [vr 2, vr 5]]) (passS)
-- /G
-- G s_plain_list
def s_plain_list : Fn := fnOf 5 <|
  seqS (setE 1 dnewE) <|
  seqS (forS (seqI (vr 0)) (.tup [.nm 2, .nm 3]) (s_plain_list_b1)) <|
  seqS (setE 4 (lstP [])) <|
  seqS (setE 5 (sh (bin addI (.ex (cst (.int 120))) (.ex (cst (.int 1)))))) <|
  seqS (forS (rngI rng3D [(.ex (cst (.int 16))), (.ex (cst (.int 0))), (.ex (una negI (.ex (cst (.int 1)))))]) (.nm 2) (s_plain_list_b2)) <|
  retE (revE (.nm 4))
-- /G
-- G s_Climate__init_b1
def s_Climate__init_b1 : S :=
  dropE (callF s_check_kind [(.nm 2), (.nm 3)])
-- /G
-- G s_Climate__init
def s_Climate__init : Fn := fnOf 2 <|
  seqS (ifS (tst (bin gtD (.ex (fz (blt lenL [(.nm 1)]))) (.ex (cst (.int 300))))) (raiseS "BadKind") (passS)) <|
  seqS (forS (seqI (vr 1)) (.tup [.nm 2, .nm 3]) (s_Climate__init_b1)) <|
  attS "Climate" "kinds" 0 (fz (blt tupleL [(.ex (fz (callF s_plain_list [(.nm 1)])))]))
-- /G
/-! ### _law_same -/
theorem same_eq (n : Nat) : s_law_same (n + 1) = fnOf 1 (s_law_sameB (s_law_same n)) := id rfl
def Same1 (n : Nat) (x : D) : Prop := s_law_same n [.shr x, .shr x] = .ok (.shr (.bl true)) [.no, .no]
theorem same_non {n : Nat} : Same1 (n + 1) .non := by
  simp [Same1, same_eq, s_law_sameB, pk, isN, isNonD]
theorem same_bl {n : Nat} (b : Bool) : Same1 (n + 1) (.bl b) := by
  simp [Same1, same_eq, s_law_sameB, pk, isN, isNonD, isiB, tru]
theorem same_int {n : Nat} (i : Int) : Same1 (n + 1) (.int i) := by
  simp [Same1, same_eq, s_law_sameB, pk, isN, isNonD, isiB, tru]
theorem same_str {n : Nat} (i : Str) (h : PyData.strOk i = true) : Same1 (n + 1) (.str i) := by
  simp [Same1, same_eq, s_law_sameB, pk, isN, isNonD, isiB, tru, h]
theorem same_loop {n : Nat} {x : D} {xs : List D} (hl : xs.length < 1000000) (hx : ∀ i : Nat, idx x (.int i) = xs[i]?) (h : ∀ y ∈ xs, Same1 n y) (s : Sl) (hs : s = .no ∨ ∃ j, s = .shr (.int j)) :
    ∃ s', loopS (.nm 2) (ifS (notT (truT (.ex (fz (callF (s_law_same n) [(.ex (bin idx (.nm 0) (.nm 2))), (.ex (bin idx (.nm 1) (.nm 2)))]))))) (retE (sh (cst (.bl false)))) (passS)) (rngL 0 xs.length) [.shr x, .shr x, s] = .nx [.shr x, .shr x, s'] := by
  obtain ⟨e', h1, s', h2, _⟩ := loop_nx (tg := .nm 2) (body := ifS (notT (truT (.ex (fz (callF (s_law_same n) [(.ex (bin idx (.nm 0) (.nm 2))), (.ex (bin idx (.nm 1) (.nm 2)))]))))) (retE (sh (cst (.bl false)))) (passS))
    (fun _ e => ∃ s', e = [.shr x, .shr x, s'] ∧ (s' = .no ∨ ∃ j, s' = .shr (.int j))) (rngL 0 xs.length) 0 _ ⟨s, rfl, hs⟩ (fun j d env hd hi => by
      obtain ⟨s', rfl, hs'⟩ := hi
      obtain ⟨rfl, hj⟩ := rngL_get hd
      have hg : idx x (.int (0 + (j : Int))) = some xs[j] := by rw [Int.zero_add, hx, List.getElem?_eq_getElem hj]
      have hy := h xs[j] (List.getElem_mem hj)
      unfold Same1 at hy
      refine ⟨[.shr x, .shr x, .shr (.int (0 + (j : Int)))], [.shr x, .shr x, .shr (.int (0 + (j : Int)))], ?_, .inl ?_, _, rfl, .inr ⟨_, rfl⟩⟩
      · rcases hs' with rfl | ⟨k, rfl⟩ <;> simp [tgS, setOk]
      · simp only [Int.zero_add] at hg ⊢
        simp [pk, hg, hy, names, keepOr, flatS, flat, tru])
  exact ⟨s', by rw [h1, h2]⟩
theorem same_lst {n : Nat} {xs : List D} (hl : xs.length < 1000000) (h : ∀ y ∈ xs, Same1 n y) : Same1 (n + 1) (.lst xs) := by
  obtain ⟨s', hs⟩ := same_loop (x := .lst xs) hl (fun i => by simp [idx, atI, ixN, bind_get]) h .no (.inl rfl)
  have r := rng1_ok (n := xs.length) (by omega)
  simp [Same1, same_eq, s_law_sameB, pk, isN, isNonD, isiB, tru, lenL, r, hs]
theorem same_tup {n : Nat} {xs : List D} (hl : xs.length < 1000000) (h : ∀ y ∈ xs, Same1 n y) : Same1 (n + 1) (.tup xs) := by
  obtain ⟨s', hs⟩ := same_loop (x := .tup xs) hl (fun i => by simp [idx, atI, ixN, bind_get]) h .no (.inl rfl)
  have r := rng1_ok (n := xs.length) (by omega)
  simp [Same1, same_eq, s_law_sameB, pk, isN, isNonD, isiB, tru, lenL, r, hs]
/-! ### a loop that may return -/
theorem loop_all {tg : Tg} {body : S} (Pd : D → Bool) (r : Sl) (I : List Sl → Prop) : ∀ (ds : List D) (env : List Sl), I env →
    (∀ d ∈ ds, ∀ env, I env → ∃ e e2, tgS tg d env = some e ∧ I e2 ∧ body e = if Pd d then .nx e2 else .rt r e2) → ∃ env', I env' ∧ loopS tg body ds env = if ds.all Pd then .nx env' else .rt r env'
  | [], env, h, _ => ⟨env, h, by unfold loopS; rfl⟩
  | d :: ds, env, h, st => by
    obtain ⟨e, e2, h1, h2, h3⟩ := st d (by simp) env h
    cases hp : Pd d with
    | false =>
      refine ⟨e2, h2, ?_⟩
      rw [hp] at h3
      simp only [Bool.false_eq_true, if_false] at h3
      unfold loopS
      simp [h1, h3, hp]
    | true =>
      obtain ⟨e3, g1, g2⟩ := loop_all Pd r I ds e2 h2 (fun x hx => st x (by simp [hx]))
      refine ⟨e3, g1, ?_⟩
      rw [hp] at h3
      simp only [if_true] at h3
      unfold loopS
      simp [h1, h3, hp, g2]
theorem loop_find {tg : Tg} {body : S} (g : D → Option Sl) (I : List Sl → Prop) : ∀ (ds : List D) (env : List Sl), I env →
    (∀ d ∈ ds, ∀ env, I env → ∃ e e2, tgS tg d env = some e ∧ I e2 ∧ body e = match g d with | none => .nx e2 | some r => .rt r e2) → ∃ env', I env' ∧ loopS tg body ds env = match ds.findSome? g with | none => .nx env' | some r => .rt r env'
  | [], env, h, _ => ⟨env, h, by unfold loopS; rfl⟩
  | d :: ds, env, h, st => by
    obtain ⟨e, e2, h1, h2, h3⟩ := st d (by simp) env h
    cases hp : g d with
    | some r =>
      refine ⟨e2, h2, ?_⟩
      rw [hp] at h3
      simp only [] at h3
      unfold loopS
      simp [h1, h3, hp]
    | none =>
      obtain ⟨e3, g1, g2⟩ := loop_find g I ds e2 h2 (fun x hx => st x (by simp [hx]))
      refine ⟨e3, g1, ?_⟩
      rw [hp] at h3
      simp only [] at h3
      unfold loopS
      simp [h1, h3, hp, g2]
theorem rngL_cons (lo : Int) (n : Nat) : rngL lo (n + 1) = .int lo :: rngL (lo + 1) n := by
  unfold rngL
  rw [List.range_succ_eq_map, List.map_cons, List.map_map]
  have e : (fun (i : Nat) => D.int (lo + (i : Int))) ∘ Nat.succ = fun (i : Nat) => D.int (lo + 1 + (i : Int)) := by
    funext i
    simp only [Function.comp]
    congr 1
    omega
  rw [e]
  simp
def firstG (L : Int) : D → Option Sl
  | .int b => if L ≤ b then some (Sl.shr (.int b)) else none
  | _ => none
theorem find_first (L : Int) : ∀ (n : Nat) (lo : Int), lo ≤ L → L < lo + n → (rngL lo n).findSome? (firstG L) = some (.shr (.int L))
  | 0, lo, h1, h2 => by omega
  | n + 1, lo, h1, h2 => by
    rw [rngL_cons, List.findSome?_cons]
    by_cases h : L ≤ lo
    · have : lo = L := by omega
      subst this
      simp [firstG]
    · simp only [firstG, h, if_false]
      exact find_first L n (lo + 1) (by omega) (by omega)
/-! ### kinds as data -/
def kD (k : Int × Int) : D := .tup [.int k.1, .int k.2]
@[simp] theorem nm_kD (x : Int × Int) : nm (kD x) = true := by simp [kD]
@[simp] theorem nms_kD (l : List (Int × Int)) : nms (l.map kD) = true := by
  induction l with
  | nil => simp
  | cons x l ih => simp [ih]
def Kin (w g : Int) (l : List (Int × Int)) : Prop := ∀ x ∈ l, 1 ≤ x.1 ∧ x.1 ≤ w ∧ 1 ≤ x.2 ∧ x.2 ≤ g
theorem Kin.snoc {w g : Int} {l : List (Int × Int)} (h : Kin w g l) {a b : Int} (ha : 1 ≤ a) (ha2 : a ≤ w) (hb : 1 ≤ b) (hb2 : b ≤ g) : Kin w g (l ++ [(a, b)]) := fun x hx => by
  rcases List.mem_append.mp hx with z | z
  · exact h x z
  · simp at z; subst z; exact ⟨ha, ha2, hb, hb2⟩
theorem Kin.up {w g w' g' : Int} {l : List (Int × Int)} (h : Kin w g l) (h1 : w ≤ w') (h2 : g ≤ g') : Kin w' g' l := fun x hx => by
  obtain ⟨a, b, c, d⟩ := h x hx
  exact ⟨a, by omega, c, by omega⟩
theorem Kin.ins {w g : Int} {l : List (Int × Int)} (h : Kin w g l) (i : Nat) {k : Int × Int} (hk : 1 ≤ k.1 ∧ k.1 ≤ w ∧ 1 ≤ k.2 ∧ k.2 ≤ g) : Kin w g (l.take i ++ [k] ++ l.drop i) := fun x hx => by
  simp only [List.mem_append, List.mem_singleton] at hx
  rcases hx with (hx | hx) | hx
  · exact h x (List.mem_of_mem_take hx)
  · subst hx; exact hk
  · exact h x (List.mem_of_mem_drop hx)
theorem Kin.take {w g : Int} {l : List (Int × Int)} (h : Kin w g l) (i : Nat) : Kin w g (l.take i) := fun x hx => h x (List.mem_of_mem_take hx)
theorem idx0 {x : D} {xs : List D} : idx (.tup (x :: xs)) (.int 0) = some x := by simp [idx, atI, ixN]
theorem idx1 {x y : D} {xs : List D} : idx (.tup (x :: y :: xs)) (.int 1) = some y := by
  have h : (1 : Int) < (xs.length : Int) + 1 + 1 := by omega
  simp [idx, atI, ixN, h]
theorem mulOk_r {i j : Int} (h1 : -18446744073709551616 < j) (h2 : j < 18446744073709551616) : mulOk i j = true := by
  unfold mulOk
  rw [decide_eq_true (by omega : j.natAbs < 18446744073709551616), Bool.or_true, Bool.true_or]
theorem kD_0 {x : Int × Int} : idx (kD x) (.int 0) = some (.int x.1) := idx0
theorem kD_1 {x : Int × Int} : idx (kD x) (.int 1) = some (.int x.2) := idx1
theorem mapk_get {l : List (Int × Int)} {j : Nat} {d : D} (h : (l.map kD)[j]? = some d) : ∃ x, l[j]? = some x ∧ d = kD x ∧ l.take (j + 1) = l.take j ++ [x] := by
  rw [List.getElem?_map] at h
  obtain ⟨x, h1, rfl⟩ := Option.map_eq_some_iff.mp h
  refine ⟨x, h1, rfl, ?_⟩
  obtain ⟨h2, h3⟩ := List.getElem?_eq_some_iff.mp h1
  rw [List.take_succ, h1]
  rfl
/-! ### least numbers of kinds -/
def omin : Option Int → Option Int → Option Int
  | none, b => b
  | some a, none => some a
  | some a, some b => some (min a b)
theorem omin_assoc (a b c : Option Int) : omin (omin a b) c = omin a (omin b c) := by
  cases a <;> cases b <;> cases c <;> simp [omin, Int.min_assoc]
theorem omin_comm (a b : Option Int) : omin a b = omin b a := by
  cases a <;> cases b <;> simp [omin, Int.min_comm]
def lsel (c : Int → Bool) (s : Option Int) (l : List (Int × Int)) : Option Int := l.foldl (fun s x => if c x.1 then omin s (some x.2) else s) s
def lo1 (l : List (Int × Int)) (w : Int) : Option Int := lsel (fun v => v == w) none l
def lge (l : List (Int × Int)) (w : Int) : Option Int := lsel (fun v => decide (w ≤ v)) none l
theorem lsel_snoc (c : Int → Bool) (s : Option Int) (l : List (Int × Int)) (x : Int × Int) : lsel c s (l ++ [x]) = if c x.1 then omin (lsel c s l) (some x.2) else lsel c s l := by
  unfold lsel
  rw [List.foldl_append]
  rfl
theorem lsel_cons (c : Int → Bool) (s : Option Int) (l : List (Int × Int)) (x : Int × Int) : lsel c s (x :: l) = lsel c (if c x.1 then omin s (some x.2) else s) l := rfl
theorem lsel_split (w : Int) : ∀ (l : List (Int × Int)) (s1 s2 : Option Int), lsel (fun v => decide (w ≤ v)) (omin s1 s2) l = omin (lsel (fun v => decide (w + 1 ≤ v)) s1 l) (lsel (fun v => v == w) s2 l)
  | [], s1, s2 => rfl
  | x :: l, s1, s2 => by
    rw [lsel_cons, lsel_cons, lsel_cons]
    by_cases h : x.1 = w
    · have e1 : decide (w ≤ x.1) = true := decide_eq_true (by omega)
      have e2 : decide (w + 1 ≤ x.1) = false := decide_eq_false (by omega)
      have e3 : (x.1 == w) = true := by simpa using h
      simp only [e1, e2, e3, if_true, if_false, Bool.false_eq_true]
      rw [omin_assoc]
      exact lsel_split w l s1 (omin s2 (some x.2))
    · have e3 : (x.1 == w) = false := by simpa using h
      by_cases h2 : w ≤ x.1
      · have e1 : decide (w ≤ x.1) = true := decide_eq_true h2
        have e2 : decide (w + 1 ≤ x.1) = true := decide_eq_true (by omega)
        simp only [e1, e2, e3, if_true, if_false, Bool.false_eq_true]
        rw [omin_assoc, omin_comm s2, ← omin_assoc]
        exact lsel_split w l (omin s1 (some x.2)) s2
      · have e1 : decide (w ≤ x.1) = false := decide_eq_false h2
        have e2 : decide (w + 1 ≤ x.1) = false := decide_eq_false (by omega)
        simp only [e1, e2, e3, if_false, Bool.false_eq_true]
        exact lsel_split w l s1 s2
theorem lge_step (l : List (Int × Int)) (w : Int) : lge l w = omin (lge l (w + 1)) (lo1 l w) := lsel_split w l none none
theorem lsel_mem {c : Int → Bool} : ∀ {l : List (Int × Int)} {s : Option Int} {m : Int}, lsel c s l = some m → s = some m ∨ ∃ x ∈ l, c x.1 = true ∧ x.2 = m
  | [], s, m, h => .inl h
  | x :: l, s, m, h => by
    unfold lsel at h
    rw [List.foldl_cons] at h
    have := lsel_mem (c := c) (l := l) (s := if c x.1 then omin s (some x.2) else s) h
    rcases this with e | ⟨y, h1, h2, h3⟩
    · split at e
      · rename_i hc
        cases s with
        | none =>
          simp [omin] at e
          exact .inr ⟨x, by simp, hc, e⟩
        | some t =>
          simp only [omin, Option.some.injEq] at e
          rcases Int.le_total t x.2 with z | z
          · rw [Int.min_eq_left z] at e; exact .inl (by rw [e])
          · rw [Int.min_eq_right z] at e; exact .inr ⟨x, by simp, hc, e⟩
      · exact .inl e
    · exact .inr ⟨y, by simp [h1], h2, h3⟩
theorem lge_top {l : List (Int × Int)} {g w : Int} (h : Kin w g l) : lge l (w + 1) = none := by
  cases e : lge l (w + 1) with
  | none => rfl
  | some m =>
    rcases lsel_mem e with z | ⟨x, h1, h2, _⟩
    · cases z
    · have := h x h1
      have := of_decide_eq_true h2
      omega
theorem lge_bound {l : List (Int × Int)} {g w v m : Int} (h : Kin w g l) (e : lge l v = some m) : 1 ≤ m ∧ m ≤ g := by
  rcases lsel_mem e with z | ⟨x, h1, _, h3⟩
  · cases z
  · have := h x h1
    omega
theorem lo1_bound {l : List (Int × Int)} {g w v m : Int} (h : Kin w g l) (e : lo1 l v = some m) : 1 ≤ m ∧ m ≤ g := by
  rcases lsel_mem e with z | ⟨x, h1, _, h3⟩
  · cases z
  · have := h x h1
    omega
def psel (l : List (Int × Int)) (w : Int) : Option (Int × Int) := match lge l w with
  | some m => if lge l (w + 1) = some m then none else some (w, m)
  | none => none
def plainP (l : List (Int × Int)) : List (Int × Int) := (List.range 16).filterMap fun (j : Nat) => psel l ((j : Int) + 1)
theorem plainP_in {l : List (Int × Int)} (h : Kin 16 120 l) : Kin 16 120 (plainP l) := fun x hx => by
  unfold plainP at hx
  obtain ⟨j, h1, h2⟩ := List.mem_filterMap.mp hx
  rw [List.mem_range] at h1
  unfold psel at h2
  split at h2
  · rename_i m e
    split at h2
    · cases h2
    · cases h2
      have := lge_bound h e
      exact ⟨by simp; omega, by simp; omega, this.1, this.2⟩
  · cases h2
theorem plainP_len {l : List (Int × Int)} : (plainP l).length ≤ 16 := by
  unfold plainP
  exact Nat.le_trans (List.length_filterMap_le ..) (by simp)
/-! ### the program's plain list -/
theorem lk_pt {j : Key} {e : D} (i : Key) : ∀ {ks : List Key} {ds : List D}, ks.length = ds.length → (pt ks ds j e).1.length = (pt ks ds j e).2.length ∧ (pt ks ds j e).1.length ≤ ks.length + 1 ∧
    lk (pt ks ds j e).1 (pt ks ds j e).2 i = if j = i then some e else lk ks ds i
  | [], [], _ => by
    by_cases h : j = i <;> simp [pt, lk, h]
  | k :: ks, d :: ds, h => by
    have h' : ks.length = ds.length := by simpa using h
    obtain ⟨g1, g2, g3⟩ := lk_pt (j := j) (e := e) i h'
    unfold pt
    by_cases hk : k = j
    · rw [if_pos hk]
      subst hk
      refine ⟨by simpa using h', by simp, ?_⟩
      by_cases hi : k = i <;> simp [lk, hi]
    · rw [if_neg hk]
      refine ⟨by simpa using g1, by simpa using g2, ?_⟩
      simp only [lk]
      rw [g3]
      by_cases hi : k = i
      · subst hi
        simp [Ne.symm hk]
      · simp [hi]
def LoK (ks : List Key) (ds : List D) (l : List (Int × Int)) : Prop := ks.length = ds.length ∧ ks.length ≤ l.length ∧ ∀ w : Int, lk ks ds (.inl w) = (lo1 l w).map D.int
theorem lo1_snoc {l : List (Int × Int)} {x : Int × Int} (w : Int) : lo1 (l ++ [x]) w = if x.1 = w then omin (lo1 l w) (some x.2) else lo1 l w := by
  unfold lo1
  rw [lsel_snoc]
  simp
theorem LoK.put {ks : List Key} {ds : List D} {l : List (Int × Int)} {x : Int × Int} (h : LoK ks ds l) (hx : ∀ m, lo1 l x.1 = some m → x.2 < m) : LoK (pt ks ds (.inl x.1) (.int x.2)).1 (pt ks ds (.inl x.1) (.int x.2)).2 (l ++ [x]) := by
  obtain ⟨h1, h2, h3⟩ := h
  refine ⟨(lk_pt (.inl 0) h1).1, by have := (lk_pt (j := .inl x.1) (e := .int x.2) (.inl 0) h1).2.1; simp; omega, fun w => ?_⟩
  rw [(lk_pt (.inl w) h1).2.2, h3, lo1_snoc]
  by_cases c : x.1 = w
  · subst c
    rw [if_pos rfl, if_pos rfl]
    cases e : lo1 l x.1 with
    | none => rfl
    | some m => simp [omin, Int.min_eq_right (Int.le_of_lt (hx m e))]
  · rw [if_neg c, if_neg (by simpa using c)]
theorem LoK.keep {ks : List Key} {ds : List D} {l : List (Int × Int)} {x : Int × Int} {m : Int} (h : LoK ks ds l) (hx : lo1 l x.1 = some m) (hm : ¬ x.2 < m) : LoK ks ds (l ++ [x]) := by
  obtain ⟨h1, h2, h3⟩ := h
  refine ⟨h1, by simp; omega, fun w => ?_⟩
  rw [h3, lo1_snoc]
  by_cases c : x.1 = w
  · subst c
    rw [if_pos rfl, hx]
    simp [omin, Int.min_eq_left (by omega : m ≤ x.2)]
  · rw [if_neg c]
theorem rngC_get {lo c : Int} {n j : Nat} {d : D} (h : (rngC lo c n)[j]? = some d) : d = .int (lo + (j : Int) * c) ∧ j < n := by
  unfold rngC at h
  rw [List.getElem?_map] at h
  obtain ⟨i, h1, rfl⟩ := Option.map_eq_some_iff.mp h
  obtain ⟨h2, h3⟩ := List.getElem?_eq_some_iff.mp h1
  rw [List.getElem_range] at h3
  subst h3
  exact ⟨rfl, by simpa using h2⟩
def getW (o : Option Int) : Int := match o with
  | some m => m
  | none => 121
def plainQ (l : List (Int × Int)) (k : Nat) : List (Int × Int) := (List.range k).filterMap fun (i : Nat) => psel l (16 - (i : Int))
theorem plainQ_rev (l : List (Int × Int)) : (plainQ l 16).reverse = plainP l := by
  unfold plainQ plainP
  have e : ((List.range 16).map fun (i : Nat) => (16 - (i : Int))).reverse = (List.range 16).map fun (i : Nat) => ((i : Int) + 1) := by decide +kernel
  have h1 : (List.range 16).filterMap (fun (i : Nat) => psel l (16 - (i : Int))) = ((List.range 16).map fun (i : Nat) => (16 - (i : Int))).filterMap (psel l) := by rw [List.filterMap_map]; rfl
  have h2 : (List.range 16).filterMap (fun (i : Nat) => psel l ((i : Int) + 1)) = ((List.range 16).map fun (i : Nat) => ((i : Int) + 1)).filterMap (psel l) := by rw [List.filterMap_map]; rfl
  rw [h1, h2, ← e, List.filterMap_reverse]
theorem plain_list_ok {l : List (Int × Int)} (h : Kin 16 120 l) (hl : l.length < 16777216) : s_plain_list [.shr (.lst (l.map kD))] = .ok (.own (.lst ((plainP l).map kD))) [.no] := by
  obtain ⟨env', g1, ks, ds, s2, s3, rfl, hK, _, _⟩ := loop_nx (tg := .tup [.nm 2, .nm 3]) (body := ifS (tst (bin ltD (.nm 3) (.ex (get2P (.nm 1) (.nm 2) (.ex (bin addI (.ex (cst (.int 120))) (.ex (cst (.int 1))))))))) (putS dput 1 (vr 2) (vr 3)) (passS))
    (fun k e => ∃ ks ds s2 s3, e = [.shr (.lst (l.map kD)), .own (.dic ks ds), s2, s3, .no, .no] ∧ LoK ks ds (l.take k) ∧ loB s2 = true ∧ loB s3 = true) (l.map kD) 0 [.shr (.lst (l.map kD)), .own (.dic [] []), .no, .no, .no, .no] ⟨[], [], .no, .no, rfl, ⟨rfl, by simp, fun w => by simp [lk, lo1, lsel]⟩, rfl, rfl⟩
    (fun j d env hd hi => by
      obtain ⟨ks, ds, s2, s3, rfl, hK, h2, h3⟩ := hi
      obtain ⟨x, hx, rfl, ht⟩ := mapk_get hd
      rw [Nat.zero_add] at hK ⊢
      have hxin := h x (List.mem_of_getElem? hx)
      have hkl : ks.length < 16777216 := by
        have := hK.2.1
        rw [List.length_take] at this
        omega
      have lkx := hK.2.2 x.1
      cases hm : lo1 (l.take j) x.1 with
      | none =>
        rw [hm] at lkx
        have c : x.2 < 121 := by omega
        refine ⟨[.shr (.lst (l.map kD)), .own (.dic ks ds), .shr (.int x.1), .shr (.int x.2), .no, .no], [.shr (.lst (l.map kD)), .own (.dic (pt ks ds (.inl x.1) (.int x.2)).1 (pt ks ds (.inl x.1) (.int x.2)).2), .shr (.int x.1), .shr (.int x.2), .no, .no], by simp [tgS, tgsS, kD, setOk_lo, h2, h3], .inl ?_, _, _, _, _, rfl, by rw [ht]; exact hK.put (fun m e => by rw [hm] at e; cases e), rfl, rfl⟩
        simp [pk, isDic, dgetO, keyD, lkx, flat, addI, ltD, c, dput, ownOf, hkl, setD]
      | some m =>
        rw [hm] at lkx
        by_cases c : x.2 < m
        · refine ⟨[.shr (.lst (l.map kD)), .own (.dic ks ds), .shr (.int x.1), .shr (.int x.2), .no, .no], [.shr (.lst (l.map kD)), .own (.dic (pt ks ds (.inl x.1) (.int x.2)).1 (pt ks ds (.inl x.1) (.int x.2)).2), .shr (.int x.1), .shr (.int x.2), .no, .no], by simp [tgS, tgsS, kD, setOk_lo, h2, h3], .inl ?_, _, _, _, _, rfl, by rw [ht]; exact hK.put (fun m' e => by rw [hm] at e; cases e; exact c), rfl, rfl⟩
          simp [pk, isDic, dgetO, keyD, lkx, flat, addI, ltD, c, dput, ownOf, hkl, setD]
        · refine ⟨[.shr (.lst (l.map kD)), .own (.dic ks ds), .shr (.int x.1), .shr (.int x.2), .no, .no], [.shr (.lst (l.map kD)), .own (.dic ks ds), .shr (.int x.1), .shr (.int x.2), .no, .no], by simp [tgS, tgsS, kD, setOk_lo, h2, h3], .inl ?_, _, _, _, _, rfl, by rw [ht]; exact hK.keep hm c, rfl, rfl⟩
          simp [pk, isDic, dgetO, keyD, lkx, flat, addI, ltD, c])
  rw [Nat.zero_add, List.length_map, List.take_length] at hK
  have h121 : getW none = 121 := rfl
  obtain ⟨env2, g2, t2, rfl, _⟩ := loop_nx (tg := .nm 2) (body := ifS (tst (bin ltD (.ex (get2P (.nm 1) (.nm 2) (.nm 5))) (.nm 5))) (seqS (setE 5 (sh (bin sub (.nm 1) (.nm 2)))) <|
  mtS appD 4 [tupP [vr 2, vr 5]]) (passS))
    (fun k e => ∃ t2, e = [.shr (.lst (l.map kD)), .own (.dic ks ds), t2, s3, .own (.lst ((plainQ l k).map kD)), .shr (.int (getW (lge l (16 - (k : Int) + 1))))] ∧ loB t2 = true) (rngC 16 (-1) 16) 0 [.shr (.lst (l.map kD)), .own (.dic ks ds), s2, s3, .own (.lst []), .shr (.int 121)]
    ⟨s2, by rw [show (16 - ((0 : Nat) : Int) + 1) = 16 + 1 by rfl, lge_top h]; rfl, by assumption⟩
    (fun j d env hd hi => by
      obtain ⟨t2, rfl, h2⟩ := hi
      obtain ⟨rfl, hj⟩ := rngC_get hd
      rw [Nat.zero_add]
      obtain ⟨w, hw⟩ : ∃ w : Int, w = 16 - (j : Int) := ⟨_, rfl⟩
      have e1 : (16 + (j : Int) * -1) = w := by omega
      have e2 : (16 - ((j + 1 : Nat) : Int) + 1) = w := by omega
      rw [e1, e2, ← hw]
      have hst := lge_step l w
      have lkw := hK.2.2 w
      have eq : plainQ l (j + 1) = plainQ l j ++ (psel l w).toList := by
        unfold plainQ
        rw [List.range_succ, List.filterMap_append, hw]
        congr 1
      have hlen : (plainQ l j).length < 16777216 := by
        have := List.length_filterMap_le (fun (i : Nat) => psel l (16 - (i : Int))) (List.range j)
        rw [List.length_range] at this
        unfold plainQ
        omega
      rw [eq]
      refine ⟨[.shr (.lst (l.map kD)), .own (.dic ks ds), .shr (.int w), s3, .own (.lst ((plainQ l j).map kD)), .shr (.int (getW (lge l (w + 1))))], [.shr (.lst (l.map kD)), .own (.dic ks ds), .shr (.int w), s3, .own (.lst ((plainQ l j ++ (psel l w).toList).map kD)), .shr (.int (getW (lge l w)))], by simp [tgS, setOk_lo, h2], .inl ?_, _, rfl, rfl⟩
      unfold psel
      cases hm : lo1 l w with
      | none =>
        rw [hm] at lkw hst
        have h0 : lge l w = lge l (w + 1) := by rw [hst]; cases lge l (w + 1) <;> rfl
        rw [h0]
        cases hg : lge l (w + 1) with
        | none => simp [pk, isDic, dgetO, keyD, lkw, flat, ltD]
        | some m' => simp [pk, isDic, dgetO, keyD, lkw, flat, ltD]
      | some m =>
        rw [hm] at lkw hst
        have mb := lo1_bound h hm
        cases hg : lge l (w + 1) with
        | none =>
          rw [hg] at hst
          have c : m < 121 := by omega
          have hst' : lge l w = some m := hst
          rw [hst']
          simp [pk, isDic, dgetO, keyD, lkw, flat, ltD, getW, c, sub, dget, setOk_lo, ownLst, ownOf, appD, hlen, setD, kD]
        | some m' =>
          rw [hg] at hst
          have hst' : lge l w = some (min m' m) := hst
          by_cases c : m < m'
          · rw [hst', Int.min_eq_right (by omega : m ≤ m')]
            have c' : ¬ (m' = m) := by omega
            simp [pk, isDic, dgetO, keyD, lkw, flat, ltD, getW, c, c', sub, dget, setOk_lo, ownLst, ownOf, appD, hlen, setD, kD]
          · rw [hst', Int.min_eq_left (by omega : m' ≤ m)]
            simp [pk, isDic, dgetO, keyD, lkw, flat, ltD, getW, c])
  have r : rng3D [.int 16, .int 0, .int (-1)] = some (rngC 16 (-1) 16) := by
    have c1 : ((-1 : Int) ≠ 0 ∧ (-1 : Int).natAbs < 1073741824 ∧ Builtin.Range.small 16 0 (-1) = true) := by decide +kernel
    have c2 : (Builtin.Range.rangeSize 16 0 (-1)).toNat = 16 := by decide +kernel
    unfold rng3D
    simp only [c1, c2, if_true, and_self, ne_eq, not_false_eq_true]
  have r1 : (rngC 16 (-1) 16).length = 16 := by simp [rngC]
  rw [r1, Nat.zero_add] at g2
  have pr := plainQ_rev l
  have pr2 : ((plainQ l 16).map kD).reverse = (plainP l).map kD := by rw [← List.map_reverse, pr]
  simp [s_plain_list, s_plain_list_b2, s_plain_list_b1, setOk_lo, g1, lstL, addI, negI, r, g2, pk, revL, pr2]
/-! ### a climate made -/
def cliD (P : List (Int × Int)) : D := .ins "Climate" ["kinds"] [.tup (P.map kD)]
theorem check_ok {w g : Int} (h : 1 ≤ w ∧ w ≤ 16 ∧ 1 ≤ g ∧ g ≤ 120) : s_check_kind [.shr (.int w), .shr (.int g)] = .ok (.shr .non) [.no, .no] := by
  obtain ⟨a, b, c, d⟩ := h
  simp [s_check_kind, pk, leD, a, b, c, d]
theorem cli_init {l : List (Int × Int)} (h : Kin 16 120 l) (hl : l.length ≤ 300) : s_Climate__init [.io (.ins "Climate" [] []), .shr (.lst (l.map kD))] = .ok (.shr .non) [.io (cliD (plainP l)), .no] := by
  obtain ⟨env', g1, s2, s3, rfl, _, _⟩ := loop_nx (tg := .tup [.nm 2, .nm 3]) (body := dropE (callF s_check_kind [(.nm 2), (.nm 3)]))
    (fun k e => ∃ s2 s3, e = [.io (.ins "Climate" [] []), .shr (.lst (l.map kD)), s2, s3] ∧ loB s2 = true ∧ loB s3 = true) (l.map kD) 0 [.io (.ins "Climate" [] []), .shr (.lst (l.map kD)), .no, .no] ⟨.no, .no, rfl, rfl, rfl⟩
    (fun j d env hd hi => by
      obtain ⟨s2, s3, rfl, h2, h3⟩ := hi
      obtain ⟨x, hx, rfl, ht⟩ := mapk_get hd
      have e := check_ok (h x (List.mem_of_getElem? hx))
      refine ⟨[.io (.ins "Climate" [] []), .shr (.lst (l.map kD)), .shr (.int x.1), .shr (.int x.2)], [.io (.ins "Climate" [] []), .shr (.lst (l.map kD)), .shr (.int x.1), .shr (.int x.2)], by simp [tgS, tgsS, kD, setOk_lo, h2, h3], .inl ?_, _, _, rfl, rfl, rfl⟩
      simp [pk, e, names, keepOr, flatS, flat])
  have hl2 : ¬ ((300 : Int) < l.length) := by omega
  have e := plain_list_ok h (by omega)
  have fl : ∀ ds : List D, flatO (.lst ds) = ds.all flat := fun _ => rfl
  cases hb : ((plainP l).map kD).all flat with
  | true => simp [s_Climate__init, s_Climate__init_b1, pk, lenL, gtD, hl2, g1, e, names, keepOr, frzNs, frzN, flatS, fl, hb, tupleL, ownOf, putN, setD, cliD]
  | false => simp [s_Climate__init, s_Climate__init_b1, pk, lenL, gtD, hl2, g1, e, names, keepOr, frzNs, frzN, flatS, fl, hb, tupleL, ownOf, putN, setD, cliD]
theorem own_cli {P : List (Int × Int)} {env : List Sl} {i : Nat} (h : env[i]? = some (.shr (cliD P))) : ownI "Climate" "kinds" (vr i) env = .ok (P.map kD) env := by
  simp [h, cliD]
/-! ### _law_up, _law_lead -/
theorem up_ok {x y : Int} (h0 : 0 < y) (h1 : y < 1073741824) : s_law_up [.shr (.int x), .shr (.int y)] = .ok (.shr (.int ((x + y - 1) / y))) [.no, .no] := by
  have h2 : y.natAbs < 1073741824 := by omega
  simp [s_law_up, pk, addI, subI, fdivI, h0, h2]
def leadZ (a b w : Int) : Int := ((w + (b - a) - 1) / (b - a) - 1) * a
theorem lead_ok {a b w : Int} (h0 : 1 ≤ a) (h1 : a < b) (h2 : b ≤ 12) : s_law_lead [.shr (.int a), .shr (.int b), .shr (.int w)] = .ok (.shr (.int (leadZ a b w))) [.no, .no, .no] := by
  have e := up_ok (x := w) (y := b - a) (by omega) (by omega)
  have m : mulOk ((w + (b - a) - 1) / (b - a) - 1) a = true := by
    unfold mulOk
    rw [decide_eq_true (by omega : a.natAbs < 18446744073709551616), Bool.or_true, Bool.true_or]
  simp [s_law_lead, pk, subI, e, names, keepOr, frzNs, frzN, flatS, flat, mulI, m, leadZ]
/-! ### the law's plain list -/
def getZ (o : Option Int) : Int := match o with
  | some m => m
  | none => 0
theorem least_run_ok {l : List (Int × Int)} {v : Int} (h : Kin 16 120 l) : s_law_least_run [.shr (.lst (l.map kD)), .shr (.int v)] = .ok (.shr (.int (getZ (lge l v)))) [.no, .no] := by
  obtain ⟨env', g1, s3, rfl, _⟩ := loop_nx (tg := .nm 3) (body := ifS (andT (tst (bin geD (.ex (bin idx (.nm 3) (.ex (cst (.int 0))))) (.nm 1))) (orT (tst (bin eqD (.nm 2) (.ex (cst (.int 0))))) (tst (bin ltD (.ex (bin idx (.nm 3) (.ex (cst (.int 1))))) (.nm 2))))) (setE 2 (sh (bin idx (.nm 3) (.ex (cst (.int 1)))))) (passS))
    (fun k e => ∃ s3, e = [.shr (.lst (l.map kD)), .shr (.int v), .shr (.int (getZ (lge (l.take k) v))), s3] ∧ loB s3 = true) (l.map kD) 0 [.shr (.lst (l.map kD)), .shr (.int v), .shr (.int 0), .no] ⟨.no, by simp [lge, lsel, getZ], rfl⟩
    (fun j d env hd hi => by
      obtain ⟨s3, rfl, h3⟩ := hi
      obtain ⟨x, hx, rfl, ht⟩ := mapk_get hd
      rw [Nat.zero_add]
      have hxin := h x (List.mem_of_getElem? hx)
      have e : lge (l.take (j + 1)) v = if v ≤ x.1 then omin (lge (l.take j) v) (some x.2) else lge (l.take j) v := by
        rw [ht]; unfold lge; rw [lsel_snoc]; simp
      refine ⟨[.shr (.lst (l.map kD)), .shr (.int v), .shr (.int (getZ (lge (l.take j) v))), .shr (kD x)], [.shr (.lst (l.map kD)), .shr (.int v), .shr (.int (getZ (lge (l.take (j + 1)) v))), .shr (kD x)], by simp [tgS, setOk_lo, h3], .inl ?_, _, rfl, rfl⟩
      cases hm : lge (l.take j) v with
      | none =>
        rw [hm] at e
        rw [e]
        by_cases c : v ≤ x.1 <;> simp [pk, kD_0, kD_1, geD, ltD, getZ, omin, c, setOk_lo]
      | some m =>
        have mb := lge_bound (h.take j) hm
        rw [hm] at e
        rw [e]
        have m0 : (m == 0) = false := beq_eq_false_iff_ne.mpr (by omega)
        by_cases c : v ≤ x.1
        · by_cases c2 : x.2 < m
          · simp [pk, kD_0, kD_1, geD, ltD, getZ, omin, c, c2, m0, setOk_lo, Int.min_eq_right (by omega : x.2 ≤ m)]
          · simp [pk, kD_0, kD_1, geD, ltD, getZ, omin, c, c2, m0, setOk_lo, Int.min_eq_left (by omega : m ≤ x.2)]
        · simp [pk, kD_0, kD_1, geD, ltD, getZ, omin, c, m0, setOk_lo])
  rw [Nat.zero_add, List.length_map, List.take_length] at g1
  simp [s_law_least_run, s_law_least_run_b1, setOk_lo, g1]
theorem law_plain_ok {l : List (Int × Int)} (h : Kin 16 120 l) : s_law_plain [.shr (.lst (l.map kD))] = .ok (.own (.lst ((plainP l).map kD))) [.no] := by
  obtain ⟨env', g1, s2, s3, rfl, _, _⟩ := loop_nx (tg := .nm 2) (body := seqS (setE 3 (callF s_law_least_run [(.nm 0), (.nm 2)])) <|
  ifS (andT (tst (bin gtD (.nm 3) (.ex (cst (.int 0))))) (tst (bin neD (.nm 3) (.ex (fz (callF s_law_least_run [(.nm 0), (.ex (bin addI (.nm 2) (.ex (cst (.int 1)))))])))))) (mtS appD 1 [tupP [vr 2, vr 3]]) (passS))
    (fun k e => ∃ s2 s3, e = [.shr (.lst (l.map kD)), .own (.lst (((List.range k).filterMap fun (j : Nat) => psel l ((j : Int) + 1)).map kD)), s2, s3] ∧ loB s2 = true ∧ loB s3 = true) (rngL 1 16) 0 [.shr (.lst (l.map kD)), .own (.lst []), .no, .no] ⟨.no, .no, rfl, rfl, rfl⟩
    (fun j d env hd hi => by
      obtain ⟨s2, s3, rfl, h2, h3⟩ := hi
      obtain ⟨rfl, hj⟩ := rngL_get hd
      rw [Nat.zero_add]
      have e1 := least_run_ok (v := 1 + (j : Int)) h
      have e2 := least_run_ok (v := 1 + (j : Int) + 1) h
      have er : (List.range (j + 1)).filterMap (fun (j : Nat) => psel l ((j : Int) + 1)) = (List.range j).filterMap (fun (j : Nat) => psel l ((j : Int) + 1)) ++ (psel l ((j : Int) + 1)).toList := by
        rw [List.range_succ, List.filterMap_append]
        congr 1
      have hlen : ((List.range j).filterMap fun (j : Nat) => psel l ((j : Int) + 1)).length < 16777216 := by
        have := List.length_filterMap_le (fun (j : Nat) => psel l ((j : Int) + 1)) (List.range j)
        rw [List.length_range] at this
        omega
      refine ⟨[.shr (.lst (l.map kD)), .own (.lst (((List.range j).filterMap fun (j : Nat) => psel l ((j : Int) + 1)).map kD)), .shr (.int (1 + (j : Int))), s3], [.shr (.lst (l.map kD)), .own (.lst (((List.range (j + 1)).filterMap fun (j : Nat) => psel l ((j : Int) + 1)).map kD)), .shr (.int (1 + (j : Int))), .shr (.int (getZ (lge l (1 + (j : Int)))))], by simp [tgS, setOk_lo, h2], .inl ?_, _, _, rfl, rfl, rfl⟩
      rw [er]
      have ps : psel l ((j : Int) + 1) = match lge l (1 + (j : Int)) with | some m => if lge l (1 + (j : Int) + 1) = some m then none else some (1 + (j : Int), m) | none => none := by
        rw [Int.add_comm (j : Int) 1]; rfl
      rw [ps]
      cases hm : lge l (1 + (j : Int)) with
      | none =>
        rw [hm] at e1
        simp only [getZ] at e1
        simp [pk, e1, names, keepOr, frzNs, frzN, flatS, flat, setOk_lo, h3, gtD, getZ]
      | some m =>
        rw [hm] at e1
        have mb := lge_bound h hm
        simp only [getZ] at e1
        cases hm2 : lge l (1 + (j : Int) + 1) with
        | none =>
          rw [hm2] at e2
          simp only [getZ] at e2
          have m0 : (m == 0) = false := beq_eq_false_iff_ne.mpr (by omega)
          have m1 : 0 < m := by omega
          simp [pk, e1, e2, names, keepOr, frzNs, frzN, flatS, flat, setOk_lo, h3, gtD, addI, getZ, m0, m1, ownLst, ownOf, appD, hlen, setD, kD]
        | some m' =>
          rw [hm2] at e2
          simp only [getZ] at e2
          have m1 : 0 < m := by omega
          by_cases c : m' = m
          · subst c
            simp [pk, e1, e2, names, keepOr, frzNs, frzN, flatS, flat, setOk_lo, h3, gtD, addI, getZ, m1]
          · have m0 : (m == m') = false := beq_eq_false_iff_ne.mpr (by omega)
            have c' : ¬ (m' = m) := c
            simp [pk, e1, e2, names, keepOr, frzNs, frzN, flatS, flat, setOk_lo, h3, gtD, addI, getZ, m0, m1, c', ownLst, ownOf, appD, hlen, setD, kD])
  rw [rngL_len, Nat.zero_add] at g1
  have r : rng2D [.int 1, .int 17] = some (rngL 1 16) := by
    unfold rng2D
    simp
  simp [s_law_plain, s_law_plain_b1, setOk_lo, lstL, r, g1, plainP]

end PL

/-! Pl27: more equations for simp: environments, operators on numbers. -/
namespace PL
open PySem L2
section
variable {env : List Sl} {i : Nat} {as : List PL.A} {k : Bool} {L : List Nat}
@[simp] theorem q_pk : pk env i = (match env[i]? with | some (.shr d) => some d | some (.own d) => some d | some (.io d) => some d | _ => none) := id rfl
@[simp] theorem q_names0 : names [] = [] := id rfl
@[simp] theorem q_namesn : names (.nm i :: as) = i :: names as := id rfl
@[simp] theorem q_namesx {f : P} : names (.ex f :: as) = names as := id rfl
@[simp] theorem q_keepOr : keepOr k L env = if k then some env else frzNs L env := id rfl
@[simp] theorem q_frzNs0 : frzNs [] env = some env := id rfl
@[simp] theorem q_frzNsc : frzNs (i :: L) env = (frzN env i).bind (frzNs L) := id rfl
@[simp] theorem q_frzN : frzN env i = (match env[i]? with | some (.own d) => some (env.set i (.shr d)) | some (.shr _) => some env | _ => none) := id rfl
@[simp] theorem q_ownOf : ownOf env i = (match env[i]? with | some (.own d) => some d | some (.io d) => some d | _ => none) := id rfl
@[simp] theorem q_ownLst : ownLst env i = (match ownOf env i with | some (.lst ds) => some ds | _ => none) := id rfl
@[simp] theorem q_setD {d : D} : setD env i d = (match env[i]? with | some (.own _) => env.set i (.own d) | some (.io _) => env.set i (.io d) | _ => env) := id rfl
@[simp] theorem q_flatS1 {d : D} : flatS (.shr d) = flat d := id rfl
@[simp] theorem q_flatS2 {d : D} : flatS (.own d) = flatO d := id rfl
@[simp] theorem q_flat1 {x : Int} : flat (.int x) = true := id rfl
@[simp] theorem q_flat2 {x : Str} : flat (.str x) = true := id rfl
@[simp] theorem q_flat3 {x : Bool} : flat (.bl x) = true := id rfl
@[simp] theorem q_flat4 : flat .non = true := id rfl
@[simp] theorem q_flat5 {ds : List D} : flat (.tup ds) = false := id rfl
@[simp] theorem q_flat6 {ds : List D} : flat (.lst ds) = false := id rfl
@[simp] theorem q_flat7 {c : Str} {ns : List Str} {ds : List D} : flat (.ins c ns ds) = false := id rfl
@[simp] theorem q_flatO1 {ds : List D} : flatO (.lst ds) = ds.all flat := id rfl
@[simp] theorem q_flatO2 {c : Str} {ns : List Str} {ds : List D} : flatO (.ins c ns ds) = ds.all flat := id rfl
@[simp] theorem q_flatints {xs : List Int} : (xs.map D.int).all flat = true := by simp
@[simp] theorem q_flatbls {α : Type} {f : α → Bool} {xs : List α} : (xs.map fun x => D.bl (f x)).all flat = true := by simp
@[simp] theorem q_flatintf {α : Type} {f : α → Int} {xs : List α} : (xs.map fun x => D.int (f x)).all flat = true := by simp
theorem nms_map {α : Type} {f : α → D} (h : ∀ x, nm (f x) = true) : ∀ xs : List α, nms (xs.map f) = true
  | [] => by simp
  | x :: xs => by simp [h, nms_map h xs]
@[simp] theorem q_nmints {xs : List Int} : nms (xs.map D.int) = true := nms_map (fun _ => by simp) xs
@[simp] theorem q_nmbls {α : Type} {f : α → Bool} {xs : List α} : nms (xs.map fun x => D.bl (f x)) = true := nms_map (fun _ => by simp) xs
@[simp] theorem q_nmintf {α : Type} {f : α → Int} {xs : List α} : nms (xs.map fun x => D.int (f x)) = true := nms_map (fun _ => by simp) xs
@[simp] theorem q_nmtupf {α : Type} {f : α → List D} {xs : List α} (h : ∀ x, nms (f x) = true) : nms (xs.map fun x => D.tup (f x)) = true := nms_map (fun x => by simp [h x]) xs
-- truth
@[simp] theorem q_tru1 {b : Bool} : tru (.bl b) = some b := id rfl
@[simp] theorem q_tru2 {b : Int} : tru (.int b) = some (b != 0) := id rfl
@[simp] theorem q_tru3 {b : List D} : tru (.lst b) = some (!b.isEmpty) := id rfl
@[simp] theorem q_tru4 {b : List D} : tru (.tup b) = some (!b.isEmpty) := id rfl
@[simp] theorem q_tru5 : tru .non = some false := id rfl
-- operators
variable {x y z : Int}
@[simp] theorem o_addI : addI (.int x) (.int y) = some (.int (x + y)) := id rfl
@[simp] theorem o_subI : subI (.int x) (.int y) = some (.int (x - y)) := id rfl
@[simp] theorem o_negI : negI (.int x) = some (.int (-x)) := id rfl
@[simp] theorem o_addS : addS (.int x) (.int y) = some (.int (x + y)) := id rfl
@[simp] theorem o_addD : addD (.int x) (.int y) = some (.shr (.int (x + y))) := id rfl
theorem o_addDs {u v : Str} (h : u.length + v.length ≤ 16777216) : addD (.str u) (.str v) = some (.shr (.str (u ++ v))) := by simp [addD, h]
theorem o_addDl {u v : List D} (h : u.length + v.length ≤ 16777216) : addD (.lst u) (.lst v) = some (.own (.lst (u ++ v))) := by simp [addD, h]
@[simp] theorem o_ltD : ltD (.int x) (.int y) = some (.bl (decide (x < y))) := id rfl
@[simp] theorem o_leD : leD (.int x) (.int y) = some (.bl (decide (x ≤ y))) := id rfl
@[simp] theorem o_gtD : gtD (.int x) (.int y) = some (.bl (decide (y < x))) := id rfl
@[simp] theorem o_geD : geD (.int x) (.int y) = some (.bl (decide (y ≤ x))) := id rfl
@[simp] theorem o_isN {d : D} : isN d .non = some (.bl (isNonD d)) := by cases d <;> exact id rfl
@[simp] theorem o_isnN {d : D} : isnN d .non = some (.bl (!isNonD d)) := by cases d <;> exact id rfl
@[simp] theorem o_isNon0 : isNonD .non = true := id rfl
@[simp] theorem o_isNon1 : isNonD (.int x) = false := id rfl
@[simp] theorem o_isNon2 {u : Str} : isNonD (.str u) = false := id rfl
@[simp] theorem o_isNon3 {u : Bool} : isNonD (.bl u) = false := id rfl
@[simp] theorem o_isNon4 {u : List D} : isNonD (.lst u) = false := id rfl
@[simp] theorem o_isNon5 {u : List D} : isNonD (.tup u) = false := id rfl
@[simp] theorem o_isNon6 {c : Str} {ns : List Str} {u : List D} : isNonD (.ins c ns u) = false := id rfl
theorem o_mulR (h1 : -18446744073709551616 < y) (h2 : y < 18446744073709551616) : mulI (.int x) (.int y) = some (.int (x * y)) := by
  have : mulOk x y = true := by
    unfold mulOk
    rw [decide_eq_true (by omega : y.natAbs < 18446744073709551616)]; simp
  simp [mulI, this]
theorem o_mulL (h1 : -18446744073709551616 < x) (h2 : x < 18446744073709551616) : mulI (.int x) (.int y) = some (.int (x * y)) := by
  have : mulOk x y = true := by
    unfold mulOk
    rw [decide_eq_true (by omega : x.natAbs < 18446744073709551616)]; simp
  simp [mulI, this]
theorem o_fdiv (h1 : 0 < y) (h2 : y < 1073741824) : fdivI (.int x) (.int y) = some (.int (x / y)) := by
  have : y.natAbs < 1073741824 := by omega
  simp [fdivI, h1, this]
theorem o_mod (h1 : 0 < y) : modI (.int x) (.int y) = some (.int (x % y)) := by simp [modI, h1]
@[simp] theorem o_len {ds : List D} : lenL [.lst ds] = some (.shr (.int ds.length)) := id rfl
@[simp] theorem o_lent {ds : List D} : lenL [.tup ds] = some (.shr (.int ds.length)) := id rfl
@[simp] theorem o_lens {ds : List Int} : lenL [.scr ds] = some (.shr (.int ds.length)) := id rfl
theorem o_lenstr {u : Str} (h : u.length ≤ 16777216) : lenL [.str u] = some (.shr (.int u.length)) := by simp [lenL, h]
@[simp] theorem o_int : intL [.int x] = some (.shr (.int x)) := id rfl
@[simp] theorem o_intb {b : Bool} : intL [.bl b] = some (.shr (.int (if b then 1 else 0))) := id rfl
@[simp] theorem o_max2 : max2L [.int x, .int y] = some (.shr (.int (max x y))) := by
  have : (if y > x then y else x) = max x y := by omega
  simp only [max2L, this]
@[simp] theorem o_min2 : min2L [.int x, .int y] = some (.shr (.int (min x y))) := by
  have : (if y < x then y else x) = min x y := by omega
  simp only [min2L, this]
@[simp] theorem o_min3 : min3L [.int x, .int y, .int z] = some (.shr (.int (min (min x y) z))) := by
  have : (let m := if y < x then y else x; if z < m then z else m) = min (min x y) z := by simp only; omega
  simp only [min3L, this]
@[simp] theorem o_max3 : max3L [.int x, .int y, .int z] = some (.shr (.int (max (max x y) z))) := by
  have : (let m := if x < y then y else x; if m < z then z else m) = max (max x y) z := by simp only; omega
  simp only [max3L, this]
@[simp] theorem o_abs : absL [.int x] = some (.shr (.int (if x < 0 then -x else x))) := id rfl
@[simp] theorem o_list {ds : List D} : listL [.lst ds] = some (.own (.lst ds)) := id rfl
@[simp] theorem o_listt {ds : List D} : listL [.tup ds] = some (.own (.lst ds)) := id rfl
@[simp] theorem o_tuple {ds : List D} : tupleL [.lst ds] = some (.shr (.tup ds)) := id rfl
@[simp] theorem o_tuplet {ds : List D} : tupleL [.tup ds] = some (.shr (.tup ds)) := id rfl
@[simp] theorem o_rev {ds : List D} : revL (.lst ds) = some (.own (.lst ds.reverse)) := id rfl
theorem ixN_nn {n : Nat} (h0 : 0 ≤ x) (h1 : x < n) : ixN n x = some x.toNat := by simp [ixN, h0, h1]
theorem ixN_neg {n : Nat} (h0 : x < 0) (h1 : -(n : Int) ≤ x) : ixN n x = some (x + n).toNat := by
  have : ¬ 0 ≤ x := by omega
  simp [ixN, this, h1]
theorem atI_nn {α : Type} {xs : List α} (h0 : 0 ≤ x) : atI xs x = xs[x.toNat]? := by
  unfold atI ixN
  rw [if_pos h0]
  split
  · rfl
  · rename_i h
    rw [List.getElem?_eq_none (by omega)]; rfl
theorem o_idx {ds : List D} (h0 : 0 ≤ x) : idx (.lst ds) (.int x) = ds[x.toNat]? := atI_nn h0
theorem o_idxt {ds : List D} (h0 : 0 ≤ x) : idx (.tup ds) (.int x) = ds[x.toNat]? := atI_nn h0
theorem o_idxs {ds : List Int} (h0 : 0 ≤ x) : idx (.scr ds) (.int x) = ds[x.toNat]?.map .int := by simp [idx, atI_nn h0]
theorem o_idxl {ds : List D} : idx (.lst ds) (.int (-1)) = ds.getLast? := by
  cases ds with
  | nil => simp [idx, atI, ixN]
  | cons d ds =>
    have h : ¬ ((0 : Int) ≤ -1) := by omega
    have h2 : (1 : Int) ≤ (ds.length : Int) + 1 := by omega
    have h3 : (-1 + ((ds.length : Int) + 1)).toNat = ds.length := by omega
    simp [idx, atI, ixN, List.getLast?_eq_getElem?, h2, h3]
theorem o_idxtl {ds : List D} : idx (.tup ds) (.int (-1)) = ds.getLast? := @o_idxl ds
-- the ends of a comprehension, of a loop's target
@[simp] theorem q_tgn {d : D} : tgS (.nm i) d env = if setOk env i then some (env.set i (.shr d)) else none := by simp [tgS]
@[simp] theorem q_tgt {ts : List Tg} {ds : List D} : tgS (.tup ts) (.tup ds) env = tgsS ts ds env := by simp [tgS]
@[simp] theorem q_tgs0 : tgsS [] [] env = some env := by simp [tgsS]
@[simp] theorem q_tgsc {t : Tg} {ts : List Tg} {d : D} {ds : List D} : tgsS (t :: ts) (d :: ds) env = (match tgS t d env with | some e => tgsS ts ds e | none => none) := by first | (rw [tgsS]; done) | (rw [tgsS]; rfl)
/-- nothing owned -/
def noS : Sl → Bool
  | .no => true
  | .shr _ => true
  | _ => false
theorem noS_lo {s : Sl} (h : noS s = true) : loB s = true := by cases s <;> simp_all [noS]
@[simp] theorem noS1 : noS .no = true := rfl
@[simp] theorem noS2 {d : D} : noS (.shr d) = true := rfl
def wOk (o : Option Sl) : Bool := match o with
  | some .no => true
  | some (.shr _) => true
  | _ => false
@[simp] theorem wOk_some {s : Sl} : wOk (some s) = noS s := by cases s <;> rfl
@[simp] theorem q_wipeOk {vs : List Nat} : wipeOk env vs = vs.all fun v => wOk env[v]? := id rfl
@[simp] theorem q_wipe0 : wipeE env [] = env := id rfl
@[simp] theorem q_wipec {vs : List Nat} : wipeE env (i :: vs) = (wipeE env vs).set i .no := id rfl
@[simp] theorem q_back0 {env0 : List Sl} : backE env env0 [] = env := id rfl
@[simp] theorem q_backc {env0 : List Sl} {vs : List Nat} : backE env env0 (i :: vs) = (backE env env0 vs).set i (env0.getD i .no) := id rfl
@[simp] theorem q_tgV1 : tgV (.nm i) = [i] := by simp [tgV]
@[simp] theorem q_tgV2 {ts : List Tg} : tgV (.tup ts) = tgVs ts := by simp [tgV]
@[simp] theorem q_tgVs0 : tgVs [] = [] := by simp [tgVs]
@[simp] theorem q_tgVsc {t : Tg} {ts : List Tg} : tgVs (t :: ts) = tgV t ++ tgVs ts := by simp [tgVs]
@[simp] theorem q_lstL {ds : List D} (h : ds.length ≤ 16777216 := by simp) : lstL ds = some (.own (.lst ds)) := by simp [lstL, h]
theorem o_app {ds : List D} {d : D} (h : ds.length < 16777216) : appD ds [d] = some (ds ++ [d]) := by simp [appD, h]
end
end PL

/-! Pl28: draws as functions of the pool; what tells the same; signs. -/
namespace PL
open PySem L2
/-! ### draws -/
structure Pool where
  (a b c : Int)
def poolD (p : Pool) : D := .lst [.int p.a, .int p.b, .int p.c]
def x1 (p : Pool) : Int := (p.b + 48271 * (p.c + 1) + 12345) % 2147483647
def x2 (p : Pool) : Int := (x1 p * x1 p + 16807 * (p.c + 1) + 7) % 2147483629
def x3 (p : Pool) : Int := (x2 p * x2 p + 69621 * (p.c + 1) + 3) % 2147483587
/-- the number drawn, the pool behind it -/
def tv (p : Pool) (s : Int) : Int := if 1 < p.a then p.a % s else x3 p / 7 % s
def tp (p : Pool) (s : Int) : Pool := if 1 < p.a then ⟨p.a / s, p.b, p.c + 1⟩ else ⟨p.a, p.b, p.c + 1⟩
theorem tv_lo {p : Pool} {s : Int} (h : 0 < s) : 0 ≤ tv p s := by
  unfold tv; split <;> exact Int.emod_nonneg _ (by omega)
theorem tv_hi {p : Pool} {s : Int} (h : 0 < s) : tv p s < s := by
  unfold tv; split <;> exact Int.emod_lt_of_pos _ h
theorem tv_b (p : Pool) {s : Int} (h : 0 < s) : 0 ≤ tv p s ∧ tv p s < s := ⟨tv_lo h, tv_hi h⟩
@[simp] theorem flatO_pool {p : Pool} : flatO (poolD p) = true := id rfl
@[simp] theorem nmO_pool {p : Pool} : nmO (poolD p) = true := by simp [poolD]
theorem take_ok {p : Pool} {s : Int} (h0 : 0 < s) (h1 : s < 1073741824) : s_law_take [.io (poolD p), .shr (.int s)] = .ok (.shr (.int (tv p s))) [.io (poolD (tp p s)), .no] := by
  obtain ⟨a, b, c⟩ := p
  have b1 : 0 ≤ x1 ⟨a, b, c⟩ ∧ x1 ⟨a, b, c⟩ < 2147483647 := ⟨Int.emod_nonneg _ (by omega), Int.emod_lt_of_pos _ (by omega)⟩
  have b2 : 0 ≤ x2 ⟨a, b, c⟩ ∧ x2 ⟨a, b, c⟩ < 2147483629 := ⟨Int.emod_nonneg _ (by omega), Int.emod_lt_of_pos _ (by omega)⟩
  have b3 : 0 ≤ x3 ⟨a, b, c⟩ ∧ x3 ⟨a, b, c⟩ < 2147483587 := ⟨Int.emod_nonneg _ (by omega), Int.emod_lt_of_pos _ (by omega)⟩
  have e1 : (b + 48271 * (c + 1) + 12345) % 2147483647 = x1 ⟨a, b, c⟩ := rfl
  have e2 : (x1 ⟨a, b, c⟩ * x1 ⟨a, b, c⟩ + 16807 * (c + 1) + 7) % 2147483629 = x2 ⟨a, b, c⟩ := rfl
  have e3 : (x2 ⟨a, b, c⟩ * x2 ⟨a, b, c⟩ + 69621 * (c + 1) + 3) % 2147483587 = x3 ⟨a, b, c⟩ := rfl
  generalize hX1 : x1 ⟨a, b, c⟩ = X1 at *
  generalize hX2 : x2 ⟨a, b, c⟩ = X2 at *
  have m1 := o_mulR (x := X1) (y := X1) (by omega) (by omega)
  have m2 := o_mulR (x := X2) (y := X2) (by omega) (by omega)
  have m3 := o_mulL (x := 48271) (y := c + 1) (by omega) (by omega)
  have m4 := o_mulL (x := 16807) (y := c + 1) (by omega) (by omega)
  have m5 := o_mulL (x := 69621) (y := c + 1) (by omega) (by omega)
  have i0 : ∀ a b c : Int, idx (.lst [.int a, .int b, .int c]) (.int 0) = some (.int a) := fun _ _ _ => by rw [o_idx (by omega)]; rfl
  have i1 : ∀ a b c : Int, idx (.lst [.int a, .int b, .int c]) (.int 1) = some (.int b) := fun _ _ _ => by rw [o_idx (by omega)]; rfl
  have i2 : ∀ a b c : Int, idx (.lst [.int a, .int b, .int c]) (.int 2) = some (.int c) := fun _ _ _ => by rw [o_idx (by omega)]; rfl
  have d1 := o_fdiv (x := a) h0 h1
  have d2 := o_fdiv (x := x3 ⟨a, b, c⟩) (y := 7) (by omega) (by omega)
  have d3 := o_mod (x := a) h0
  have d4 := o_mod (x := x3 ⟨a, b, c⟩ / 7) h0
  have d5 : ∀ x, modI (.int x) (.int 2147483647) = some (.int (x % 2147483647)) := fun x => o_mod (by omega)
  have d6 : ∀ x, modI (.int x) (.int 2147483629) = some (.int (x % 2147483629)) := fun x => o_mod (by omega)
  have d7 : ∀ x, modI (.int x) (.int 2147483587) = some (.int (x % 2147483587)) := fun x => o_mod (by omega)
  by_cases h : 1 < a
  · have t1 : tv ⟨a, b, c⟩ s = a % s := if_pos h
    have t2 : tp ⟨a, b, c⟩ s = ⟨a / s, b, c + 1⟩ := if_pos h
    rw [t1, t2]
    simp [s_law_take, poolD, i0, i1, i2, d1, d3, h, lput, ixN, setOk_lo]
  · have t1 : tv ⟨a, b, c⟩ s = x3 ⟨a, b, c⟩ / 7 % s := if_neg h
    have t2 : tp ⟨a, b, c⟩ s = ⟨a, b, c + 1⟩ := if_neg h
    rw [t1, t2]
    simp [s_law_take, poolD, i0, i1, i2, d1, d2, d3, d4, d5, d6, d7, h, lput, ixN, setOk_lo, m1, m2, m3, m4, m5, e1, e2, e3]
def cellV (ns : List Int) (k : Int) : Int := if k < ns.length then ns.getD k.toNat 0 else 977 * k + 31
theorem cell_ok {ns : List Int} {k : Int} (hk : 0 ≤ k) (hk2 : k < 1000) : s_law_cell [.shr (.scr ns), .shr (.int k)] = .ok (.shr (.int (cellV ns k))) [.no, .no] := by
  have m := o_mulL (x := 977) (y := k) (by omega) (by omega)
  unfold cellV
  by_cases h : k < (ns.length : Int)
  · have hk3 : k.toNat < ns.length := by omega
    simp [s_law_cell, h, o_idxs hk, hk3]
  · simp [s_law_cell, h, m]
def poolV (c : Int) : Pool := if 1000000000000000000 ≤ c then ⟨c - 1000000000000000000, c % 1000000007, 0⟩ else if c < 0 then ⟨0, (1 - 2 * c) % 1000000007, 0⟩ else ⟨0, 2 * c % 1000000007, 0⟩
theorem pool_ok {c : Int} : s_law_pool [.shr (.int c)] = .ok (.own (poolD (poolV c))) [.no] := by
  have m := o_mulL (x := 2) (y := c) (by omega) (by omega)
  have d : ∀ x, modI (.int x) (.int 1000000007) = some (.int (x % 1000000007)) := fun x => o_mod (by omega)
  unfold poolV
  by_cases h : (1000000000000000000 : Int) ≤ c
  · simp [s_law_pool, powI, h, d, poolD, lstL]
  · by_cases h2 : c < 0
    · simp [s_law_pool, powI, h, h2, d, m, poolD, lstL]
    · simp [s_law_pool, powI, h, h2, d, m, poolD, lstL]
/-! ### what tells the same -/
def okS : Nat → D → Bool
  | 0, _ => false
  | _ + 1, .non => true
  | _ + 1, .bl _ => true
  | _ + 1, .int _ => true
  | _ + 1, .str x => PyData.strOk x
  | n + 1, .lst xs => decide (xs.length < 1000000) && xs.all (okS n)
  | n + 1, .tup xs => decide (xs.length < 1000000) && xs.all (okS n)
  | _ + 1, _ => false
theorem okS_same : ∀ {n : Nat} {d : D}, okS n d = true → Same1 n d
  | 0, _, h => by cases h
  | _ + 1, .non, _ => same_non
  | _ + 1, .bl _, _ => same_bl _
  | _ + 1, .int _, _ => same_int _
  | _ + 1, .str _, h => same_str _ h
  | n + 1, .lst xs, h => by
    simp only [okS, Bool.and_eq_true, decide_eq_true_eq, List.all_eq_true] at h
    exact same_lst h.1 fun y hy => okS_same (h.2 y hy)
  | n + 1, .tup xs, h => by
    simp only [okS, Bool.and_eq_true, decide_eq_true_eq, List.all_eq_true] at h
    exact same_tup h.1 fun y hy => okS_same (h.2 y hy)
  | _ + 1, .ins _ _ _, h => by simp [okS] at h
  | _ + 1, .dic _ _, h => by simp [okS] at h
  | _ + 1, .obj _, h => by simp [okS] at h
  | _ + 1, .scr _, h => by simp [okS] at h
theorem same_ok {d : D} (h : okS 4 d = true) : s_law_same 4 [.shr d, .shr d] = .ok (.shr (.bl true)) [.no, .no] := okS_same h
@[simp] theorem okS_non {n : Nat} : okS (n + 1) .non = true := by simp [okS]
@[simp] theorem okS_bl {n : Nat} {b : Bool} : okS (n + 1) (.bl b) = true := by simp [okS]
@[simp] theorem okS_int {n : Nat} {b : Int} : okS (n + 1) (.int b) = true := by simp [okS]
@[simp] theorem okS_str {n : Nat} {b : Str} : okS (n + 1) (.str b) = PyData.strOk b := by simp [okS]
@[simp] theorem okS_lst {n : Nat} {xs : List D} : okS (n + 1) (.lst xs) = (decide (xs.length < 1000000) && xs.all (okS n)) := by simp [okS]
@[simp] theorem okS_tup {n : Nat} {xs : List D} : okS (n + 1) (.tup xs) = (decide (xs.length < 1000000) && xs.all (okS n)) := by simp [okS]
@[simp] theorem okS_ints {n : Nat} {xs : List Int} : (xs.map D.int).all (okS (n + 1)) = true := by simp
@[simp] theorem okS_kDs {n : Nat} {xs : List (Int × Int)} : (xs.map kD).all (okS (n + 2)) = true := by simp [kD]
/-- the same for two things that are equal -/
theorem same_eq2 {d e : D} (he : d = e) (h : okS 4 e = true) : s_law_same 4 [.shr d, .shr e] = .ok (.shr (.bl true)) [.no, .no] := by subst he; exact same_ok h
/-! ### equality of plain data -/
@[simp] theorem neD_bl (i j : Bool) : neD (.bl i) (.bl j) = some (.bl (!(i == j))) := by
  simp [neD, eqq, eqAble, toPy, SeqAt.shaped, PyData.eqv, PyData.canLay0, PyData.depth]
/-! ### texts of signs -/
/-- the sign of a dry hour (true), a damp one -/
def sgN (b : Bool) : Nat := if b then 46 else 35
def sgS (l : List Bool) : Str := ⟨(l.map sgN).toArray⟩
@[simp] theorem sg_dot : Str.ofString "." = sgS [true] := by decide +kernel
@[simp] theorem sg_hash : Str.ofString "#" = sgS [false] := by decide +kernel
@[simp] theorem sg_both : Str.ofString ".#" = sgS [true, false] := by decide +kernel
@[simp] theorem sg_len {l : List Bool} : (sgS l).length = l.length := by simp [sgS, Str.length]
@[simp] theorem sg_cps {l : List Bool} : (sgS l).cps.toList = l.map sgN := by simp [sgS]
theorem sgN_inj {a b : Bool} : sgN a = sgN b ↔ a = b := by cases a <;> cases b <;> decide
theorem map_sgN_inj : ∀ {l m : List Bool}, l.map sgN = m.map sgN → l = m
  | [], [], _ => rfl
  | [], _ :: _, h => by cases h
  | _ :: _, [], h => by cases h
  | a :: l, b :: m, h => by
    simp only [List.map_cons, List.cons.injEq] at h
    rw [sgN_inj.mp h.1, map_sgN_inj h.2]
theorem sgS_inj {l m : List Bool} : sgS l = sgS m ↔ l = m := ⟨fun h => map_sgN_inj (by have := congrArg (fun s => s.cps.toList) h; simpa using this), fun h => by rw [h]⟩
@[simp] theorem sg_ok {l : List Bool} : PyData.strOk (sgS l) = true := by
  unfold PyData.strOk sgS
  rw [← Array.all_toList, List.all_eq_true]
  intro x hx
  obtain ⟨b, _, rfl⟩ := List.mem_map.mp hx
  cases b <;> decide
theorem sg_app {l m : List Bool} : sgS l ++ sgS m = sgS (l ++ m) := by
  show Str.append _ _ = _
  simp [sgS, Str.append]
@[simp] theorem sg_one {b : Bool} : (⟨#[sgN b]⟩ : Str) = sgS [b] := by simp [sgS]
@[simp] theorem beq_sg {l m : List Bool} : (sgS l == sgS m) = (l == m) := by
  by_cases h : l = m
  · subst h; simp
  · rw [beq_eq_false_iff_ne.mpr h, beq_eq_false_iff_ne.mpr fun z => h (sgS_inj.mp z)]
@[simp] theorem eqD_sg {l m : List Bool} : eqD (.str (sgS l)) (.str (sgS m)) = some (.bl (l == m)) := by
  rw [eqD_str _ _ sg_ok sg_ok, beq_sg]
@[simp] theorem neD_sg {l m : List Bool} : neD (.str (sgS l)) (.str (sgS m)) = some (.bl (!(l == m))) := by
  rw [neD_str _ _ sg_ok sg_ok, beq_sg]
@[simp] theorem beq_one {a b : Bool} : ([a] == [b]) = (a == b) := by cases a <;> cases b <;> decide
@[simp] theorem eqD_sg1 {a b : Bool} : eqD (.str (sgS [a])) (.str (sgS [b])) = some (.bl (a == b)) := by rw [eqD_sg, beq_one]
@[simp] theorem neD_sg1 {a b : Bool} : neD (.str (sgS [a])) (.str (sgS [b])) = some (.bl (!(a == b))) := by rw [neD_sg, beq_one]
theorem addD_sg {l m : List Bool} (h : l.length + m.length ≤ 16777216) : addD (.str (sgS l)) (.str (sgS m)) = some (.shr (.str (sgS (l ++ m)))) := by
  rw [o_addDs (by simpa using h), sg_app]
theorem len_sg {l : List Bool} (h : l.length ≤ 16777216) : lenL [.str (sgS l)] = some (.shr (.int l.length)) := by rw [o_lenstr (by simpa using h), sg_len]
theorem idx_sg {l : List Bool} {x : Int} (h : l.length ≤ 16777216) (h0 : 0 ≤ x) : idx (.str (sgS l)) (.int x) = l[x.toNat]?.map fun b => .str (sgS [b]) := by
  simp only [idx, sg_len, h, if_true, sg_cps, atI_nn h0, List.getElem?_map, Option.map_map]
  rfl
theorem cutL_map {α β : Type} (f : α → β) (l : List α) (lo hi : Option Int) : cutL (l.map f) lo hi = (cutL l lo hi).map f := by
  simp [cutL, List.map_take, List.map_drop]
theorem cutS_sg {l : List Bool} {lo hi : Option Int} : cutS (sgS l) lo hi = sgS (cutL l lo hi) := by
  unfold cutS
  rw [sg_cps, sg_len]
  simp [sgS, cutL, List.map_take, List.map_drop]
theorem slL_sg {l : List Bool} {lo hi : Option Int} (h : l.length ≤ 16777216) : slL (.str (sgS l)) lo hi = some (.shr (.str (sgS (cutL l lo hi)))) := by
  simp [slL, h, cutS_sg]
theorem slL_lst {l : List D} {lo hi : Option Int} : slL (.lst l) lo hi = some (.own (.lst (cutL l lo hi))) := id rfl
theorem sIx_nn {n d : Nat} {v : Int} (h : 0 ≤ v) : HT.sIx n d (some v) = min v.toNat n := by
  show (if v < 0 then (v + (n : Int)).toNat else min v.toNat n) = min v.toNat n
  rw [if_neg (by omega)]
theorem cut_to {α : Type} {l : List α} {v : Int} (h : 0 ≤ v) : cutL l none (some v) = l.take v.toNat := by
  unfold cutL
  rw [sIx_nn h]
  simp [HT.sIx]
theorem cut_from {α : Type} {l : List α} {v : Int} (h : 0 ≤ v) : cutL l (some v) none = l.drop v.toNat := by
  unfold cutL
  rw [sIx_nn h]
  simp only [HT.sIx]
  by_cases hv : v.toNat ≤ l.length
  · rw [Nat.min_eq_left hv, List.take_of_length_le (by simp)]
  · rw [Nat.min_eq_right (by omega), List.drop_of_length_le (Nat.le_refl _), List.drop_of_length_le (by omega), List.take_nil]
theorem cut_mid {α : Type} {l : List α} {u v : Int} (h : 0 ≤ u) (h2 : 0 ≤ v) : cutL l (some u) (some v) = (l.drop u.toNat).take (v.toNat - u.toNat) := by
  unfold cutL
  rw [sIx_nn h, sIx_nn h2]
  by_cases hu : u.toNat ≤ l.length
  · rw [Nat.min_eq_left hu]
    by_cases hv : v.toNat ≤ l.length
    · rw [Nat.min_eq_left hv]
    · rw [Nat.min_eq_right (by omega), List.take_of_length_le (by rw [List.length_drop]; omega), List.take_of_length_le (by rw [List.length_drop]; omega)]
  · rw [Nat.min_eq_right (by omega : l.length ≤ u.toNat), List.drop_of_length_le (Nat.le_refl _), List.drop_of_length_le (by omega), List.take_nil, List.take_nil]
theorem foldl_app (a : Array Nat) : ∀ (k : Nat) (acc : Array Nat), (List.replicate k a).foldl (· ++ ·) acc = acc ++ ((List.replicate k a.toList).flatten).toArray
  | 0, acc => by simp
  | k + 1, acc => by
    rw [List.replicate_succ, List.foldl_cons, foldl_app a k, List.replicate_succ, List.flatten_cons, Array.append_assoc]
    congr 1
    apply Array.ext'
    rw [Array.toList_append]
theorem repS_sg {b : Bool} {n : Int} : repS (sgS [b]) n = sgS (List.replicate n.toNat b) := by
  have r1 : ∀ k : Nat, (List.replicate k [sgN b]).flatten = (List.replicate k b).map sgN := fun k => by
    induction k with
    | zero => rfl
    | succ k ih => rw [List.replicate_succ, List.flatten_cons, ih, List.replicate_succ]; rfl
  unfold repS
  split
  · rename_i h
    rw [show n.toNat = 0 by omega]; rfl
  · split
    · rename_i h
      rcases (Bool.or_eq_true _ _).mp h with h | h
      · have : n = 1 := by simpa using h
        subst this; rfl
      · rw [sg_len] at h; simp at h
    · rw [foldl_app]
      have e : (sgS [b]).cps.toList = [sgN b] := rfl
      rw [e, r1]
      simp [sgS]
theorem mulS_sg {b : Bool} {n : Int} (h : n < 10000) (h2 : -10000 < n) : mulS (.str (sgS [b])) (.int n) = some (.str (sgS (List.replicate n.toNat b))) := by
  have : n.natAbs ≤ 10000 := by omega
  simp [mulS, this, repS_sg]
theorem strI_sg {l : List Bool} {f : P} {env e : List Sl} (h : f env = .ok (.str (sgS l)) e) : strI f env = .ok (l.map fun b => .str (sgS [b])) e := by
  simp [h]
end PL

/-! Pl29: enumerate of a text; a list repeated. -/
namespace PL
open PySem L2 PySem.Spec PyProof.Rows
/-- the signs of a text, each in a new pair with its place -/
def Ites (z : Str) : It :=
  ⟨fun i _ => i < z.cps.size, fun i H v H' => ∃ T c, v = .ref T ∧ H T = none ∧ H' = upd H T (.tup [.int (i : Nat), .str ⟨#[c]⟩]) ∧ z.cps[i]? = some c, fun i _ => z.cps.size ≤ i⟩
theorem turn_enumS {P : Program} {w : World} {K : PySem.W.Frag} {elts : List Expr} {kk : Nat} {tpos : Pos} (z : Str) (t : Tok) (e it : Addr) :
    Turn P w K (.Tuple elts kk tpos) (Ites z) [e, it] e (fun i h => (∃ old, IsEnum h e it ((i : Nat) : Int) old) ∧ h.IsStrIter it (strIterType z) z t i ∧ e ≠ it ∧ i ≤ z.cps.size) where
  mem := by simp
  obj := fun i h st b hb => by
    obtain ⟨⟨old, he⟩, ⟨o, ho, hc, hd⟩, _⟩ := st
    have e' : b = e ∨ b = it := by simpa using hb
    rcases e' with z | z
    · rw [z]; exact ⟨_, he, fun v q => nomatch q⟩
    · rw [z]; exact ⟨o, ho, fun v q => by rw [hd] at q; cases q⟩
  keep := fun i h h' st k => let ⟨⟨old, he⟩, ⟨o, ho, r⟩, hne⟩ := st; ⟨⟨old, k e (by simp) _ he⟩, ⟨o, k it (by simp) o ho, r⟩, hne⟩
  item := by
    intro X hP hw hK hc i pins s σ H E I hf st hg
    subst hP hw hK
    obtain ⟨⟨old, he⟩, hit, hne, hle⟩ := st
    have hel : e < s.heap.objs.size := Heap.lt_size he
    have hil : it < s.heap.objs.size := by obtain ⟨_, q, _⟩ := hit; exact Heap.lt_size q
    have Dr : Draws X.prog X.w X.A.in1 it [it] z.cps.size (fun i v => ∃ c u, z.cps[i]? = some c ∧ v = .str ⟨#[c]⟩ u) (fun i h => h.IsStrIter it (strIterType z) z t i) := Draws.text (A := X.A.in1) (I.ok.hd hc) it z t
    refine wpAny_pyNext_enum_itemC Dr he hit hg hne (by simpa using hne) fun x h' tk hPx ho hit' hT hsz hk => ?_
    obtain ⟨c, u, hcx, rfl⟩ := hPx
    refine ⟨_, rfl, wpAny_letOwnedTupleGo_enum (s := { s with heap := h', toks := tk + 1 }) ho fun h'' he' sb => ?_⟩
    have hT2 : h''.get? s.heap.objs.size = some { cls := .type "tuple", data := .seq #[.int i tk, .str ⟨#[c]⟩ u] } := (sb.2 _ (Nat.ne_of_gt hel)).trans hT
    have new : ObjOk X.prog X.w (upd H s.heap.objs.size (.tup [.int (i : Nat), .str ⟨#[c]⟩])) h'' s.heap.objs.size (.tup [.int (i : Nat), .str ⟨#[c]⟩]) :=
      ⟨by show 2 ≤ sizeLine; decide, [.int i tk, .str ⟨#[c]⟩ u], .cons ⟨_, rfl⟩ (.cons ⟨_, rfl⟩ .nil), ⟨_, hT2, rfl, _, rfl⟩⟩
    have I1 : Inv X pins σ (upd H s.heap.objs.size (.tup [.int (i : Nat), .str ⟨#[c]⟩])) { s with heap := h'', toks := tk + 1 } :=
      I.turnedNew (ch := [e, it]) (fun b ob hb q => (sb.2 b (fun z => hb (by simp [z]))).trans (hk b ob (fun z => hb (by simp [z])) (fun z => hb (by simp [z])) q)) hf (Nat.le_refl _) new
    refine ⟨.ref s.heap.objs.size, _, I1, rfl, ⟨_, c, rfl, I.hok.fresh (Nat.le_refl _), rfl, hcx⟩, ⟨⟨.str ⟨#[c]⟩ u, ?_⟩, ?_, hne, hg⟩, fun b hb => ?_⟩
    · have e1 : ((i + 1 : Nat) : Int) = (i : Int) + 1 := by omega
      rw [e1]; exact he'
    · obtain ⟨o, q, r⟩ := hit'
      exact ⟨o, (sb.2 it (Ne.symm hne)).trans q, r⟩
    · have hb' : b < s.heap.objs.size := by
        have e' : b = e ∨ b = it := by simpa using hb
        rcases e' with z | z
        · rw [z]; exact hel
        · rw [z]; exact hil
      rw [upd_ne (Nat.ne_of_lt hb')]
      exact (hf b hb).1
  done := by
    intro X hP hw hK hc i pins s σ H E I hf st hg
    subst hP hw hK
    obtain ⟨⟨old, he⟩, hit, hne, hle⟩ := st
    have hge : z.cps.size ≤ i := hg
    have ei : i = z.cps.size := by omega
    subst ei
    obtain ⟨f0, f1, f2, f3, f4, f5⟩ := hf it (by simp)
    have Dr : Draws X.prog X.w X.A.in1 it [it] z.cps.size (fun i v => ∃ c u, z.cps[i]? = some c ∧ v = .str ⟨#[c]⟩ u) (fun i h => h.IsStrIter it (strIterType z) z t i) := Draws.text (A := X.A.in1) (I.ok.hd hc) it z t
    exact wpAny_pyNext_enum_endD Dr he hit fun h' eb => ⟨rfl, I.turned (t' := s.toks) (fun b o hb q => eb b o hb q) f0 f1 f3 f4 f5⟩
  self := fun A i s Q E st h => let ⟨⟨_, he⟩, _⟩ := st; wpAny_pyIter_enum he h
def iEnumS (ta : TA) : TI := fun σ H R => ta σ H fun vs H1 => ∃ z, vs = [.str z] ∧ R (Ites z) H1
theorem pi_enumS {X : Cx} {e : Expr} {ta : TA} {p pos tpos : Pos} {elts : List Expr} {kk : Nat} (hg : Gl X "enumerate") (hm : X.mg "enumerate" = none) (ha : PA X [e] ta) (hs : starEach [e] X.env = [(false, eval e X.env)] := by rfl) :
    PI X (.Tuple elts kk tpos) (.Call (.Name "enumerate" p) [e] [] pos) (iEnumS ta) := by
  refine ⟨fun pins s σ H R I h => ?_⟩
  refine Call_ (ld_blt I hg hm boot_enumerate (PyProof.Rows.callWith_type1 (thn (ha.run pos pins s σ H _ I h) fun us s1 ⟨vs, H1, I1, r1, q1⟩ => ?_) hs rfl))
  obtain ⟨z, ex, q⟩ := q1
  subst ex
  cases r1 with
  | cons r rr =>
    cases rr
    obtain ⟨t, rfl⟩ := r
    refine call_enumerate_str fun h' he hit hsz hk => wpAny_pyIter_enum he ?_
    have I2 : Inv X pins σ H1 { s1 with heap := h' } := I1.kept (t' := s1.toks) hk
    refine ⟨s1.heap.objs.size + 1, [s1.heap.objs.size + 1, s1.heap.objs.size], _, _, H1, rfl, I2, turn_enumS z t (s1.heap.objs.size + 1) s1.heap.objs.size, ⟨⟨.none, he⟩, hit, Nat.succ_ne_self _, Nat.zero_le _⟩, fun b hb => ?_, q⟩
    have e' : b = s1.heap.objs.size + 1 ∨ b = s1.heap.objs.size := by simpa using hb
    have hle : s1.heap.objs.size ≤ b := by
      rcases e' with z | z
      · rw [z]; exact Nat.le_add_right _ _
      · rw [z]; exact Nat.le_refl _
    exact I1.fpOk hle (I1.hok.fresh hle)
/-- enumerate of a text -/
def ensI (f : P) : I := fun env => (f env).bind fun d e => match d with
  | .str z => .ok (enL 0 (z.cps.toList.map fun c => .str ⟨#[c]⟩)) e
  | _ => .bad
@[simp] theorem q_ensI {f : P} {env : List Sl} : ensI f env = ((f env).bind fun d e => match d with
  | .str z => .ok (enL 0 (z.cps.toList.map fun c => .str ⟨#[c]⟩)) e
  | _ => .bad) := id rfl
theorem itR_enumS {K : PySem.W.Frag} {P1 : Addr → Prop} {H1 : Hp} {z : Str} : ItR K P1 H1 (Ites z) (enL 0 (z.cps.toList.map fun c => .str ⟨#[c]⟩)) := fun P2 H2 st hn => by
  refine ⟨fun i d hd => ?_, by show z.cps.size ≤ _; rw [enL_len]; simp⟩
  obtain ⟨x, k1, rfl⟩ := enL_get hd
  rw [List.getElem?_map] at k1
  obtain ⟨c, h1, rfl⟩ := Option.map_eq_some_iff.mp k1
  have hi : i < z.cps.size := by
    obtain ⟨h2, _⟩ := List.getElem?_eq_some_iff.mp h1
    simpa using h2
  refine ⟨hi, fun u H3 y => ?_⟩
  obtain ⟨T, c', rfl, hT, rfl, h2⟩ := y
  have e : c = c' := by
    rw [← Array.getElem?_toList] at h2
    rw [h1] at h2
    exact Option.some.inj h2
  subst e
  have sm : Same H2 (upd H2 T (.tup [.int (i : Nat), .str ⟨#[c]⟩])) := same_upd hT
  have nT : ¬ P2 T := fun z => hn T z hT
  refine ⟨sm, T, _, rfl, .inl (.inl (hid_some.mpr ⟨nT, upd_same⟩)), ⟨_, _, rfl, ?_, _, _, rfl, rfl, rfl⟩⟩
  show (V.int (i : Nat)) = .int ((0 + i : Nat) : Int)
  rw [Nat.zero_add]
section
variable {X : Cx} {W : WX} {tg e : Expr} {f : P} {p pos tpos : Pos} {elts : List Expr} {kk : Nat}
theorem k_iens (hm : X.mg "enumerate" = none) (he : PE X e (tP X.K W f)) (hg : Gl X "enumerate" := by rfl) (hs : starEach [e] X.env = [(false, eval e X.env)] := by rfl) : PI X (.Tuple elts kk tpos) (.Call (.Name "enumerate" p) [e] [] pos) (tI X.K W (ensI f)) :=
  PI.imp (pi_enumS hg hm (pa_cons he pa_nil hs) hs) fun σ H R w => by
    obtain ⟨env, IO, Fr, ok, w⟩ := w
    unfold ensI at w
    refine ⟨env, IO, Fr, ok, ?_⟩
    cases hf : f env with
    | ok d e1 =>
      rw [hf] at w
      cases d with
      | str z =>
        intro v H' ok1 r st
        cases r
        exact ⟨z, rfl, w H' ok1 st _ itR_enumS⟩
      | _ => exact w.elim
    | exc x e1 => rw [hf] at w; exact w
    | bad => rw [hf] at w; exact w.elim
end
/-! ### xs * n -/
def mulL : D → D → Option Sl
  | .lst ds, .int k => if k.natAbs < 10000 ∧ ds.length < 1000 then some (.own (.lst (List.replicate k.toNat ds).flatten)) else none
  | _, _ => none
theorem RepL.rep {K : PySem.W.Frag} {H : Hp} {ds : List D} {vs : List V} (r : RepL K H ds vs) : ∀ k : Nat, RepL K H (List.replicate k ds).flatten (List.replicate k vs).flatten
  | 0 => rfl
  | k + 1 => by
    rw [List.replicate_succ, List.flatten_cons, List.replicate_succ, List.flatten_cons]
    exact RepL.snoc r (RepL.rep r k)
section
variable {X : Cx} {W : WX} {a b : Expr} {o1 o2 : PL.A} {pos : Pos}
theorem k_mulL (ha : PE X a (tA X.K W o1)) (hb : PE X b (tA X.K W o2)) : PE X (.BinOp a .Mult b pos) (tE X.K W (binE mulL o1 o2)) :=
  c_binE op_rep (fun {env IO Fr σ H x y s vx vy Q} e bx by_ h k => by
    unfold mulL at h
    split at h
    · rename_i ds j
      split at h
      · rename_i hl
        cases h
        obtain ⟨a1, vs, rfl, h1, r1⟩ := bx.lst
        have l1 := r1.len
        refine ⟨_, _, _, rfl, by_.int, h1, by omega, by omega, ?_, fun p hp => ?_⟩
        · have h2 : vs.length ≤ 1000 := by omega
          have h3 : j.toNat ≤ 10000 := by omega
          exact Nat.le_trans (Nat.mul_le_mul h2 h3) (by decide)
        · obtain ⟨ro, st⟩ := e.new (d := .lst (List.replicate j.toNat ds).flatten) hp ⟨_, rfl, r1.rep _⟩
          exact k _ _ ro st
      · cases h
    · cases h) ha hb
end
theorem o_repL {d : D} {x : Int} (h : x < 10000) (h2 : -10000 < x) : mulL (.lst [d]) (.int x) = some (.own (.lst (List.replicate x.toNat d))) := by
  have e : ∀ k : Nat, (List.replicate k [d]).flatten = List.replicate k d := fun k => by
    induction k with
    | zero => rfl
    | succ k ih => rw [List.replicate_succ, List.flatten_cons, ih, List.replicate_succ]; rfl
  have : x.natAbs < 10000 := by omega
  simp [mulL, this, e]
end PL

/-! Pl30: loops and comprehensions over encoded lists; flags; lacquers, weathers. -/
namespace PL
open PySem L2
/-! ### loops -/
/-- a loop by an invariant of the turn's number -/
theorem loop_ix {α : Type} {tg : Tg} {body : S} (enc : α → D) (xs : List α) (I : Nat → List Sl → Prop) (env : List Sl) (h0 : I 0 env)
    (st : ∀ j x env, xs[j]? = some x → I j env → ∃ e e2, tgS tg (enc x) env = some e ∧ (body e = .nx e2 ∨ body e = .ct e2) ∧ I (j + 1) e2) :
    ∃ env', loopS tg body (xs.map enc) env = .nx env' ∧ I xs.length env' := by
  obtain ⟨e, h1, h2⟩ := loop_nx (tg := tg) (body := body) I (xs.map enc) 0 env h0 (fun j d env hd hi => by
    rw [List.getElem?_map] at hd
    obtain ⟨x, hx, rfl⟩ := Option.map_eq_some_iff.mp hd
    rw [Nat.zero_add] at hi ⊢
    exact st j x env hx hi)
  exact ⟨e, h1, by simpa using h2⟩
/-- .. over a range -/
theorem loop_rng {tg : Tg} {body : S} (lo : Int) (n : Nat) (I : Nat → List Sl → Prop) (env : List Sl) (h0 : I 0 env)
    (st : ∀ j env, j < n → I j env → ∃ e e2, tgS tg (.int (lo + j)) env = some e ∧ (body e = .nx e2 ∨ body e = .ct e2) ∧ I (j + 1) e2) :
    ∃ env', loopS tg body (rngL lo n) env = .nx env' ∧ I n env' := by
  obtain ⟨e, h1, h2⟩ := loop_nx (tg := tg) (body := body) I (rngL lo n) 0 env h0 (fun j d env hd hi => by
    obtain ⟨rfl, hj⟩ := rngL_get hd
    rw [Nat.zero_add] at hi ⊢
    exact st j env hj hi)
  exact ⟨e, h1, by simpa [rngL_len] using h2⟩
theorem getS_of {xs : List D} {j : Nat} {d : D} (h : xs[j]? = some d) : j < xs.length := (List.getElem?_eq_some_iff.mp h).1
/-- a comprehension without a test, the environment as before behind each turn -/
theorem lcL_ix {tg : Tg} {vs : List Nat} {elt : P} {env0 : List Sl} : ∀ (ds ys : List D) (n : Nat), ys.length = ds.length → n + ds.length ≤ 16777216 →
    (∀ (j : Nat) (d y : D), ds[j]? = some d → ys[j]? = some y → ∃ e e3, tgS tg d env0 = some e ∧ elt e = .ok y e3 ∧ wipeOk e3 vs = true ∧ wipeE e3 vs = env0) → lcL tg vs yesT elt ds n env0 = .ok ys env0
  | [], [], n, _, _, _ => by unfold lcL; rfl
  | [], _ :: _, n, h, _, _ => by simp at h
  | _ :: _, [], n, h, _, _ => by simp at h
  | d :: ds, y :: ys, n, hl, hn, h => by
    obtain ⟨e, e3, h1, h2, h3, h4⟩ := h 0 d y rfl rfl
    have ih := lcL_ix ds ys (n + 1) (by simpa using hl) (by simp at hn; omega) (fun j d y hd hy => h (j + 1) d y (by simpa using hd) (by simpa using hy))
    have hlt : n < 16777216 := by simp at hn; omega
    unfold lcL
    simp only [h1, q_yesT, h2, h3, h4, hlt, ih, and_self, if_true, Res.bind_ok]
theorem lcL_map {α : Type} {tg : Tg} {vs : List Nat} {elt : P} {env0 : List Sl} (enc f : α → D) (xs : List α) (hn : xs.length ≤ 16777216)
    (h : ∀ x ∈ xs, ∃ e e3, tgS tg (enc x) env0 = some e ∧ elt e = .ok (f x) e3 ∧ wipeOk e3 vs = true ∧ wipeE e3 vs = env0) : lcL tg vs yesT elt (xs.map enc) 0 env0 = .ok (xs.map f) env0 :=
  lcL_ix _ _ 0 (by simp) (by simpa using hn) fun j d y hd hy => by
    rw [List.getElem?_map] at hd hy
    obtain ⟨x, hx, rfl⟩ := Option.map_eq_some_iff.mp hd
    rw [hx] at hy
    cases hy
    exact h x (List.mem_of_getElem? hx)
theorem lcL_rng {tg : Tg} {vs : List Nat} {elt : P} {env0 : List Sl} (lo : Int) (n : Nat) (f : Nat → D) (hn : n ≤ 16777216)
    (h : ∀ j, j < n → ∃ e e3, tgS tg (.int (lo + j)) env0 = some e ∧ elt e = .ok (f j) e3 ∧ wipeOk e3 vs = true ∧ wipeE e3 vs = env0) : lcL tg vs yesT elt (rngL lo n) 0 env0 = .ok ((List.range n).map f) env0 :=
  lcL_map (fun (j : Nat) => D.int (lo + j)) f (List.range n) (by simpa using hn) fun j hj => h j (List.mem_range.mp hj)
/-- .. with a test -/
theorem lcL_sel {α : Type} {tg : Tg} {vs : List Nat} {test : T} {elt : P} {env0 : List Sl} (enc f : α → D) (t : α → Bool) : ∀ (xs : List α) (n : Nat), n + xs.length ≤ 16777216 →
    (∀ x ∈ xs, ∃ e e2, tgS tg (enc x) env0 = some e ∧ test e = .ok (t x) e2 ∧ wipeOk e2 vs = true ∧ wipeE e2 vs = env0 ∧ (t x = true → ∃ e3, elt e2 = .ok (f x) e3 ∧ wipeOk e3 vs = true ∧ wipeE e3 vs = env0)) →
    lcL tg vs test elt (xs.map enc) n env0 = .ok ((xs.filter t).map f) env0
  | [], n, _, _ => by unfold lcL; rfl
  | x :: xs, n, hn, h => by
    obtain ⟨e, e2, h1, h2, h3, h4, h5⟩ := h x (by simp)
    have hlt : n < 16777216 := by simp at hn; omega
    rw [List.map_cons]
    unfold lcL
    cases hb : t x with
    | true =>
      rw [hb] at h2
      obtain ⟨e3, g1, g2, g3⟩ := h5 hb
      have ih := lcL_sel enc f t xs (n + 1) (by simp at hn; omega) (fun y hy => h y (by simp [hy]))
      simp only [h1, h2, g1, g2, g3, hlt, ih, and_self, if_true, Res.bind_ok, List.filter_cons, hb, List.map_cons]
    | false =>
      rw [hb] at h2
      have ih := lcL_sel enc f t xs n (by simp at hn; omega) (fun y hy => h y (by simp [hy]))
      simp only [h1, h2, h3, h4, ih, if_true, List.filter_cons, hb, Bool.false_eq_true, if_false]
theorem lcL_rsel {tg : Tg} {vs : List Nat} {test : T} {elt : P} {env0 : List Sl} (lo : Int) (n : Nat) (f : Nat → D) (t : Nat → Bool) (hn : n ≤ 16777216)
    (h : ∀ j, j < n → ∃ e e2, tgS tg (.int (lo + j)) env0 = some e ∧ test e = .ok (t j) e2 ∧ wipeOk e2 vs = true ∧ wipeE e2 vs = env0 ∧ (t j = true → ∃ e3, elt e2 = .ok (f j) e3 ∧ wipeOk e3 vs = true ∧ wipeE e3 vs = env0)) :
    lcL tg vs test elt (rngL lo n) 0 env0 = .ok (((List.range n).filter t).map f) env0 :=
  lcL_sel (fun (j : Nat) => D.int (lo + j)) f t (List.range n) 0 (by simpa using hn) fun j hj => h j (List.mem_range.mp hj)
theorem rng1_i' {i : Int} (h0 : 0 ≤ i) (h : i < 4611686018427387904) : rng1D [.int i] = some (rngL 0 i.toNat) := rng1_i h0 h
theorem rng1_neg {i : Int} (h0 : i ≤ 0) (h : -4611686018427387904 < i) : rng1D [.int i] = some [] := by
  have h2 : i.natAbs < 4611686018427387904 := by omega
  have h3 : i.toNat = 0 := by omega
  unfold rng1D
  simp [h2, h3, rngL]
theorem rng1_a {i : Int} (h0 : -1000000000 < i) (h : i < 1000000000) : rng1D [.int i] = some (rngL 0 i.toNat) := by
  have h2 : i.natAbs < 4611686018427387904 := by omega
  unfold rng1D
  simp [h2]
theorem rng2_a {i j : Int} (h0 : -1000000000 < i) (h : i < 1000000000) (h1 : -1000000000 < j) (h2 : j < 1000000000) : rng2D [.int i, .int j] = some (rngL i (j - i).toNat) := by
  have h3 : i.natAbs < 4611686018427387904 := by omega
  have h4 : j.natAbs < 4611686018427387904 := by omega
  unfold rng2D
  simp [h3, h4]
/-! ### lists of flags -/
def flD (n : Nat) (f : Nat → Bool) : List D := (List.range n).map fun i => D.bl (f i)
@[simp] theorem fl_len {n : Nat} {f : Nat → Bool} : (flD n f).length = n := by simp [flD]
@[simp] theorem fl_flat {n : Nat} {f : Nat → Bool} : (flD n f).all flat = true := by simp [flD]
@[simp] theorem fl_nm {n : Nat} {f : Nat → Bool} : nms (flD n f) = true := nms_map (fun _ => by simp) _
theorem fl_congr {n : Nat} {f g : Nat → Bool} (h : ∀ i, i < n → f i = g i) : flD n f = flD n g := List.map_congr_left fun i hi => by rw [h i (List.mem_range.mp hi)]
theorem fl_get {n i : Nat} {f : Nat → Bool} (h : i < n) : (flD n f)[i]? = some (.bl (f i)) := by simp [flD, List.getElem?_map, List.getElem?_range h]
theorem fl_set {n h : Nat} {f : Nat → Bool} {v : Bool} : (flD n f).set h (.bl v) = flD n fun i => if i = h then v else f i := by
  apply List.ext_getElem?
  intro i
  by_cases hi : i < n
  · by_cases e : h = i
    · subst e
      rw [List.getElem?_set_self (by simpa using hi), fl_get hi, if_pos rfl]
    · rw [List.getElem?_set_ne e, fl_get hi, fl_get hi, if_neg (Ne.symm e)]
  · rw [List.getElem?_eq_none (by simp; omega), List.getElem?_eq_none (by simp; omega)]
theorem fl_rep {n : Nat} : List.replicate n (D.bl false) = flD n fun _ => false := by
  apply List.ext_getElem?
  intro i
  by_cases hi : i < n
  · rw [fl_get hi, List.getElem?_replicate_of_lt hi]
  · rw [List.getElem?_eq_none (by simp; omega), List.getElem?_eq_none (by simp; omega)]
theorem fl_list (l : List Bool) : l.map D.bl = flD l.length fun i => l.getD i false := by
  apply List.ext_getElem?
  intro i
  by_cases hi : i < l.length
  · rw [fl_get hi, List.getElem?_map, List.getElem?_eq_getElem hi]; simp [hi]
  · rw [List.getElem?_eq_none (by simp; omega), List.getElem?_eq_none (by simp; omega)]
theorem fl_idx {n : Nat} {f : Nat → Bool} {x : Int} (h0 : 0 ≤ x) (h : x < n) : idx (.lst (flD n f)) (.int x) = some (.bl (f x.toNat)) := by
  rw [o_idx h0, fl_get (by omega)]
theorem fl_idxN {n i : Nat} {f : Nat → Bool} (h : i < n) : idx (.lst (flD n f)) (.int (i : Int)) = some (.bl (f i)) := by
  rw [fl_idx (by omega) (by omega)]; simp
theorem bools_mapf {α : Type} (f : α → Bool) : ∀ xs : List α, bools? (xs.map fun x => D.bl (f x)) = some (xs.map f)
  | [] => rfl
  | x :: xs => by simp [bools?, bools_mapf f xs]
theorem ints_mapf {α : Type} (f : α → Int) : ∀ xs : List α, ints? (xs.map fun x => D.int (f x)) = some (xs.map f)
  | [] => rfl
  | x :: xs => by simp [ints?, ints_mapf f xs]
@[simp] theorem ints_mapi : ∀ xs : List Int, ints? (xs.map D.int) = some xs
  | [] => rfl
  | x :: xs => by simp [ints?, ints_mapi xs]
theorem any_ex {l : List Nat} {f : Nat → Bool} {P : Prop} [Decidable P] (h : (∃ i ∈ l, f i = true) ↔ P) : l.any f = decide P := by
  by_cases hp : P
  · rw [decide_eq_true hp, List.any_eq_true]; exact h.mpr hp
  · rw [decide_eq_false hp, List.any_eq_false]; exact fun i hi z => hp (h.mp ⟨i, hi, z⟩)
/-- any(flags[u:v]) -/
theorem fl_any {n : Nat} {f : Nat → Bool} {u v : Int} {P : Prop} [Decidable P] (h0 : 0 ≤ u) (h1 : 0 ≤ v) (hP : (∃ i : Nat, u ≤ i ∧ (i : Int) < v ∧ i < n ∧ f i = true) ↔ P) :
    anyL [.lst (cutL (flD n f) (some u) (some v))] = some (.shr (.bl (decide P))) := by
  unfold flD
  rw [cutL_map, cut_mid h0 h1]
  simp only [anyL, bools_mapf, Option.map_some, List.any_map]
  congr 3
  refine any_ex ?_
  rw [← hP]
  constructor
  · rintro ⟨i, hi, hf⟩
    rw [List.mem_take_iff_getElem] at hi
    obtain ⟨j, hj, rfl⟩ := hi
    simp only [List.getElem_drop, List.getElem_range, List.length_drop, List.length_range] at hj hf ⊢
    exact ⟨_, by omega, by omega, by omega, hf⟩
  · rintro ⟨i, h2, h3, h4, hf⟩
    refine ⟨i, ?_, hf⟩
    rw [List.mem_take_iff_getElem]
    refine ⟨i - u.toNat, by simp only [List.length_drop, List.length_range]; omega, ?_⟩
    simp only [List.getElem_drop, List.getElem_range]
    omega
/-- the ascending list of the places of the flags -/
def plD (n : Nat) (f : Nat → Bool) : List D := ((List.range n).filter f).map fun (i : Nat) => D.int (i : Int)
@[simp] theorem pl_nm {n : Nat} {f : Nat → Bool} : nms (plD n f) = true := nms_map (fun _ => by simp) _
@[simp] theorem pl_flat {n : Nat} {f : Nat → Bool} : (plD n f).all flat = true := by simp [plD]
theorem pl_len {n : Nat} {f : Nat → Bool} : (plD n f).length ≤ n := by
  unfold plD
  rw [List.length_map]
  exact Nat.le_trans (List.length_filter_le _ _) (by simp)
@[simp] theorem pl_okS {n k : Nat} {f : Nat → Bool} : (plD n f).all (okS (k + 1)) = true := by simp [plD]
theorem pl_congr {n : Nat} {f g : Nat → Bool} (h : ∀ i, i < n → f i = g i) : plD n f = plD n g := by
  unfold plD
  rw [List.filter_congr fun i hi => h i (List.mem_range.mp hi)]
theorem pl_succ {n : Nat} {f : Nat → Bool} : plD (n + 1) f = plD n f ++ (if f n then [D.int n] else []) := by
  unfold plD
  rw [List.range_succ, List.filter_append, List.map_append]
  congr 1
  by_cases h : f n <;> simp [h]
-- G s_law_ab
def s_law_ab : Fn := fnOf 1 <|
  seqS (setE 2 (sh (bin addI (.ex (cst (.int 1))) (.ex (fz (callIO 0 s_law_take [(.ex (bin subI (.nm 1) (.ex (cst (.int 1)))))])))))) <|
  retE (sh (tupP [vr 2, bin addI (.ex (bin addI (.nm 2) (.ex (cst (.int 1))))) (.ex (fz (callIO 0 s_law_take [(.ex (bin subI (.nm 1) (.nm 2)))])))]))
-- /G
-- G s_law_size
def s_law_size : Fn := fnOf 0 <|
  seqS (ifS (tst (bin eqD (.ex (fz (callIO 0 s_law_take [(.ex (cst (.int 8)))]))) (.ex (cst (.int 5))))) (retE (sh (bin addI (.ex (cst (.int 1))) (.ex (fz (callIO 0 s_law_take [(.nm 2)])))))) (passS)) <|
  retE (sh (bin addI (.ex (cst (.int 1))) (.ex (fz (callIO 0 s_law_take [(.nm 1)])))))
-- /G
-- G s_law_int
def s_law_int : Fn := fnOf 0 <|
  retE (sh (andP (una (isiB .int) (.nm 0)) (notP (una (isiB .bool) (.nm 0)))))
-- /G
-- G s_law_steps
def s_law_steps : Fn := fnOf 1 <|
  retE (lcE (rngI rng2D [(.ex (bin idx (.nm 0) (.ex (cst (.int 0))))), (.ex (bin addI (.ex (bin idx (.nm 0) (.ex (cst (.int 1))))) (.ex (cst (.int 1)))))]) (.nm 1) [1] yesT (vr 1))
-- /G
-- G s_Lacquer__init
def s_Lacquer__init : Fn := fnOf 0 <|
  seqS (ifS (notT (tst (chain3P leD ltD leD (.ex (cst (.int 1))) (.nm 1) (.nm 2) (.ex (cst (.int 12)))))) (raiseS "BadLacquer") (passS)) <|
  seqS (attS "Lacquer" "a" 0 (vr 1)) <|
  attS "Lacquer" "b" 0 (vr 2)
-- /G
-- G s_Weather__init_e1
def s_Weather__init_e1 : PL.P :=
  bin mulS (.ex (bin idx (.ex (cst (.str ".#"))) (.ex (bin modI (.nm 2) (.ex (cst (.int 2))))))) (.nm 3)
-- /G
-- G s_Weather__init
def s_Weather__init : Fn := fnOf 2 <|
  seqS (ifS (orT (notT (truT (.nm 1))) (orT (tst (bin ltD (.ex (fz (blt min1L [(.nm 1)]))) (.ex (cst (.int 1))))) (tst (bin gtD (.ex (fz (blt sumL [(.nm 1)]))) (.ex (cst (.int 200))))))) (raiseS "BadWeather") (passS)) <|
  seqS (attS "Weather" "lengths" 0 (fz (blt tupleL [(.nm 1)]))) <|
  attS "Weather" "_signs" 0 (una (joinD "") (.ex (fz (lcE (enI (vr 1)) (.tup [.nm 2, .nm 3]) [2, 3] yesT s_Weather__init_e1))))
-- /G
-- G s_Weather_of_signs_b1
def s_Weather_of_signs_b1 : S :=
  seqS (ifS (tst (bin notInD (.nm 4) (.ex (cst (.str ".#"))))) (raiseS "BadWeather") (passS)) <|
  seqS (ifS (andT (tst (bin gtD (.nm 3) (.ex (cst (.int 0))))) (tst (bin neD (.nm 4) (.ex (bin idx (.nm 0) (.ex (bin subI (.nm 3) (.ex (cst (.int 1)))))))))) (seqS (mtS appD 1 [vr 2]) <|
  setE 2 (sh (cst (.int 0)))) (passS)) <|
  augS addS 2 (cst (.int 1))
-- /G
-- G s_Weather_of_signs
def s_Weather_of_signs : Fn := fnOf 4 <|
  seqS (ifS (orT (notT (tst (chainP leD leD (.ex (cst (.int 1))) (.ex (fz (blt lenL [(.nm 0)]))) (.ex (cst (.int 200)))))) (tst (bin neD (.ex (bin idx (.nm 0) (.ex (cst (.int 0))))) (.ex (cst (.str ".")))))) (raiseS "BadWeather") (passS)) <|
  seqS (setE 1 (lstP [])) <|
  seqS (setE 2 (sh (cst (.int 0)))) <|
  seqS (forS (ensI (vr 0)) (.tup [.nm 3, .nm 4]) (s_Weather_of_signs_b1)) <|
  seqS (mtS appD 1 [vr 2]) <|
  retE (mkE "Weather" s_Weather__init [(.nm 1)])
-- /G
-- G s_Weather_signs
def s_Weather_signs : Fn := fnOf 0 <|
  retE (sh (una (fld "Weather" ["lengths", "_signs"] 1) (.nm 0)))
-- /G
-- G s_Weather_hours
def s_Weather_hours : Fn := fnOf 0 <|
  retE (blt lenL [(.ex (una (fld "Weather" ["lengths", "_signs"] 1) (.nm 0)))])
-- /G
-- G s_Weather_first
def s_Weather_first : Fn := fnOf 0 <|
  seqS (ifS (notT (tst (chainP leD leD (.ex (cst (.int 1))) (.nm 1) (.ex (fz (propF "Weather" s_Weather_hours (.nm 0))))))) (raiseS "BadHour") (passS)) <|
  retE (callF s_Weather_of_signs [(.ex (fz (slE (.ex (una (fld "Weather" ["lengths", "_signs"] 1) (.nm 0))) none (some (vr 1)))))])
-- /G
-- G s_Weather_is_dry
def s_Weather_is_dry : Fn := fnOf 0 <|
  seqS (ifS (notT (tst (chainP leD leD (.ex (cst (.int 1))) (.nm 1) (.ex (fz (propF "Weather" s_Weather_hours (.nm 0))))))) (raiseS "BadHour") (passS)) <|
  retE (sh (bin eqD (.ex (bin idx (.ex (una (fld "Weather" ["lengths", "_signs"] 1) (.nm 0))) (.ex (bin subI (.nm 1) (.ex (cst (.int 1))))))) (.ex (cst (.str ".")))))
-- /G
-- G s_law_longest_b1
def s_law_longest_b1 : S :=
  ifS (andT (tst (bin leD (.ex (bin idx (.nm 3) (.ex (cst (.int 1))))) (.nm 1))) (tst (bin gtD (.ex (bin idx (.nm 3) (.ex (cst (.int 0))))) (.nm 2)))) (setE 2 (sh (bin idx (.nm 3) (.ex (cst (.int 0)))))) (passS)
-- /G
-- G s_law_longest
def s_law_longest : Fn := fnOf 2 <|
  seqS (setE 2 (sh (cst (.int 0)))) <|
  seqS (forS (seqI (vr 0)) (.nm 3) (s_law_longest_b1)) <|
  retV 2
-- /G
-- G s_law_kinds_b1
def s_law_kinds_b1 : S :=
  seqS (setE 6 (sh (bin addI (.ex (cst (.int 1))) (.ex (fz (callIO 0 s_law_take [(.nm 2)])))))) <|
  mtS appD 4 [tupP [vr 6, bin addI (.ex (cst (.int 1))) (.ex (fz (callIO 0 s_law_take [(.nm 3)])))]]
-- /G
-- G s_law_kinds
def s_law_kinds : Fn := fnOf 3 <|
  seqS (setE 4 (lstP [])) <|
  seqS (forS (rngI rng1D [(.ex (fz (callIO 0 s_law_take [(.ex (bin addI (.nm 1) (.ex (cst (.int 1)))))])))]) (.nm 5) (s_law_kinds_b1)) <|
  retV 4
-- /G
-- G s_law_signs_b1
def s_law_signs_b1 : S :=
  seqS (ifS (tst (bin eqD (.nm 3) (.ex (cst (.int 0))))) (setE 4 (sh (bin eqD (.ex (fz (callIO 0 s_law_take [(.ex (cst (.int 2)))]))) (.ex (cst (.int 1)))))) (ifS (tst (bin eqD (.nm 3) (.ex (cst (.int 1))))) (setE 4 (sh (bin eqD (.ex (fz (callIO 0 s_law_take [(.ex (cst (.int 4)))]))) (.ex (cst (.int 1)))))) (ifS (tst (bin eqD (.ex (fz (callIO 0 s_law_take [(.ex (cst (.int 4)))]))) (.ex (cst (.int 1))))) (setE 4 (sh (notP (vr 4)))) (passS)))) <|
  ifS (truT (.nm 4)) (setE 2 (binE addD (.nm 2) (.ex (cst (.str "#"))))) (setE 2 (binE addD (.nm 2) (.ex (cst (.str ".")))))
-- /G
-- G s_law_signs
def s_law_signs : Fn := fnOf 4 <|
  seqS (setE 2 (sh (cst (.str ".")))) <|
  seqS (setE 3 (callIO 0 s_law_take [(.ex (cst (.int 3)))])) <|
  seqS (setE 4 (sh (cst (.bl false)))) <|
  seqS (forS (rngI rng1D [(.ex (bin subI (.nm 1) (.ex (cst (.int 1)))))]) (.nm 5) (s_law_signs_b1)) <|
  retV 2
-- /G
/-! ### draws of lacquers, sizes, kinds -/
def abV (p : Pool) (m : Int) : Int × Int := (1 + tv p (m - 1), 1 + tv p (m - 1) + 1 + tv (tp p (m - 1)) (m - (1 + tv p (m - 1))))
def abP (p : Pool) (m : Int) : Pool := tp (tp p (m - 1)) (m - (1 + tv p (m - 1)))
theorem ab_b (p : Pool) {m : Int} (h : 2 ≤ m) : 1 ≤ (abV p m).1 ∧ (abV p m).1 < (abV p m).2 ∧ (abV p m).2 ≤ m := by
  unfold abV
  have b1 := tv_b p (s := m - 1) (by omega)
  have b2 := tv_b (tp p (m - 1)) (s := m - (1 + tv p (m - 1))) (by omega)
  simp only
  omega
theorem ab_ok {p : Pool} {m : Int} (h : 2 ≤ m) (h2 : m < 1000) : s_law_ab [.io (poolD p), .shr (.int m)] = .ok (.shr (kD (abV p m))) [.io (poolD (abP p m)), .no] := by
  have b1 := tv_b p (s := m - 1) (by omega)
  have e1 := take_ok (p := p) (s := m - 1) (by omega) (by omega)
  have e2 := take_ok (p := tp p (m - 1)) (s := m - (1 + tv p (m - 1))) (by omega) (by omega)
  simp [s_law_ab, setOk_lo, e1, e2, abV, abP, kD]
def sizeV (p : Pool) (u m : Int) : Int := if tv p 8 = 5 then 1 + tv (tp p 8) m else 1 + tv (tp p 8) u
def sizeP (p : Pool) (u m : Int) : Pool := if tv p 8 = 5 then tp (tp p 8) m else tp (tp p 8) u
theorem size_b (p : Pool) {u m : Int} (h : 1 ≤ u) (h2 : 1 ≤ m) : 1 ≤ sizeV p u m ∧ sizeV p u m ≤ max u m := by
  unfold sizeV
  have b1 := tv_b (tp p 8) (s := m) (by omega)
  have b2 := tv_b (tp p 8) (s := u) (by omega)
  split <;> omega
theorem size_ok {p : Pool} {u m : Int} (h : 1 ≤ u) (h2 : 1 ≤ m) (h3 : u < 1000) (h4 : m < 1000) : s_law_size [.io (poolD p), .shr (.int u), .shr (.int m)] = .ok (.shr (.int (sizeV p u m))) [.io (poolD (sizeP p u m)), .no, .no] := by
  have e0 := take_ok (p := p) (s := 8) (by omega) (by omega)
  have e1 := take_ok (p := tp p 8) (s := m) (by omega) (by omega)
  have e2 := take_ok (p := tp p 8) (s := u) (by omega) (by omega)
  unfold sizeV sizeP
  by_cases c : tv p 8 = 5
  · simp [s_law_size, setOk_lo, e0, e1, c]
  · have c' : (tv p 8 == 5) = false := beq_eq_false_iff_ne.mpr c
    simp [s_law_size, setOk_lo, e0, e2, c, c']
theorem int_ok {x : Int} : s_law_int [.shr (.int x)] = .ok (.shr (.bl true)) [.no] := by simp [s_law_int, isiB]
@[simp] theorem q_nm_kD {x : Int × Int} : nm (kD x) = true := by simp [kD]
@[simp] theorem flat_kD {x : Int × Int} : flat (kD x) = false := id rfl
@[simp] theorem q_nms_kD {l : List (Int × Int)} : nms (l.map kD) = true := nms_map (fun _ => by simp) _
@[simp] theorem isNon_kD {x : Int × Int} : isNonD (kD x) = false := id rfl
@[simp] theorem idx0_kD {x : Int × Int} : idx (kD x) (.int 0) = some (.int x.1) := kD_0
@[simp] theorem idx1_kD {x : Int × Int} : idx (kD x) (.int 1) = some (.int x.2) := kD_1
@[simp] theorem okS_kD {n : Nat} {x : Int × Int} : okS (n + 2) (kD x) = true := by simp [kD]
@[simp] theorem tg_kD {t u : Tg} {x : Int × Int} {env : List Sl} : tgS (.tup [t, u]) (kD x) env = tgsS [t, u] [.int x.1, .int x.2] env := by simp [kD]
theorem kD_tup {a b : Int} : D.tup [.int a, .int b] = kD (a, b) := rfl
/-- n kinds drawn -/
def kindsL (wk nd : Int) : Nat → Pool → List (Int × Int) × Pool
  | 0, p => ([], p)
  | n + 1, p => let r := kindsL wk nd n p; (r.1 ++ [(1 + tv r.2 wk, 1 + tv (tp r.2 wk) nd)], tp (tp r.2 wk) nd)
def kindsV (p : Pool) (m wk nd : Int) : List (Int × Int) := (kindsL wk nd (tv p (m + 1)).toNat (tp p (m + 1))).1
def kindsP (p : Pool) (m wk nd : Int) : Pool := (kindsL wk nd (tv p (m + 1)).toNat (tp p (m + 1))).2
theorem kindsL_len {wk nd : Int} {p : Pool} : ∀ n, (kindsL wk nd n p).1.length = n
  | 0 => rfl
  | n + 1 => by simp [kindsL, kindsL_len n]
theorem kindsL_in {wk nd : Int} {p : Pool} (h : 1 ≤ wk) (h2 : 1 ≤ nd) : ∀ n, Kin wk nd (kindsL wk nd n p).1
  | 0 => fun x hx => by simp [kindsL] at hx
  | n + 1 => by
    have b1 := tv_b (kindsL wk nd n p).2 (s := wk) (by omega)
    have b2 := tv_b (tp (kindsL wk nd n p).2 wk) (s := nd) (by omega)
    exact (kindsL_in h h2 n).snoc (by omega) (by omega) (by omega) (by omega)
theorem kindsV_in {p : Pool} {m wk nd : Int} (h : 1 ≤ wk) (h2 : 1 ≤ nd) : Kin wk nd (kindsV p m wk nd) := kindsL_in h h2 _
theorem kindsV_len {p : Pool} {m wk nd : Int} (h : 0 ≤ m) : ((kindsV p m wk nd).length : Int) ≤ m := by
  unfold kindsV
  rw [kindsL_len]
  have := tv_b p (s := m + 1) (by omega)
  omega
theorem kinds_ok {p : Pool} {m wk nd : Int} (h0 : 0 ≤ m) (h1 : m < 1000) (h2 : 1 ≤ wk) (h3 : wk < 1000) (h4 : 1 ≤ nd) (h5 : nd < 1000) :
    s_law_kinds [.io (poolD p), .shr (.int m), .shr (.int wk), .shr (.int nd)] = .ok (.own (.lst ((kindsV p m wk nd).map kD))) [.io (poolD (kindsP p m wk nd)), .no, .no, .no] := by
  have b0 := tv_b p (s := m + 1) (by omega)
  have e0 := take_ok (p := p) (s := m + 1) (by omega) (by omega)
  have r := rng1_a (i := tv p (m + 1)) (by omega) (by omega)
  obtain ⟨e', g1, s5, s6, rfl, _, _⟩ := loop_rng (tg := .nm 5) (body := s_law_kinds_b1) 0 (tv p (m + 1)).toNat
    (fun k e => ∃ s5 s6, e = [.io (poolD (kindsL wk nd k (tp p (m + 1))).2), .shr (.int m), .shr (.int wk), .shr (.int nd), .own (.lst ((kindsL wk nd k (tp p (m + 1))).1.map kD)), s5, s6] ∧ loB s5 = true ∧ loB s6 = true) [.io (poolD (tp p (m + 1))), .shr (.int m), .shr (.int wk), .shr (.int nd), .own (.lst []), .no, .no]
    ⟨.no, .no, rfl, rfl, rfl⟩ (fun j env hj hi => by
      obtain ⟨s5, s6, rfl, h5', h6⟩ := hi
      have e1 := take_ok (p := (kindsL wk nd j (tp p (m + 1))).2) (s := wk) (by omega) (by omega)
      have e2 := take_ok (p := tp (kindsL wk nd j (tp p (m + 1))).2 wk) (s := nd) (by omega) (by omega)
      have hl := kindsL_len (wk := wk) (nd := nd) (p := tp p (m + 1)) j
      have ap := o_app (ds := (kindsL wk nd j (tp p (m + 1))).1.map kD) (d := kD (1 + tv (kindsL wk nd j (tp p (m + 1))).2 wk, 1 + tv (tp (kindsL wk nd j (tp p (m + 1))).2 wk) nd)) (by simp; omega)
      simp only [kD] at ap
      refine ⟨_, _, by simp [setOk_lo, h5']; rfl, .inl ?_, .shr (.int (0 + (j : Int))), .shr (.int (1 + tv (kindsL wk nd j (tp p (m + 1))).2 wk)), rfl, rfl, rfl⟩
      simp [s_law_kinds_b1, setOk_lo, h6, e1, e2, kindsL, ap]
      rfl)
  simp [s_law_kinds, setOk_lo, e0, r, g1, kindsV, kindsP]
/-! ### lacquers -/
def lacD (a b : Int) : D := .ins "Lacquer" ["a", "b"] [.int a, .int b]
theorem lac_init {a b : Int} (h0 : 1 ≤ a) (h1 : a < b) (h2 : b ≤ 12) : s_Lacquer__init [.io (.ins "Lacquer" [] []), .shr (.int a), .shr (.int b)] = .ok (.shr .non) [.io (lacD a b), .no, .no] := by
  have n1 : ¬ (Str.ofString "a" = Str.ofString "b") := by decide +kernel
  simp [s_Lacquer__init, h0, h1, h2, putN, lacD, n1]
@[simp] theorem lac_nm {a b : Int} : nmO (lacD a b) = true := by simp [lacD]
@[simp] theorem lac_flat {a b : Int} : flatO (lacD a b) = true := by simp [lacD]
@[simp] theorem lac_a {a b : Int} : fld "Lacquer" ["a", "b"] 0 (lacD a b) = some (.int a) := by simp [fld, lacD]
@[simp] theorem lac_b {a b : Int} : fld "Lacquer" ["a", "b"] 1 (lacD a b) = some (.int b) := by simp [fld, lacD]
theorem steps_ok {a b : Int} (h0 : 1 ≤ a) (h1 : a < b) (h2 : b ≤ 1000) : s_law_steps [.shr (kD (a, b))] = .ok (.own (.lst (rngL a (b + 1 - a).toNat))) [.no] := by
  have r := rng2_a (i := a) (j := b + 1) (by omega) (by omega) (by omega) (by omega)
  have c := lcL_rng (tg := .nm 1) (vs := [1]) (elt := vr 1) (env0 := [.shr (kD (a, b)), .no]) a (b + 1 - a).toNat (fun j => .int (a + j)) (by omega) (fun j hj => ⟨[.shr (kD (a, b)), .shr (.int (a + j))], [.shr (kD (a, b)), .shr (.int (a + j))], by simp [setOk_lo], by simp, by simp, by simp⟩)
  simp [s_law_steps, setOk_lo, r, c]
  rfl
@[simp] theorem rng_nm {lo : Int} {n : Nat} : nms (rngL lo n) = true := nms_map (fun _ => by simp) _
@[simp] theorem rng_flat {lo : Int} {n : Nat} : (rngL lo n).all flat = true := by simp [rngL]
/-! ### weathers -/
def prtL : Bool → List Int → List (List Bool)
  | _, [] => []
  | b, n :: ns => List.replicate n.toNat b :: prtL (!b) ns
/-- the signs of lengths -/
def exL (b : Bool) (ns : List Int) : List Bool := (prtL b ns).flatten
theorem prtL_len : ∀ {b : Bool} {ns : List Int}, (prtL b ns).length = ns.length
  | _, [] => rfl
  | b, n :: ns => by simp [prtL, prtL_len]
theorem prtL_get : ∀ {b : Bool} {ns : List Int} {j : Nat}, (prtL b ns)[j]? = ns[j]?.map fun n => List.replicate n.toNat (if j % 2 = 0 then b else !b)
  | _, [], j => by simp [prtL]
  | b, n :: ns, 0 => by simp [prtL]
  | b, n :: ns, j + 1 => by
    simp only [prtL, List.getElem?_cons_succ, prtL_get]
    congr 1
    funext m
    by_cases h : j % 2 = 0
    · rw [if_pos h, if_neg (by omega)]
    · rw [if_neg h, if_pos (by omega)]; simp
theorem exL_snoc : ∀ {b : Bool} {ns : List Int} {n : Int}, exL b (ns ++ [n]) = exL b ns ++ List.replicate n.toNat (if ns.length % 2 = 0 then b else !b)
  | b, [], n => by simp [exL, prtL]
  | b, m :: ns, n => by
    have ih := exL_snoc (b := !b) (ns := ns) (n := n)
    simp only [exL, prtL, List.cons_append, List.flatten_cons, List.append_assoc, List.length_cons] at ih ⊢
    rw [ih]
    congr 2
    by_cases h : ns.length % 2 = 0
    · rw [if_pos h, if_neg (by omega)]
    · rw [if_neg h, if_pos (by omega)]; simp
theorem prtL_sum : ∀ {b : Bool} {ns : List Int}, (∀ x ∈ ns, 0 ≤ x) → ((((prtL b ns).map List.length).sum : Nat) : Int) = ns.sum
  | _, [], _ => rfl
  | b, n :: ns, h => by
    have ih := prtL_sum (b := !b) (ns := ns) fun x hx => h x (by simp [hx])
    have := h n (by simp)
    simp only [prtL, List.map_cons, List.sum_cons, List.length_replicate, Int.natCast_add, ih]
    omega
theorem exL_len {b : Bool} {ns : List Int} (h : ∀ x ∈ ns, 0 ≤ x) : ((exL b ns).length : Int) = ns.sum := by
  unfold exL
  rw [List.length_flatten]
  exact prtL_sum h
def weaD (ns : List Int) : D := .ins "Weather" ["lengths", "_signs"] [.tup (ns.map .int), .str (sgS (exL true ns))]
theorem joinL_nil : ∀ (ps : List (List Nat)), TL.joinL [] ps = ps.flatten
  | [] => rfl
  | [p] => by simp [TL.joinL]
  | p :: q :: r => by
    have := joinL_nil (q :: r)
    simp only [TL.joinL, this, List.flatten_cons, List.nil_append]
theorem sgS_of_tl {x : Str} {l : List Bool} (h : TL.tl x = l.map sgN) : x = sgS l := by
  cases x with
  | mk c =>
    have h' : c.toList = l.map sgN := h
    unfold sgS
    rw [← h']
theorem strs_sg : ∀ ps : List (List Bool), strs? (ps.map fun l => D.str (sgS l)) = some (ps.map sgS)
  | [] => rfl
  | p :: ps => by simp [strs?, strs_sg ps]
theorem sum_map_len : ∀ ps : List (List Bool), ((ps.map sgS).map (·.length)).sum = (ps.map List.length).sum
  | [] => rfl
  | p :: ps => by
    have := sum_map_len ps
    simp only [List.map_cons, List.sum_cons, this, sg_len]
theorem join_sg {ps : List (List Bool)} (h : (ps.map List.length).sum ≤ 16777216) : joinD (Str.ofString "") (.lst (ps.map fun l => .str (sgS l))) = some (.str (sgS ps.flatten)) := by
  have e0 : (Str.ofString "").length = 0 := by decide +kernel
  have e1 : Txt.join (Str.ofString "") (ps.map sgS) = sgS ps.flatten := by
    refine sgS_of_tl ?_
    have t0 : TL.tl (Str.ofString "") = [] := by decide +kernel
    rw [TL.join_eq, TL.tl_join, t0, joinL_nil, List.map_map, List.map_flatten]
    congr 1
  show ((strs? (ps.map fun l => D.str (sgS l))).bind fun ys => if (ys.map (·.length)).sum + ys.length * (Str.ofString "").length ≤ 16777216 then some (D.str (Txt.join (Str.ofString "") ys)) else none) = _
  rw [strs_sg]
  simp only [Option.bind_some]
  rw [sum_map_len, e0, Nat.mul_zero, Nat.add_zero, if_pos h, e1]
theorem foldl_min_lb {m : Int} : ∀ {r : List Int} {n : Int}, m ≤ n → (∀ x ∈ r, m ≤ x) → m ≤ r.foldl min n
  | [], _, h, _ => h
  | x :: r, n, h, h2 => foldl_min_lb (r := r) (by have := h2 x (by simp); omega) fun y hy => h2 y (by simp [hy])
theorem min1_lb {ns : List Int} {m : Int} (hne : ns ≠ []) (h : ∀ x ∈ ns, m ≤ x) : ∃ k, min1L [.lst (ns.map .int)] = some (.shr (.int k)) ∧ m ≤ k := by
  cases ns with
  | nil => exact absurd rfl hne
  | cons n r =>
    refine ⟨r.foldl min n, ?_, foldl_min_lb (h n (by simp)) fun x hx => h x (by simp [hx])⟩
    show ((ints? ((n :: r).map D.int)).bind fun | [] => none | n :: r => some (Sl.shr (D.int (r.foldl min n)))) = _
    rw [ints_mapi]
    rfl
theorem enL_map_get {α : Type} {f : α → D} {xs : List α} {j : Nat} {d : D} (h : (enL 0 (xs.map f))[j]? = some d) : ∃ x, xs[j]? = some x ∧ d = .tup [.int (j : Int), f x] := by
  obtain ⟨y, h1, h2⟩ := enL_get h
  rw [List.getElem?_map] at h1
  obtain ⟨x, hx, rfl⟩ := Option.map_eq_some_iff.mp h1
  exact ⟨x, hx, by rw [h2, Nat.zero_add]⟩
theorem sum_le_len {ns : List Int} (h : ∀ x ∈ ns, 1 ≤ x) : (ns.length : Int) ≤ ns.sum := by
  induction ns with
  | nil => simp
  | cons n ns ih =>
    have := h n (by simp)
    have := ih fun x hx => h x (by simp [hx])
    simp only [List.length_cons, List.sum_cons, Int.natCast_add]
    omega
theorem le_sum {ns : List Int} (h : ∀ x ∈ ns, 1 ≤ x) {y : Int} (hy : y ∈ ns) : y ≤ ns.sum := by
  induction ns with
  | nil => simp at hy
  | cons n ns ih =>
    have h0 := sum_le_len (ns := ns) fun x hx => h x (by simp [hx])
    rw [List.sum_cons]
    rcases List.mem_cons.mp hy with rfl | hy
    · omega
    · have := ih (fun x hx => h x (by simp [hx])) hy
      have := h n (by simp)
      omega
theorem wea_init {ns : List Int} (hne : ns ≠ []) (h1 : ∀ x ∈ ns, 1 ≤ x) (h2 : ns.sum ≤ 200) : s_Weather__init [.io (.ins "Weather" [] []), .shr (.lst (ns.map .int))] = .ok (.shr .non) [.io (weaD ns), .no] := by
  have em : (ns.map D.int).isEmpty = false := by cases ns with | nil => exact absurd rfl hne | cons => rfl
  obtain ⟨k, mk, hk⟩ := min1_lb hne h1
  have k1 : ¬ k < 1 := by omega
  have sm : sumL [.lst (ns.map .int)] = some (.shr (.int ns.sum)) := by simp [sumL]
  have s1 : ¬ (200 : Int) < ns.sum := by omega
  have n1 : ¬ (Str.ofString "lengths" = Str.ofString "_signs") := by decide +kernel
  have hl := sum_le_len h1
  have c := lcL_ix (tg := .tup [.nm 2, .nm 3]) (vs := [2, 3]) (elt := s_Weather__init_e1) (env0 := [.io (.ins "Weather" ["lengths"] [.tup (ns.map .int)]), .shr (.lst (ns.map .int)), .no, .no])
    (enL 0 (ns.map .int)) ((prtL true ns).map fun l => .str (sgS l)) 0 (by simp [prtL_len, enL_len]) (by rw [enL_len]; simp; omega) (fun j d y hd hy => by
      obtain ⟨n, hn, rfl⟩ := enL_map_get hd
      rw [List.getElem?_map, prtL_get, hn] at hy
      simp only [Option.map_some, Option.some.injEq] at hy
      subst hy
      have n1 := h1 n (List.mem_of_getElem? hn)
      have n2 := le_sum h1 (List.mem_of_getElem? hn)
      refine ⟨[.io (.ins "Weather" ["lengths"] [.tup (ns.map .int)]), .shr (.lst (ns.map .int)), .shr (.int j), .shr (.int n)], [.io (.ins "Weather" ["lengths"] [.tup (ns.map .int)]), .shr (.lst (ns.map .int)), .shr (.int j), .shr (.int n)], by simp [setOk_lo], ?_, by simp, by simp⟩
      have m2 := o_mod (x := (j : Int)) (y := 2) (by omega)
      have ix := idx_sg (l := [true, false]) (x := (j : Int) % 2) (by simp) (by omega)
      have mu := fun b => mulS_sg (b := b) (n := n) (by omega) (by omega)
      by_cases hp : j % 2 = 0
      · have e : (j : Int) % 2 = 0 := by omega
        rw [e] at ix m2
        simp at ix
        simp [s_Weather__init_e1, m2, ix, mu, hp]
      · have e : (j : Int) % 2 = 1 := by omega
        rw [e] at ix m2
        simp at ix
        simp [s_Weather__init_e1, m2, ix, mu, hp])
  have jn := join_sg (ps := prtL true ns) (by
    have := prtL_sum (b := true) (ns := ns) fun x hx => by have := h1 x hx; omega
    omega)
  simp [s_Weather__init, em, mk, k1, sm, s1, putN, n1, c, jn, weaD, exL]
/-- the lengths before place k, the last of them apart -/
def grpL (l : List Bool) : Nat → List Int × Int
  | 0 => ([], 0)
  | k + 1 => let r := grpL l k; if 0 < k ∧ l[k]? ≠ l[k - 1]? then (r.1 ++ [r.2], 1) else (r.1, r.2 + 1)
def lensL (l : List Bool) : List Int := (grpL l l.length).1 ++ [(grpL l l.length).2]
theorem grpL_ok {l : List Bool} (h : l[0]? = some true) : ∀ k, 1 ≤ k → k ≤ l.length → exL true (grpL l k).1 ++ List.replicate (grpL l k).2.toNat (decide ((grpL l k).1.length % 2 = 0)) = l.take k ∧
    l[k - 1]? = some (decide ((grpL l k).1.length % 2 = 0)) ∧ (∀ x ∈ (grpL l k).1, 1 ≤ x) ∧ 1 ≤ (grpL l k).2 ∧ (grpL l k).1.sum + (grpL l k).2 = k
  | 0, h1, _ => by omega
  | 1, _, h2 => by
    have e : grpL l 1 = ([], 1) := by simp [grpL]
    rw [e]
    cases l with
    | nil => simp at h2
    | cons b l =>
      have : b = true := by simpa using h
      subst this
      simp [exL, prtL]
  | k + 2, _, h2 => by
    have lt1 : k + 1 < l.length := by omega
    have lt0 : k < l.length := by omega
    have hk : l[k + 1]? = some (l[k + 1]'lt1) := List.getElem?_eq_getElem lt1
    have hk0 : l[k]? = some (l[k]'lt0) := List.getElem?_eq_getElem lt0
    obtain ⟨i1, i2, i3, i4, i5⟩ := grpL_ok h (k + 1) (by omega) (by omega)
    have tk : l.take (k + 2) = l.take (k + 1) ++ [l[k + 1]] := by rw [List.take_succ, hk]; rfl
    have i2' : (l[k]'lt0) = decide ((grpL l (k + 1)).1.length % 2 = 0) := by
      rw [Nat.add_sub_cancel, hk0] at i2
      exact Option.some.inj i2
    have e : grpL l (k + 2) = if l[k + 1]? ≠ l[k]? then ((grpL l (k + 1)).1 ++ [(grpL l (k + 1)).2], 1) else ((grpL l (k + 1)).1, (grpL l (k + 1)).2 + 1) := by
      rw [grpL]
      simp
    generalize hg : grpL l (k + 1) = g at *
    by_cases c : l[k + 1]? = l[k]?
    · rw [if_neg (not_not_intro c)] at e
      rw [e]
      have c2 : l[k + 1] = decide (g.1.length % 2 = 0) := by rw [hk, hk0] at c; rw [← i2']; exact Option.some.inj c
      refine ⟨?_, ?_, i3, ?_, ?_⟩
      · have r : (g.2 + 1).toNat = g.2.toNat + 1 := by omega
        simp only
        rw [r, List.replicate_succ', ← List.append_assoc, i1, tk, c2]
      · simp only [Nat.add_sub_cancel]
        rw [← c2]
        exact hk
      · simp only; omega
      · simp only; omega
    · rw [if_pos c] at e
      rw [e]
      have c2 : l[k + 1] = !(decide (g.1.length % 2 = 0)) := by
        rw [hk, hk0, i2'] at c
        cases hb : l[k + 1] <;> cases hd : decide (g.1.length % 2 = 0) <;> simp_all
      have pa : decide ((g.1 ++ [g.2]).length % 2 = 0) = !(decide (g.1.length % 2 = 0)) := by
        rw [List.length_append]
        by_cases hq : g.1.length % 2 = 0
        · rw [decide_eq_true hq, decide_eq_false (by simp; omega)]; rfl
        · rw [decide_eq_false hq, decide_eq_true (by simp; omega)]; rfl
      refine ⟨?_, ?_, ?_, by simp, ?_⟩
      · simp only [pa, exL_snoc]
        have : (if g.1.length % 2 = 0 then true else !true) = decide (g.1.length % 2 = 0) := by split <;> simp_all
        rw [this, i1, tk, c2]; rfl
      · simp only [Nat.add_sub_cancel, pa]
        rw [← c2]
        exact hk
      · intro x hx
        rcases List.mem_append.mp hx with hx | hx
        · exact i3 x hx
        · have : x = g.2 := by simpa using hx
          omega
      · simp only [List.sum_append, List.sum_cons, List.sum_nil]
        omega
theorem lensL_ok {l : List Bool} (h : l[0]? = some true) : exL true (lensL l) = l ∧ (∀ x ∈ lensL l, 1 ≤ x) ∧ lensL l ≠ [] ∧ (lensL l).sum = l.length := by
  have hl : 1 ≤ l.length := by cases l with | nil => simp at h | cons => simp
  obtain ⟨i1, i2, i3, i4, i5⟩ := grpL_ok h l.length hl (Nat.le_refl _)
  unfold lensL
  refine ⟨?_, ?_, by simp, ?_⟩
  · rw [exL_snoc]
    have : (if (grpL l l.length).1.length % 2 = 0 then true else !true) = decide ((grpL l l.length).1.length % 2 = 0) := by split <;> simp_all
    rw [this, i1, List.take_length]
  · intro x hx
    rcases List.mem_append.mp hx with hx | hx
    · exact i3 x hx
    · have : x = (grpL l l.length).2 := by simpa using hx
      omega
  · simp only [List.sum_append, List.sum_cons, List.sum_nil]
    omega
@[simp] theorem comp_sg : ((fun c => D.str { cps := #[c] }) ∘ sgN) = fun b => D.str (sgS [b]) := by
  funext b
  simp
theorem notIn_sg {b : Bool} : notInD (.str (sgS [b])) (.str (sgS [true, false])) = some (.bl false) := by
  cases b <;> simp [notInD, inB, sgN]
theorem ens_sg {l : List Bool} {f : P} {env e : List Sl} (h : f env = .ok (.str (sgS l)) e) : ensI f env = .ok (enL 0 (l.map fun b => .str (sgS [b]))) e := by
  simp only [q_ensI, h, Res.bind_ok, sg_cps, List.map_map]
  congr 2
theorem of_signs_ok {l : List Bool} (h : l[0]? = some true) (h2 : l.length ≤ 200) : s_Weather_of_signs [.shr (.str (sgS l))] = .ok (.own (weaD (lensL l))) [.no] := by
  have hl : 1 ≤ l.length := by cases l with | nil => simp at h | cons => simp
  obtain ⟨k1, k2, k3, k4⟩ := lensL_ok h
  have wi := wea_init k3 k2 (by omega)
  have gl : ∀ k, (grpL l k).1.length ≤ k := fun k => by
    induction k with
    | zero => simp [grpL]
    | succ k ih =>
      simp only [grpL]
      split
      · simp; omega
      · simp; omega
  obtain ⟨e', g1, s3, s4, rfl, _, _⟩ := loop_nx (tg := .tup [.nm 3, .nm 4]) (body := s_Weather_of_signs_b1)
    (fun k e => ∃ s3 s4, e = [.shr (.str (sgS l)), .own (.lst ((grpL l k).1.map .int)), .shr (.int (grpL l k).2), s3, s4] ∧ loB s3 = true ∧ loB s4 = true) (enL 0 (l.map fun b => .str (sgS [b]))) 0
    [.shr (.str (sgS l)), .own (.lst []), .shr (.int 0), .no, .no] ⟨.no, .no, rfl, rfl, rfl⟩ (fun j d env hd hi => by
      obtain ⟨s3, s4, rfl, h3, h4⟩ := hi
      obtain ⟨b, hb, rfl⟩ := enL_map_get hd
      have hj := (List.getElem?_eq_some_iff.mp hb).1
      rw [Nat.zero_add]
      refine ⟨[.shr (.str (sgS l)), .own (.lst ((grpL l j).1.map .int)), .shr (.int (grpL l j).2), .shr (.int j), .shr (.str (sgS [b]))], [.shr (.str (sgS l)), .own (.lst ((grpL l (j + 1)).1.map .int)), .shr (.int (grpL l (j + 1)).2), .shr (.int j), .shr (.str (sgS [b]))], by simp [setOk_lo, h3, h4], .inl ?_, _, _, rfl, rfl, rfl⟩
      by_cases c0 : 0 < j
      · have c0' : (0 : Int) < j := by omega
        have hj1 : l[j - 1]? = some l[j - 1] := List.getElem?_eq_getElem (by omega)
        have ix := idx_sg (l := l) (x := (j : Int) - 1) (by omega) (by omega)
        rw [show ((j : Int) - 1).toNat = j - 1 by omega, hj1, Option.map_some] at ix
        have ap := o_app (ds := (grpL l j).1.map .int) (d := .int (grpL l j).2) (by have := gl j; simp; omega)
        by_cases c : l[j]? = l[j - 1]?
        · have c' : b = l[j - 1] := by rw [hb, hj1] at c; exact Option.some.inj c
          simp [s_Weather_of_signs_b1, setOk_lo, notIn_sg, c0', ix, c', grpL, c]
        · have c' : ¬ b = l[j - 1] := fun z => c (by rw [hb, hj1, z])
          have c2 : (b == l[j - 1]) = false := beq_eq_false_iff_ne.mpr c'
          simp [s_Weather_of_signs_b1, setOk_lo, notIn_sg, c0', ix, c2, grpL, c, c0, ap]
      · have c0' : ¬ (0 : Int) < j := by omega
        simp [s_Weather_of_signs_b1, setOk_lo, notIn_sg, c0', grpL, c0])
  have t1 := idx_sg (l := l) (x := 0) (by omega) (by omega)
  rw [show (0 : Int).toNat = 0 from rfl, h, Option.map_some] at t1
  have t2 := len_sg (l := l) (by omega)
  have t3 : (1 : Int) ≤ l.length := by omega
  have t4 : (l.length : Int) ≤ 200 := by omega
  have es := ens_sg (l := l) (f := vr 0) (env := [.shr (.str (sgS l)), .own (.lst []), .shr (.int 0), .no, .no]) (e := [.shr (.str (sgS l)), .own (.lst []), .shr (.int 0), .no, .no]) (by simp)
  have ap := o_app (ds := (grpL l l.length).1.map .int) (d := .int (grpL l l.length).2) (by have := gl l.length; simp; omega)
  have fin : (0 + (enL 0 (l.map fun b => D.str (sgS [b]))).length) = l.length := by simp [enL_len]
  rw [fin] at g1
  have wn : nmO (weaD (lensL l)) = true := by simp [weaD]
  have le : (grpL l l.length).1.map D.int ++ [D.int (grpL l l.length).2] = (lensL l).map D.int := by simp [lensL]
  simp only [s_Weather_of_signs, q_fnOf, List.cons_append, List.nil_append, List.replicate, q_seqS, q_forS]
  simp [t1, t2, t3, t4, setOk_lo, es, g1, ap, le, wi, wn]
end PL

/-! Pl31: the reached hours, the layers. -/
namespace PL
open PySem L2
-- G s_dry_flags_e1
def s_dry_flags_e1 : PL.P :=
  bin eqD (.nm 1) (.ex (cst (.str ".")))
-- /G
-- G s_dry_flags
def s_dry_flags : Fn := fnOf 1 <|
  retE (binE addD (.ex (fz (lstP [cst (.bl false)]))) (.ex (fz (lcE (strI (vr 0)) (.nm 1) [1] yesT s_dry_flags_e1))))
-- /G
-- G s_reach_flags_b1
def s_reach_flags_b1 : S :=
  ifS (truT (.ex (bin idx (.nm 1) (.nm 3)))) (putS lput 2 (vr 3) (fz (blt anyL [(.ex (fz (slE (.nm 2) (some (fz (blt max2L [(.ex (bin subI (.nm 3) (.ex (una (fld "Lacquer" ["a", "b"] 1) (.nm 0))))), (.ex (cst (.int 0)))]))) (some (fz (blt max2L [(.ex (bin addI (.ex (bin subI (.nm 3) (.ex (una (fld "Lacquer" ["a", "b"] 0) (.nm 0))))) (.ex (cst (.int 1))))), (.ex (cst (.int 0)))]))))))]))) (passS)
-- /G
-- G s_reach_flags
def s_reach_flags : Fn := fnOf 2 <|
  seqS (setE 2 (binE mulL (.ex (fz (lstP [cst (.bl false)]))) (.ex (fz (blt lenL [(.nm 1)]))))) <|
  seqS (putS lput 2 (cst (.int 1)) (cst (.bl true))) <|
  seqS (forS (rngI rng2D [(.ex (cst (.int 2))), (.ex (fz (blt lenL [(.nm 1)])))]) (.nm 3) (s_reach_flags_b1)) <|
  retV 2
-- /G
-- G s_flagged
def s_flagged : Fn := fnOf 1 <|
  retE (lcE (rngI rng1D [(.ex (fz (blt lenL [(.nm 0)])))]) (.nm 1) [1] (truT (.ex (bin idx (.nm 0) (.nm 1)))) (vr 1))
-- /G
-- G s_reached
def s_reached : Fn := fnOf 0 <|
  retE (callF s_flagged [(.ex (fz (callF s_reach_flags [(.nm 0), (.ex (fz (callF s_dry_flags [(.ex (fz (methF "Weather" "signs" s_Weather_signs (.nm 1) [])))])))])))])
-- /G
-- G s_law_reached_b1
def s_law_reached_b1 : S :=
  ifS (andT (tst (bin geD (.ex (bin subI (.nm 4) (.nm 5))) (.ex (cst (.int 1))))) (truT (.ex (bin idx (.nm 2) (.ex (bin subI (.nm 4) (.nm 5))))))) (putS lput 2 (vr 4) (cst (.bl true))) (passS)
-- /G
-- G s_law_reached_b2
def s_law_reached_b2 : S :=
  ifS (tst (bin eqD (.ex (bin idx (.nm 1) (.ex (bin subI (.nm 4) (.ex (cst (.int 1))))))) (.ex (cst (.str "."))))) (seqS (forS (seqI (vr 0)) (.nm 5) (s_law_reached_b1)) <|
  ifS (truT (.ex (bin idx (.nm 2) (.nm 4)))) (mtS appD 3 [vr 4]) (passS)) (passS)
-- /G
-- G s_law_reached
def s_law_reached : Fn := fnOf 5 <|
  seqS (setE 2 (lcE (rngI rng1D [(.ex (bin addI (.ex (fz (blt lenL [(.nm 1)]))) (.ex (cst (.int 1)))))]) (.nm 6) [6] yesT (cst (.bl false)))) <|
  seqS (putS lput 2 (cst (.int 1)) (cst (.bl true))) <|
  seqS (setE 3 (lstP [cst (.int 1)])) <|
  seqS (forS (rngI rng2D [(.ex (cst (.int 2))), (.ex (bin addI (.ex (fz (blt lenL [(.nm 1)]))) (.ex (cst (.int 1)))))]) (.nm 4) (s_law_reached_b2)) <|
  retV 3
-- /G
-- G s_next_layer_e1
def s_next_layer_e1 : PL.P :=
  andP (bin idx (.nm 1) (.nm 3)) (fz (blt anyL [(.ex (fz (slE (.nm 2) (some (fz (blt max2L [(.ex (bin subI (.nm 3) (.ex (una (fld "Lacquer" ["a", "b"] 1) (.nm 0))))), (.ex (cst (.int 0)))]))) (some (fz (blt max2L [(.ex (bin addI (.ex (bin subI (.nm 3) (.ex (una (fld "Lacquer" ["a", "b"] 0) (.nm 0))))) (.ex (cst (.int 1))))), (.ex (cst (.int 0)))]))))))]))
-- /G
-- G s_next_layer
def s_next_layer : Fn := fnOf 1 <|
  retE (lcE (rngI rng1D [(.ex (fz (blt lenL [(.nm 1)])))]) (.nm 3) [3] yesT s_next_layer_e1)
-- /G
-- G s_possible_b1
def s_possible_b1 : S :=
  setE 4 (callF s_next_layer [(.nm 0), (.nm 3), (.nm 4)])
-- /G
-- G s_possible
def s_possible : Fn := fnOf 4 <|
  seqS (ifS (tst (bin ltD (.nm 2) (.ex (cst (.int 0))))) (raiseS "BadNumber") (passS)) <|
  seqS (ifS (tst (bin geD (.nm 2) (.ex (fz (propF "Weather" s_Weather_hours (.nm 1)))))) (retE (lstP [])) (passS)) <|
  seqS (setE 3 (callF s_dry_flags [(.ex (fz (methF "Weather" "signs" s_Weather_signs (.nm 1) [])))])) <|
  seqS (setE 4 (lcE (rngI rng1D [(.ex (fz (blt lenL [(.nm 3)])))]) (.nm 6) [6] yesT (bin eqD (.nm 6) (.ex (cst (.int 1)))))) <|
  seqS (forS (rngI rng1D [(.nm 2)]) (.nm 5) (s_possible_b1)) <|
  retE (callF s_flagged [(.nm 4)])
-- /G
-- G s_spoilt_hour
def s_spoilt_hour : Fn := fnOf 1 <|
  seqS (setE 2 (binE addD (.ex (bin idx (.ex (fz (callF s_reached [(.nm 0), (.nm 1)]))) (.ex (una negI (.ex (cst (.int 1))))))) (.ex (una (fld "Lacquer" ["a", "b"] 1) (.nm 0))))) <|
  seqS (ifS (tst (bin gtD (.nm 2) (.ex (fz (propF "Weather" s_Weather_hours (.nm 1)))))) (retE (sh (cst .non))) (passS)) <|
  retV 2
-- /G
-- G s_law_spoilt
def s_law_spoilt : Fn := fnOf 1 <|
  seqS (setE 2 (sh (bin idx (.ex (fz (callF s_law_reached [(.nm 0), (.nm 1)]))) (.ex (una negI (.ex (cst (.int 1)))))))) <|
  seqS (ifS (tst (bin leD (.ex (fz (binE addD (.nm 2) (.ex (bin idx (.nm 0) (.ex (una negI (.ex (cst (.int 1)))))))))) (.ex (fz (blt lenL [(.nm 1)]))))) (retE (binE addD (.nm 2) (.ex (bin idx (.nm 0) (.ex (una negI (.ex (cst (.int 1))))))))) (passS)) <|
  retE (sh (cst (.int 0)))
-- /G
/-! ### a proposition as a flag -/
noncomputable def pB (p : Prop) : Bool := @decide p (Classical.propDecidable p)
theorem pB_iff {p : Prop} : pB p = true ↔ p := by unfold pB; simp
theorem pB_t {p : Prop} (h : p) : pB p = true := pB_iff.mpr h
theorem pB_f {p : Prop} (h : ¬ p) : pB p = false := by
  cases e : pB p with
  | true => exact absurd (pB_iff.mp e) h
  | false => rfl
theorem pB_congr {p q : Prop} (h : p ↔ q) : pB p = pB q := by
  by_cases hp : p
  · rw [pB_t hp, pB_t (h.mp hp)]
  · rw [pB_f hp, pB_f fun z => hp (h.mpr z)]
theorem pB_dec {p : Prop} [Decidable p] : decide p = pB p := by
  by_cases hp : p
  · rw [pB_t hp, decide_eq_true hp]
  · rw [pB_f hp, decide_eq_false hp]
theorem pB_bool {b : Bool} : pB (b = true) = b := by cases b <;> simp [pB]
theorem pB_and {p q : Prop} : (pB p && pB q) = pB (p ∧ q) := by
  by_cases hp : p
  · rw [pB_t hp, Bool.true_and]; exact pB_congr ⟨fun h => ⟨hp, h⟩, fun h => h.2⟩
  · rw [pB_f hp, Bool.false_and]; exact (pB_f fun z => hp z.1).symm
theorem fl_anyB {n : Nat} {f : Nat → Bool} {u v : Int} {P : Prop} (h0 : 0 ≤ u) (h1 : 0 ≤ v) (hP : (∃ i : Nat, u ≤ i ∧ (i : Int) < v ∧ i < n ∧ f i = true) ↔ P) :
    anyL [.lst (cutL (flD n f) (some u) (some v))] = some (.shr (.bl (pB P))) := by
  haveI := Classical.propDecidable P
  rw [fl_any h0 h1 hP, pB_dec]
/-! ### reached hours -/
inductive Rch (a b : Int) (d : Nat → Bool) : Nat → Prop
  | one : Rch a b d 1
  | step {i h : Nat} : Rch a b d i → (i : Int) + a ≤ h → (h : Int) ≤ i + b → d h = true → Rch a b d h
theorem Rch.pos {a b : Int} {d : Nat → Bool} (h0 : 1 ≤ a) : ∀ {h : Nat}, Rch a b d h → 1 ≤ h
  | _, .one => Nat.le_refl _
  | _, .step r h1 _ _ => by have := r.pos h0; omega
theorem Rch.two {a b : Int} {d : Nat → Bool} (h0 : 1 ≤ a) {h : Nat} (hh : 2 ≤ h) : Rch a b d h ↔ d h = true ∧ ∃ i, Rch a b d i ∧ (i : Int) + a ≤ h ∧ (h : Int) ≤ i + b := by
  constructor
  · intro r
    cases r with
    | one => omega
    | step r h1 h2 h3 => exact ⟨h3, _, r, h1, h2⟩
  · rintro ⟨h3, i, r, h1, h2⟩
    exact .step r h1 h2 h3
/-- the flags of the dry hours -/
def dF (l : List Bool) (h : Nat) : Bool := (false :: l).getD h false
theorem dF_succ {l : List Bool} {i : Nat} : dF l (i + 1) = l.getD i false := by simp [dF]
theorem dF_le {l : List Bool} {h : Nat} (e : dF l h = true) : 1 ≤ h ∧ h ≤ l.length := by
  cases h with
  | zero => simp [dF] at e
  | succ i =>
    rw [dF_succ] at e
    refine ⟨by omega, ?_⟩
    by_cases hi : i < l.length
    · omega
    · rw [List.getD_eq_getElem?_getD, List.getElem?_eq_none (by omega)] at e; cases e
theorem Rch.le {a b : Int} {l : List Bool} (hl : 1 ≤ l.length) {h : Nat} (r : Rch a b (dF l) h) : h ≤ l.length := by
  cases r with
  | one => exact hl
  | step _ _ _ e => exact (dF_le e).2
theorem Rch.dry {a b : Int} {l : List Bool} (hl : l[0]? = some true) {h : Nat} (r : Rch a b (dF l) h) : dF l h = true := by
  cases r with
  | one => rw [dF_succ, List.getD_eq_getElem?_getD, hl]; rfl
  | step _ _ _ e => exact e
theorem dry_flags_ok {l : List Bool} (h : l.length ≤ 10000) : s_dry_flags [.shr (.str (sgS l))] = .ok (.own (.lst (flD (l.length + 1) (dF l)))) [.no] := by
  have c := lcL_map (tg := .nm 1) (vs := [1]) (elt := s_dry_flags_e1) (env0 := [.shr (.str (sgS l)), .no]) (fun b => .str (sgS [b])) (fun b => .bl b) l (by omega) (fun b _ =>
    ⟨[.shr (.str (sgS l)), .shr (.str (sgS [b]))], [.shr (.str (sgS l)), .shr (.str (sgS [b]))], by simp [setOk_lo], by simp [s_dry_flags_e1], by simp, by simp⟩)
  have e : [D.bl false] ++ l.map D.bl = flD (l.length + 1) (dF l) := by
    exact fl_list (false :: l)
  have ad := o_addDl (u := [D.bl false]) (v := l.map D.bl) (by simp; omega)
  rw [e] at ad
  have si := strI_sg (l := l) (f := vr 0) (env := [.shr (.str (sgS l)), .no]) (e := [.shr (.str (sgS l)), .no]) (by simp)
  simp [s_dry_flags, si, c, ad]
theorem flagged_ok {n : Nat} {f : Nat → Bool} (h : n < 100000) : s_flagged [.shr (.lst (flD n f))] = .ok (.own (.lst (plD n f))) [.no] := by
  have r := rng1_a (i := (n : Int)) (by omega) (by omega)
  have c := lcL_rsel (tg := .nm 1) (vs := [1]) (test := truT (.ex (bin idx (.nm 0) (.nm 1)))) (elt := vr 1) (env0 := [.shr (.lst (flD n f)), .no]) 0 n (fun j => .int j) f (by omega) (fun j hj =>
    ⟨[.shr (.lst (flD n f)), .shr (.int j)], [.shr (.lst (flD n f)), .shr (.int j)], by simp [setOk_lo], by simp [fl_idxN hj], by simp, by simp, fun _ => ⟨[.shr (.lst (flD n f)), .shr (.int j)], by simp, by simp, by simp⟩⟩)
  simp [s_flagged, r, c]
  rfl
theorem reach_flags_ok {a b : Int} {n : Nat} {d : Nat → Bool} (h0 : 1 ≤ a) (h1 : a < b) (h2 : b ≤ 1000) (hn : 1 ≤ n) (hn2 : n < 9000) : s_reach_flags [.shr (lacD a b), .shr (.lst (flD (n + 1) d))] = .ok (.own (.lst (flD (n + 1) fun i => pB (Rch a b d i)))) [.no, .no] := by
  have r := rng2_a (i := 2) (j := (n : Int) + 1) (by omega) (by omega) (by omega) (by omega)
  have e2 : ((n : Int) + 1 - 2).toNat = n - 1 := by omega
  rw [e2] at r
  have rp := o_repL (d := .bl false) (x := (n : Int) + 1) (by omega) (by omega)
  rw [show ((n : Int) + 1).toNat = n + 1 by omega, fl_rep] at rp
  have e0 : (flD (n + 1) fun i => decide (i = 1)) = flD (n + 1) fun i => pB (i < 2 ∧ Rch a b d i) := fl_congr fun i _ => by
    by_cases hi : i = 1
    · subst hi; rw [decide_eq_true rfl, pB_t ⟨by omega, .one⟩]
    · rw [decide_eq_false hi, pB_f]
      rintro ⟨h3, h4⟩
      have := h4.pos h0
      omega
  obtain ⟨e', g1, s3, rfl, _⟩ := loop_rng (tg := .nm 3) (body := s_reach_flags_b1) 2 (n - 1)
    (fun k e => ∃ s3, e = [.shr (lacD a b), .shr (.lst (flD (n + 1) d)), .own (.lst (flD (n + 1) fun i => pB (i < 2 + k ∧ Rch a b d i))), s3] ∧ loB s3 = true)
    [.shr (lacD a b), .shr (.lst (flD (n + 1) d)), .own (.lst (flD (n + 1) fun i => pB (i < 2 ∧ Rch a b d i))), .no] ⟨.no, rfl, rfl⟩ (fun j env hj hi => by
      obtain ⟨s3, rfl, h3⟩ := hi
      have hx := fl_idx (n := n + 1) (f := d) (x := 2 + (j : Int)) (by omega) (by omega)
      rw [show (2 + (j : Int)).toNat = 2 + j by omega] at hx
      refine ⟨[.shr (lacD a b), .shr (.lst (flD (n + 1) d)), .own (.lst (flD (n + 1) fun i => pB (i < 2 + j ∧ Rch a b d i))), .shr (.int (2 + (j : Int)))], [.shr (lacD a b), .shr (.lst (flD (n + 1) d)), .own (.lst (flD (n + 1) fun i => pB (i < 2 + (j + 1) ∧ Rch a b d i))), .shr (.int (2 + (j : Int)))], by simp [setOk_lo, h3], .inl ?_, _, rfl, rfl⟩
      have an := fl_anyB (n := n + 1) (f := fun i => pB (i < 2 + j ∧ Rch a b d i)) (u := max (2 + (j : Int) - b) 0) (v := max (2 + (j : Int) - a + 1) 0) (P := ∃ i : Nat, Rch a b d i ∧ (i : Int) + a ≤ 2 + (j : Int) ∧ 2 + (j : Int) ≤ i + b) (by omega) (by omega) (by
        constructor
        · rintro ⟨i, g1, g2, g3, g4⟩
          exact ⟨i, (pB_iff.mp g4).2, by omega, by omega⟩
        · rintro ⟨i, g1, g2, g3⟩
          have := g1.pos h0
          exact ⟨i, by omega, by omega, by omega, pB_t ⟨by omega, g1⟩⟩)
      have key : ∀ i, i ≠ 2 + j → pB (i < 2 + j ∧ Rch a b d i) = pB (i < 2 + (j + 1) ∧ Rch a b d i) := fun i hi => pB_congr ⟨fun z => ⟨by omega, z.2⟩, fun z => ⟨by omega, z.2⟩⟩
      by_cases hd : d (2 + j) = true
      · rw [hd] at hx
        have hs : (flD (n + 1) fun i => pB (i < 2 + j ∧ Rch a b d i)).set (2 + j) (.bl (pB (∃ i : Nat, Rch a b d i ∧ (i : Int) + a ≤ 2 + (j : Int) ∧ 2 + (j : Int) ≤ i + b))) = flD (n + 1) fun i => pB (i < 2 + (j + 1) ∧ Rch a b d i) := by
          rw [fl_set]
          refine fl_congr fun i _ => ?_
          by_cases hi : i = 2 + j
          · rw [if_pos hi, hi]
            refine pB_congr ⟨fun ⟨i, z1, z2, z3⟩ => ⟨by omega, (Rch.two h0 (by omega)).mpr ⟨hd, i, z1, by omega, by omega⟩⟩, fun z => ?_⟩
            obtain ⟨_, i, z1, z2, z3⟩ := (Rch.two h0 (by omega)).mp z.2
            exact ⟨i, z1, by omega, by omega⟩
          · rw [if_neg hi]; exact key i hi
        have ix : ixN (n + 1) (2 + (j : Int)) = some (2 + j) := by rw [ixN_nn (by omega) (by omega), show (2 + (j : Int)).toNat = 2 + j by omega]
        simp [s_reach_flags_b1, hx, slL_lst, opA, partD, an, lput, ix, hs]
      · have hd' : d (2 + j) = false := by simpa using hd
        rw [hd'] at hx
        have hs : (flD (n + 1) fun i => pB (i < 2 + j ∧ Rch a b d i)) = flD (n + 1) fun i => pB (i < 2 + (j + 1) ∧ Rch a b d i) := by
          refine fl_congr fun i _ => ?_
          by_cases hi : i = 2 + j
          · rw [hi, pB_f (by omega), pB_f]
            rintro ⟨_, z⟩
            exact hd ((Rch.two h0 (by omega)).mp z).1
          · exact key i hi
        simp [s_reach_flags_b1, hx, hs])
  have fin : (flD (n + 1) fun i => pB (i < 2 + (n - 1) ∧ Rch a b d i)) = flD (n + 1) fun i => pB (Rch a b d i) := fl_congr fun i hi => pB_congr ⟨fun z => z.2, fun z => ⟨by omega, z⟩⟩
  rw [fin] at g1
  have ix1 : ixN (n + 1) 1 = some 1 := by rw [ixN_nn (by omega) (by omega)]; rfl
  simp [s_reach_flags, rp, r, setOk_lo, lput, ix1, fl_set, e0, g1]
/-! ### a weather of signs -/
structure Sky (l : List Bool) : Prop where
  hd : l[0]? = some true
  le : l.length ≤ 200
theorem Sky.pos {l : List Bool} (h : Sky l) : 1 ≤ l.length := by
  have := h.hd
  cases l with | nil => simp at this | cons => simp
def wD (l : List Bool) : D := weaD (lensL l)
theorem of_signs_wD {l : List Bool} (h : Sky l) : s_Weather_of_signs [.shr (.str (sgS l))] = .ok (.own (wD l)) [.no] := of_signs_ok h.hd h.le
@[simp] theorem wD_nm {l : List Bool} : nmO (wD l) = true := by simp [wD, weaD]
@[simp] theorem wD_flat {l : List Bool} : flatO (wD l) = false := by simp [wD, weaD]
@[simp] theorem wD_rcv1 {l : List Bool} : rcvOk "Weather" "signs" (some (wD l)) = true := by
  show (decide ((Str.ofString "Weather") = Str.ofString "Weather") && !(([Str.ofString "lengths", Str.ofString "_signs"] : List Str).contains (Str.ofString "signs"))) = true
  decide +kernel
@[simp] theorem wD_rcv2 {l : List Bool} : rcvOk "Weather" "first" (some (wD l)) = true := by
  show (decide ((Str.ofString "Weather") = Str.ofString "Weather") && !(([Str.ofString "lengths", Str.ofString "_signs"] : List Str).contains (Str.ofString "first"))) = true
  decide +kernel
@[simp] theorem wD_rcv3 {l : List Bool} : rcvOk "Weather" "is_dry" (some (wD l)) = true := by
  show (decide ((Str.ofString "Weather") = Str.ofString "Weather") && !(([Str.ofString "lengths", Str.ofString "_signs"] : List Str).contains (Str.ofString "is_dry"))) = true
  decide +kernel
@[simp] theorem wD_rcv0 {l : List Bool} : rcvOk "Weather" Str.empty (some (wD l)) = true := by
  show (decide ((Str.ofString "Weather") = Str.ofString "Weather") && !(([Str.ofString "lengths", Str.ofString "_signs"] : List Str).contains Str.empty)) = true
  decide +kernel
theorem wD_sg {l : List Bool} (h : Sky l) : fld "Weather" ["lengths", "_signs"] 1 (wD l) = some (.str (sgS l)) := by
  simp [fld, wD, weaD, (lensL_ok h.hd).1]
theorem signs_ok {l : List Bool} (h : Sky l) : s_Weather_signs [.shr (wD l)] = .ok (.shr (.str (sgS l))) [.no] := by
  simp [s_Weather_signs, wD_sg h]
theorem hours_ok {l : List Bool} (h : Sky l) : s_Weather_hours [.shr (wD l)] = .ok (.shr (.int l.length)) [.no] := by
  have := len_sg (l := l) (by have := h.le; omega)
  simp [s_Weather_hours, wD_sg h, this]
theorem first_ok {l : List Bool} (h : Sky l) {n : Int} (h1 : 1 ≤ n) (h2 : n ≤ l.length) : s_Weather_first [.shr (wD l), .shr (.int n)] = .ok (.own (wD (l.take n.toNat))) [.no, .no] := by
  have hl := h.le
  have hp := h.pos
  have sk : Sky (l.take n.toNat) := ⟨by rw [List.getElem?_take_of_lt (by omega)]; exact h.hd, by simp; omega⟩
  have e := of_signs_wD sk
  have sl := slL_sg (l := l) (lo := none) (hi := some n) (by omega)
  rw [cut_to (by omega)] at sl
  simp [s_Weather_first, wD_sg h, hours_ok h, h1, h2, sl, opA, partD, e]
theorem reached_ok {a b : Int} {l : List Bool} (h0 : 1 ≤ a) (h1 : a < b) (h2 : b ≤ 1000) (h : Sky l) : s_reached [.shr (lacD a b), .shr (wD l)] = .ok (.own (.lst (plD (l.length + 1) fun i => pB (Rch a b (dF l) i)))) [.no, .no] := by
  have hl := h.le
  have e1 := dry_flags_ok (l := l) (by omega)
  have e2 := reach_flags_ok (d := dF l) h0 h1 h2 h.pos (by omega)
  have e3 := flagged_ok (n := l.length + 1) (f := fun i => pB (Rch a b (dF l) i)) (by omega)
  simp [s_reached, signs_ok h, e1, e2, e3]
/-- the last reached hour -/
noncomputable def lastR (a b : Int) (l : List Bool) : Nat := (((List.range (l.length + 1)).filter fun i => pB (Rch a b (dF l) i)).getLast?).getD 0
theorem lastR_ok {a b : Int} {l : List Bool} (h : Sky l) : (plD (l.length + 1) fun i => pB (Rch a b (dF l) i)).getLast? = some (.int (lastR a b l)) ∧ Rch a b (dF l) (lastR a b l) ∧ ∀ i, Rch a b (dF l) i → i ≤ lastR a b l := by
  have hp := h.pos
  have m1 : 1 ∈ (List.range (l.length + 1)).filter fun i => pB (Rch a b (dF l) i) := List.mem_filter.mpr ⟨List.mem_range.mpr (by omega), pB_t .one⟩
  unfold lastR plD
  rw [List.getLast?_map]
  have so : ((List.range (l.length + 1)).filter fun i => pB (Rch a b (dF l) i)).Pairwise (· < ·) := List.Pairwise.filter _ List.pairwise_lt_range
  have mm : ∀ i, i ∈ (List.range (l.length + 1)).filter (fun i => pB (Rch a b (dF l) i)) ↔ Rch a b (dF l) i := fun i => by
    rw [List.mem_filter, List.mem_range, pB_iff]
    exact ⟨fun z => z.2, fun z => ⟨by have := z.le hp; omega, z⟩⟩
  generalize (List.range (l.length + 1)).filter (fun i => pB (Rch a b (dF l) i)) = L at *
  have ne : L ≠ [] := by rintro rfl; simp at m1
  rw [List.getLast?_eq_some_getLast ne]
  refine ⟨rfl, (mm _).mp (List.getLast_mem ne), fun i hi => ?_⟩
  have hi' := (mm i).mpr hi
  rw [← List.dropLast_concat_getLast ne] at hi' so
  rcases List.mem_append.mp hi' with z | z
  · have := (List.pairwise_append.mp so).2.2 i z _ (List.mem_singleton.mpr rfl)
    simp only [Option.getD_some]; omega
  · have : i = L.getLast ne := by simpa using z
    rw [this]; exact Nat.le_refl _
/-- the spoilt hour: 0 if there is none -/
noncomputable def spoiltV (a b : Int) (l : List Bool) : Int := if (lastR a b l : Int) + b ≤ l.length then lastR a b l + b else 0
theorem spoilt_hour_ok {a b : Int} {l : List Bool} (h0 : 1 ≤ a) (h1 : a < b) (h2 : b ≤ 1000) (h : Sky l) : s_spoilt_hour [.shr (lacD a b), .shr (wD l)] = .ok (.shr (if (lastR a b l : Int) + b ≤ l.length then .int (lastR a b l + b) else .non)) [.no, .no] := by
  have e1 := reached_ok h0 h1 h2 h
  have e2 := (lastR_ok (a := a) (b := b) h).1
  have e3 : idx (.lst (plD (l.length + 1) fun i => pB (Rch a b (dF l) i))) (.int (-1)) = some (.int (lastR a b l)) := by rw [o_idxl]; exact e2
  by_cases c : (lastR a b l : Int) + b ≤ l.length
  · have c' : ¬ (l.length : Int) < lastR a b l + b := by omega
    simp [s_spoilt_hour, e1, e3, setOk_lo, hours_ok h, c, c']
  · have c' : (l.length : Int) < lastR a b l + b := by omega
    simp [s_spoilt_hour, e1, e3, setOk_lo, hours_ok h, c, c']
/-! ### the law's reached hours -/
theorem law_reached_ok {a b : Int} {l : List Bool} (h0 : 1 ≤ a) (h1 : a < b) (h2 : b ≤ 1000) (h : l[0]? = some true) (hl : l.length ≤ 2000) : s_law_reached [.shr (.lst (rngL a (b + 1 - a).toNat)), .shr (.str (sgS l))] = .ok (.own (.lst (plD (l.length + 1) fun i => pB (Rch a b (dF l) i)))) [.no, .no] := by
  have hp : 1 ≤ l.length := by cases l with | nil => simp at h | cons => simp
  have t2 := len_sg (l := l) (by omega)
  have r1 := rng1_a (i := (l.length : Int) + 1) (by omega) (by omega)
  rw [show ((l.length : Int) + 1).toNat = l.length + 1 by omega] at r1
  have r2 := rng2_a (i := 2) (j := (l.length : Int) + 1) (by omega) (by omega) (by omega) (by omega)
  rw [show ((l.length : Int) + 1 - 2).toNat = l.length - 1 by omega] at r2
  have c := fun s2 s3 s4 s5 => lcL_rng (tg := .nm 6) (vs := [6]) (elt := cst (.bl false)) (env0 := [.shr (.lst (rngL a (b + 1 - a).toNat)), .shr (.str (sgS l)), s2, s3, s4, s5, .no]) 0 (l.length + 1) (fun _ => .bl false) (by omega) (fun j hj =>
    ⟨[.shr (.lst (rngL a (b + 1 - a).toNat)), .shr (.str (sgS l)), s2, s3, s4, s5, .shr (.int (0 + (j : Int)))], [.shr (.lst (rngL a (b + 1 - a).toNat)), .shr (.str (sgS l)), s2, s3, s4, s5, .shr (.int (0 + (j : Int)))], by simp [setOk_lo], by simp, by simp, by simp⟩)
  have cf : (List.range (l.length + 1)).map (fun _ => D.bl false) = flD (l.length + 1) fun _ => false := rfl
  have ix1 : ixN (l.length + 1) 1 = some 1 := by rw [ixN_nn (by omega) (by omega)]; rfl
  have e0 : (flD (l.length + 1) fun i => decide (i = 1)) = flD (l.length + 1) fun i => pB (i < 2 ∧ Rch a b (dF l) i) := fl_congr fun i _ => by
    by_cases hi : i = 1
    · subst hi; rw [decide_eq_true rfl, pB_t ⟨by omega, .one⟩]
    · rw [decide_eq_false hi, pB_f]
      rintro ⟨h3, h4⟩
      have := h4.pos h0
      omega
  have p0 : [D.int 1] = plD 2 fun i => pB (Rch a b (dF l) i) := by
    have z : pB (Rch a b (dF l) 0) = false := pB_f fun z => by have := z.pos h0; omega
    have o : pB (Rch a b (dF l) 1) = true := pB_t .one
    simp [plD, List.range_succ, z, o]
  obtain ⟨e', g1, s4, s5, rfl, _, _⟩ := loop_rng (tg := .nm 4) (body := s_law_reached_b2) 2 (l.length - 1)
    (fun k e => ∃ s4 s5, e = [.shr (.lst (rngL a (b + 1 - a).toNat)), .shr (.str (sgS l)), .own (.lst (flD (l.length + 1) fun i => pB (i < 2 + k ∧ Rch a b (dF l) i))), .own (.lst (plD (2 + k) fun i => pB (Rch a b (dF l) i))), s4, s5, .no] ∧ loB s4 = true ∧ loB s5 = true)
    [.shr (.lst (rngL a (b + 1 - a).toNat)), .shr (.str (sgS l)), .own (.lst (flD (l.length + 1) fun i => pB (i < 2 ∧ Rch a b (dF l) i))), .own (.lst (plD 2 fun i => pB (Rch a b (dF l) i))), .no, .no, .no] ⟨.no, .no, rfl, rfl, rfl⟩ (fun j env hj hi => by
      obtain ⟨s4, s5, rfl, h4, h5⟩ := hi
      have lj : j + 1 < l.length := by omega
      have ix := idx_sg (l := l) (x := 2 + (j : Int) - 1) (by omega) (by omega)
      rw [show (2 + (j : Int) - 1).toNat = j + 1 by omega, List.getElem?_eq_getElem lj, Option.map_some] at ix
      have dj : dF l (2 + j) = l[j + 1] := by rw [show 2 + j = (j + 1) + 1 by omega, dF_succ, List.getD_eq_getElem?_getD, List.getElem?_eq_getElem lj]; rfl
      have pl : plD (2 + (j + 1)) (fun i => pB (Rch a b (dF l) i)) = plD (2 + j) (fun i => pB (Rch a b (dF l) i)) ++ (if pB (Rch a b (dF l) (2 + j)) then [D.int ((2 + j : Nat) : Int)] else []) := pl_succ
      have ll := pl_len (n := 2 + j) (f := fun i => pB (Rch a b (dF l) i))
      have key : ∀ i, i ≠ 2 + j → pB (i < 2 + j ∧ Rch a b (dF l) i) = pB (i < 2 + (j + 1) ∧ Rch a b (dF l) i) := fun i hi => pB_congr ⟨fun z => ⟨by omega, z.2⟩, fun z => ⟨by omega, z.2⟩⟩
      cases hd : l[j + 1] with
      | false =>
        rw [hd] at ix dj
        have nr : ¬ Rch a b (dF l) (2 + j) := fun z => by have := ((Rch.two h0 (by omega)).mp z).1; rw [dj] at this; cases this
        have hs : (flD (l.length + 1) fun i => pB (i < 2 + j ∧ Rch a b (dF l) i)) = flD (l.length + 1) fun i => pB (i < 2 + (j + 1) ∧ Rch a b (dF l) i) := fl_congr fun i _ => by
          by_cases hi : i = 2 + j
          · rw [hi, pB_f (by omega), pB_f fun z => nr z.2]
          · exact key i hi
        rw [pB_f nr] at pl
        simp only [Bool.false_eq_true, if_false, List.append_nil] at pl
        refine ⟨_, _, by simp only [q_tgn, setOk_lo]; simp [h4]; rfl, .inl ?_, .shr (.int (2 + (j : Int))), s5, rfl, rfl, h5⟩
        simp [s_law_reached_b2, ix, hs, pl]
      | true =>
        rw [hd] at ix dj
        -- the inner loop: the steps below the k-th
        obtain ⟨e2, q1, s5', rfl, h5'⟩ := loop_rng (tg := .nm 5) (body := s_law_reached_b1) a (b + 1 - a).toNat
          (fun k e => ∃ s5, e = [.shr (.lst (rngL a (b + 1 - a).toNat)), .shr (.str (sgS l)), .own (.lst (flD (l.length + 1) fun i => pB ((i < 2 + j ∧ Rch a b (dF l) i) ∨ (i = 2 + j ∧ ∃ m : Nat, m < k ∧ ∃ i2 : Nat, (i2 : Int) + (a + m) = 2 + j ∧ Rch a b (dF l) i2)))), .own (.lst (plD (2 + j) fun i => pB (Rch a b (dF l) i))), .shr (.int (2 + (j : Int))), s5, .no] ∧ loB s5 = true)
          [.shr (.lst (rngL a (b + 1 - a).toNat)), .shr (.str (sgS l)), .own (.lst (flD (l.length + 1) fun i => pB (i < 2 + j ∧ Rch a b (dF l) i))), .own (.lst (plD (2 + j) fun i => pB (Rch a b (dF l) i))), .shr (.int (2 + (j : Int))), s5, .no] ⟨s5, by
            have : (flD (l.length + 1) fun i => pB (i < 2 + j ∧ Rch a b (dF l) i)) = flD (l.length + 1) fun i => pB ((i < 2 + j ∧ Rch a b (dF l) i) ∨ (i = 2 + j ∧ ∃ m : Nat, m < 0 ∧ ∃ i2 : Nat, (i2 : Int) + (a + m) = 2 + j ∧ Rch a b (dF l) i2)) := fl_congr fun i _ => pB_congr ⟨fun z => .inl z, fun z => z.elim id fun ⟨_, m, hm, _⟩ => absurd hm (Nat.not_lt_zero _)⟩
            rw [this], h5⟩ (fun m env hm hi => by
            obtain ⟨s5, rfl, h5⟩ := hi
            refine ⟨[.shr (.lst (rngL a (b + 1 - a).toNat)), .shr (.str (sgS l)), .own (.lst (flD (l.length + 1) fun i => pB ((i < 2 + j ∧ Rch a b (dF l) i) ∨ (i = 2 + j ∧ ∃ m' : Nat, m' < m ∧ ∃ i2 : Nat, (i2 : Int) + (a + m') = 2 + j ∧ Rch a b (dF l) i2)))), .own (.lst (plD (2 + j) fun i => pB (Rch a b (dF l) i))), .shr (.int (2 + (j : Int))), .shr (.int (a + (m : Int))), .no], _, by simp [setOk_lo, h5], .inl ?_, .shr (.int (a + (m : Int))), rfl, rfl⟩
            by_cases c1 : 1 ≤ 2 + (j : Int) - (a + m)
            · have fx := fl_idx (n := l.length + 1) (f := fun i => pB ((i < 2 + j ∧ Rch a b (dF l) i) ∨ (i = 2 + j ∧ ∃ m' : Nat, m' < m ∧ ∃ i2 : Nat, (i2 : Int) + (a + m') = 2 + j ∧ Rch a b (dF l) i2))) (x := 2 + (j : Int) - (a + m)) (by omega) (by omega)
              have ge : pB (((2 + (j : Int) - (a + m)).toNat < 2 + j ∧ Rch a b (dF l) (2 + (j : Int) - (a + m)).toNat) ∨ ((2 + (j : Int) - (a + m)).toNat = 2 + j ∧ ∃ m' : Nat, m' < m ∧ ∃ i2 : Nat, (i2 : Int) + (a + m') = 2 + j ∧ Rch a b (dF l) i2)) = pB (Rch a b (dF l) (2 + (j : Int) - (a + m)).toNat) := pB_congr ⟨fun z => z.elim (fun z => z.2) fun z => by omega, fun z => .inl ⟨by omega, z⟩⟩
              rw [ge] at fx
              by_cases c2 : Rch a b (dF l) (2 + (j : Int) - (a + m)).toNat
              · rw [pB_t c2] at fx
                have ixs : ixN (l.length + 1) (2 + (j : Int)) = some (2 + j) := by rw [ixN_nn (by omega) (by omega), show (2 + (j : Int)).toNat = 2 + j by omega]
                have hs : (flD (l.length + 1) fun i => pB ((i < 2 + j ∧ Rch a b (dF l) i) ∨ (i = 2 + j ∧ ∃ m' : Nat, m' < m ∧ ∃ i2 : Nat, (i2 : Int) + (a + m') = 2 + j ∧ Rch a b (dF l) i2))).set (2 + j) (.bl true) = flD (l.length + 1) fun i => pB ((i < 2 + j ∧ Rch a b (dF l) i) ∨ (i = 2 + j ∧ ∃ m' : Nat, m' < m + 1 ∧ ∃ i2 : Nat, (i2 : Int) + (a + m') = 2 + j ∧ Rch a b (dF l) i2)) := by
                  rw [fl_set]
                  refine fl_congr fun i _ => ?_
                  by_cases hi : i = 2 + j
                  · rw [if_pos hi, pB_t (.inr ⟨hi, m, by omega, _, by omega, c2⟩)]
                  · rw [if_neg hi]
                    exact pB_congr ⟨fun z => z.elim .inl fun z => absurd z.1 hi, fun z => z.elim .inl fun z => absurd z.1 hi⟩
                simp [s_law_reached_b1, c1, fx, lput, ixs, hs]
              · rw [pB_f c2] at fx
                have hs : (flD (l.length + 1) fun i => pB ((i < 2 + j ∧ Rch a b (dF l) i) ∨ (i = 2 + j ∧ ∃ m' : Nat, m' < m ∧ ∃ i2 : Nat, (i2 : Int) + (a + m') = 2 + j ∧ Rch a b (dF l) i2))) = flD (l.length + 1) fun i => pB ((i < 2 + j ∧ Rch a b (dF l) i) ∨ (i = 2 + j ∧ ∃ m' : Nat, m' < m + 1 ∧ ∃ i2 : Nat, (i2 : Int) + (a + m') = 2 + j ∧ Rch a b (dF l) i2)) := fl_congr fun i _ => pB_congr ⟨fun z => z.elim .inl fun ⟨z1, m', z2, z3⟩ => .inr ⟨z1, m', by omega, z3⟩, fun z => z.elim .inl fun ⟨z1, m', z2, i2, z3, z4⟩ => .inr ⟨z1, m', by
                  by_cases e : m' = m
                  · subst e
                    exact absurd (by rw [show (2 + (j : Int) - (a + m')).toNat = i2 by omega]; exact z4) c2
                  · omega, i2, z3, z4⟩⟩
                rw [← hs]
                simp [s_law_reached_b1, c1, fx]
            · have hs : (flD (l.length + 1) fun i => pB ((i < 2 + j ∧ Rch a b (dF l) i) ∨ (i = 2 + j ∧ ∃ m' : Nat, m' < m ∧ ∃ i2 : Nat, (i2 : Int) + (a + m') = 2 + j ∧ Rch a b (dF l) i2))) = flD (l.length + 1) fun i => pB ((i < 2 + j ∧ Rch a b (dF l) i) ∨ (i = 2 + j ∧ ∃ m' : Nat, m' < m + 1 ∧ ∃ i2 : Nat, (i2 : Int) + (a + m') = 2 + j ∧ Rch a b (dF l) i2)) := fl_congr fun i _ => pB_congr ⟨fun z => z.elim .inl fun ⟨z1, m', z2, z3⟩ => .inr ⟨z1, m', by omega, z3⟩, fun z => z.elim .inl fun ⟨z1, m', z2, i2, z3, z4⟩ => .inr ⟨z1, m', by
                  have := z4.pos h0
                  by_cases e : m' = m
                  · subst e; omega
                  · omega, i2, z3, z4⟩⟩
              simp [s_law_reached_b1, c1, hs])
        have hs : (flD (l.length + 1) fun i => pB ((i < 2 + j ∧ Rch a b (dF l) i) ∨ (i = 2 + j ∧ ∃ m' : Nat, m' < (b + 1 - a).toNat ∧ ∃ i2 : Nat, (i2 : Int) + (a + m') = 2 + j ∧ Rch a b (dF l) i2))) = flD (l.length + 1) fun i => pB (i < 2 + (j + 1) ∧ Rch a b (dF l) i) := fl_congr fun i _ => pB_congr ⟨fun z => z.elim (fun z => ⟨by omega, z.2⟩) fun ⟨z1, m', z2, i2, z3, z4⟩ => ⟨by omega, by rw [z1]; exact (Rch.two h0 (by omega)).mpr ⟨dj, i2, z4, by omega, by omega⟩⟩, fun ⟨z1, z2⟩ => by
          by_cases hi : i = 2 + j
          · subst hi
            obtain ⟨_, i2, z3, z4, z5⟩ := (Rch.two h0 (by omega)).mp z2
            exact .inr ⟨rfl, ((2 + j : Nat) - (i2 : Int) - a).toNat, by omega, i2, by omega, z3⟩
          · exact .inl ⟨by omega, z2⟩⟩
        rw [hs] at q1
        have fx := fl_idx (n := l.length + 1) (f := fun i => pB (i < 2 + (j + 1) ∧ Rch a b (dF l) i)) (x := 2 + (j : Int)) (by omega) (by omega)
        rw [show (2 + (j : Int)).toNat = 2 + j by omega, pB_congr (show (2 + j < 2 + (j + 1) ∧ Rch a b (dF l) (2 + j)) ↔ Rch a b (dF l) (2 + j) from ⟨fun z => z.2, fun z => ⟨by omega, z⟩⟩)] at fx
        have q0 : ∀ env : List Sl, env[0]? = some (.shr (.lst (rngL a (b + 1 - a).toNat))) → seqI (vr 0) env = .ok (rngL a (b + 1 - a).toNat) env := fun env he => by simp [he]
        refine ⟨_, _, by simp only [q_tgn, setOk_lo]; simp [h4]; rfl, .inl ?_, .shr (.int (2 + (j : Int))), s5', rfl, rfl, h5'⟩
        by_cases c2 : Rch a b (dF l) (2 + j)
        · rw [pB_t c2] at pl fx
          simp only [if_true] at pl
          have ap := o_app (ds := plD (2 + j) fun i => pB (Rch a b (dF l) i)) (d := .int (2 + (j : Int))) (by omega)
          have cs : (((2 + j : Nat) : Int)) = 2 + (j : Int) := by omega
          rw [cs] at pl
          simp [s_law_reached_b2, ix, q1, fx, ap, pl]
        · rw [pB_f c2] at pl fx
          simp only [Bool.false_eq_true, if_false, List.append_nil] at pl
          simp [s_law_reached_b2, ix, q1, fx, pl])
  have fin : 2 + (l.length - 1) = l.length + 1 := by omega
  rw [fin] at g1
  have lp : (plD 2 fun i => pB (Rch a b (dF l) i)).length ≤ 16777216 := Nat.le_trans pl_len (by omega)
  simp [s_law_reached, lp, t2, r1, r2, c, cf, setOk_lo, lput, ix1, fl_set, e0, p0, lstL, g1]
theorem rng_last {a : Int} {n : Nat} (h : 1 ≤ n) : idx (.lst (rngL a n)) (.int (-1)) = some (.int (a + n - 1)) := by
  rw [o_idxl, List.getLast?_eq_getElem?, rngL_len]
  unfold rngL
  rw [List.getElem?_map, List.getElem?_range (by omega)]
  simp only [Option.map_some]
  congr 2
  omega
theorem law_spoilt_ok {a b : Int} {l : List Bool} (h0 : 1 ≤ a) (h1 : a < b) (h2 : b ≤ 1000) (h : Sky l) : s_law_spoilt [.shr (.lst (rngL a (b + 1 - a).toNat)), .shr (.str (sgS l))] = .ok (.shr (.int (spoiltV a b l))) [.no, .no] := by
  have hl := h.le
  have e1 := law_reached_ok h0 h1 h2 h.hd (by omega)
  have e2 := (lastR_ok (a := a) (b := b) h).1
  have e3 : idx (.lst (plD (l.length + 1) fun i => pB (Rch a b (dF l) i))) (.int (-1)) = some (.int (lastR a b l)) := by rw [o_idxl]; exact e2
  have e4 := rng_last (a := a) (n := (b + 1 - a).toNat) (by omega)
  rw [show a + ((b + 1 - a).toNat : Int) - 1 = b by omega] at e4
  have t2 := len_sg (l := l) (by omega)
  unfold spoiltV
  by_cases c : (lastR a b l : Int) + b ≤ l.length
  · simp [s_law_spoilt, e1, e3, e4, setOk_lo, t2, c]
  · simp [s_law_spoilt, e1, e3, e4, setOk_lo, t2, c]
/-! ### layers -/
/-- the hours of coat k -/
def Lay (a b : Int) (d : Nat → Bool) : Nat → Nat → Prop
  | 0, h => h = 1
  | k + 1, h => d h = true ∧ ∃ i, Lay a b d k i ∧ (i : Int) + a ≤ h ∧ (h : Int) ≤ i + b
theorem Lay.ge {a b : Int} {d : Nat → Bool} (h0 : 1 ≤ a) : ∀ {k h : Nat}, Lay a b d k h → 1 + k ≤ h
  | 0, h, r => by cases r; omega
  | k + 1, h, ⟨_, i, r, h1, _⟩ => by have := Lay.ge h0 r; omega
theorem Lay.le {a b : Int} {l : List Bool} (hl : 1 ≤ l.length) {k h : Nat} (r : Lay a b (dF l) k h) : h ≤ l.length := by
  cases k with
  | zero => cases r; exact hl
  | succ k => exact (dF_le r.1).2
theorem next_layer_ok {a b : Int} {n : Nat} {d f : Nat → Bool} (hn : n < 9000) (h0 : 0 ≤ a) : s_next_layer [.shr (lacD a b), .shr (.lst (flD n d)), .shr (.lst (flD n f))] = .ok (.own (.lst (flD n fun h => pB (d h = true ∧ ∃ i : Nat, f i = true ∧ (i : Int) + a ≤ h ∧ (h : Int) ≤ i + b)))) [.no, .no, .no] := by
  have r := rng1_a (i := (n : Int)) (by omega) (by omega)
  have c := lcL_rng (tg := .nm 3) (vs := [3]) (elt := s_next_layer_e1) (env0 := [.shr (lacD a b), .shr (.lst (flD n d)), .shr (.lst (flD n f)), .no]) 0 n (fun h => .bl (pB (d h = true ∧ ∃ i : Nat, f i = true ∧ (i : Int) + a ≤ h ∧ (h : Int) ≤ i + b))) (by omega) (fun j hj => by
    refine ⟨[.shr (lacD a b), .shr (.lst (flD n d)), .shr (.lst (flD n f)), .shr (.int j)], [.shr (lacD a b), .shr (.lst (flD n d)), .shr (.lst (flD n f)), .shr (.int j)], by simp [setOk_lo], ?_, by simp, by simp⟩
    have an := fl_anyB (n := n) (f := f) (u := max ((j : Int) - b) 0) (v := max ((j : Int) - a + 1) 0) (P := ∃ i : Nat, f i = true ∧ (i : Int) + a ≤ j ∧ (j : Int) ≤ i + b) (by omega) (by omega) (by
      constructor
      · rintro ⟨i, g1, g2, g3, g4⟩
        exact ⟨i, g4, by omega, by omega⟩
      · rintro ⟨i, g1, g2, g3⟩
        exact ⟨i, by omega, by omega, by omega, g1⟩)
    by_cases hd : d j = true
    · have e : pB (d j = true ∧ ∃ i : Nat, f i = true ∧ (i : Int) + a ≤ j ∧ (j : Int) ≤ i + b) = pB (∃ i : Nat, f i = true ∧ (i : Int) + a ≤ j ∧ (j : Int) ≤ i + b) := pB_congr ⟨fun z => z.2, fun z => ⟨hd, z⟩⟩
      rw [e]
      simp [s_next_layer_e1, fl_idxN hj, hd, slL_lst, opA, partD, an]
    · have hd' : d j = false := by simpa using hd
      rw [pB_f fun z => hd z.1]
      simp [s_next_layer_e1, fl_idxN hj, hd'])
  simp [s_next_layer, r, c]
  rfl
theorem possible_ok {a b : Int} {l : List Bool} {n : Int} (h0 : 1 ≤ a) (h : Sky l) (hn : 0 ≤ n) : s_possible [.shr (lacD a b), .shr (wD l), .shr (.int n)] = .ok (.own (.lst (plD (l.length + 1) fun i => pB (Lay a b (dF l) n.toNat i)))) [.no, .no, .no] := by
  have hl := h.le
  have hp := h.pos
  have n0 : ¬ n < 0 := by omega
  by_cases c : (l.length : Int) ≤ n
  · have e : (plD (l.length + 1) fun i => pB (Lay a b (dF l) n.toNat i)) = [] := by
      unfold plD
      rw [List.filter_eq_nil_iff.mpr, List.map_nil]
      intro i hi z
      have := Lay.ge h0 (pB_iff.mp z)
      have := List.mem_range.mp hi
      omega
    rw [e]
    simp [s_possible, n0, hours_ok h, c, lstL]
  · have e1 := dry_flags_ok (l := l) (by omega)
    have r1 := rng1_a (i := (l.length : Int) + 1) (by omega) (by omega)
    rw [show ((l.length : Int) + 1).toNat = l.length + 1 by omega] at r1
    have r2 := rng1_a (i := n) (by omega) (by omega)
    have cc := lcL_rng (tg := .nm 6) (vs := [6]) (elt := bin eqD (.nm 6) (.ex (cst (.int 1)))) (env0 := [.shr (lacD a b), .shr (wD l), .shr (.int n), .own (.lst (flD (l.length + 1) (dF l))), .no, .no, .no]) 0 (l.length + 1) (fun i => .bl (pB (Lay a b (dF l) 0 i))) (by omega) (fun j hj => by
      refine ⟨[.shr (lacD a b), .shr (wD l), .shr (.int n), .own (.lst (flD (l.length + 1) (dF l))), .no, .no, .shr (.int j)], [.shr (lacD a b), .shr (wD l), .shr (.int n), .own (.lst (flD (l.length + 1) (dF l))), .no, .no, .shr (.int j)], by simp [setOk_lo], ?_, by simp, by simp⟩
      have e : pB (Lay a b (dF l) 0 j) = ((j : Int) == 1) := by
        by_cases hj1 : j = 1
        · rw [pB_t (show Lay a b (dF l) 0 j from hj1)]; subst hj1; rfl
        · rw [pB_f (show ¬ Lay a b (dF l) 0 j from hj1)]; exact (beq_eq_false_iff_ne.mpr (by omega)).symm
      rw [e]
      simp)
    have cf : (List.range (l.length + 1)).map (fun i => D.bl (pB (Lay a b (dF l) 0 i))) = flD (l.length + 1) fun i => pB (Lay a b (dF l) 0 i) := rfl
    rw [cf] at cc
    obtain ⟨e', g1, s5, rfl, _⟩ := loop_rng (tg := .nm 5) (body := s_possible_b1) 0 n.toNat
      (fun k e => ∃ s5, e = [.shr (lacD a b), .shr (wD l), .shr (.int n), .own (.lst (flD (l.length + 1) (dF l))), .own (.lst (flD (l.length + 1) fun i => pB (Lay a b (dF l) k i))), s5, .no] ∧ loB s5 = true)
      [.shr (lacD a b), .shr (wD l), .shr (.int n), .own (.lst (flD (l.length + 1) (dF l))), .own (.lst (flD (l.length + 1) fun i => pB (Lay a b (dF l) 0 i))), .no, .no] ⟨.no, rfl, rfl⟩ (fun j env hj hi => by
        obtain ⟨s5, rfl, h5⟩ := hi
        have nl := next_layer_ok (a := a) (b := b) (n := l.length + 1) (d := dF l) (f := fun i => pB (Lay a b (dF l) j i)) (by omega) (by omega)
        have e : (flD (l.length + 1) fun h => pB (dF l h = true ∧ ∃ i : Nat, (fun i => pB (Lay a b (dF l) j i)) i = true ∧ (i : Int) + a ≤ h ∧ (h : Int) ≤ i + b)) = flD (l.length + 1) fun i => pB (Lay a b (dF l) (j + 1) i) := fl_congr fun i _ => pB_congr ⟨fun ⟨z1, k, z2, z3⟩ => ⟨z1, k, pB_iff.mp z2, z3⟩, fun ⟨z1, k, z2, z3⟩ => ⟨z1, k, pB_iff.mpr z2, z3⟩⟩
        rw [e] at nl
        refine ⟨_, _, by simp [setOk_lo, h5]; rfl, .inl ?_, .shr (.int (0 + (j : Int))), rfl, rfl⟩
        simp [s_possible_b1, nl, setOk_lo])
    have e3 := flagged_ok (n := l.length + 1) (f := fun i => pB (Lay a b (dF l) n.toNat i)) (by omega)
    simp [s_possible, n0, hours_ok h, c, signs_ok h, e1, setOk_lo, r1, r2, cc, g1, e3]
theorem possible_bad {a b : Int} {l : List Bool} {n : Int} (hn : n < 0) : s_possible [.shr (lacD a b), .shr (wD l), .shr (.int n)] = .exc ⟨"BadNumber", [], []⟩ [.no, .no, .no] := by
  simp [s_possible, hn]
end PL

/-! Pl32: drawn signs. -/
namespace PL
open PySem L2
theorem idx_dF {l : List Bool} {x : Int} (h1 : 1 ≤ x) (h2 : x ≤ l.length) (hl : l.length ≤ 16777216 := by omega) : idx (.str (sgS l)) (.int (x - 1)) = some (.str (sgS [dF l x.toNat])) := by
  rw [idx_sg hl (by omega)]
  obtain ⟨k, hk⟩ : ∃ k, x.toNat = k + 1 := ⟨x.toNat - 1, by omega⟩
  rw [hk, dF_succ, show (x - 1).toNat = k by omega, List.getD_eq_getElem?_getD, List.getElem?_eq_getElem (by omega)]
  rfl
/-- n signs drawn behind the first -/
def sgnL (st : Int) : Nat → Pool → List Bool × Bool × Pool
  | 0, p => ([true], false, p)
  | n + 1, p => let r := sgnL st n p
    let d := if st = 0 then tv r.2.2 2 == 1 else if st = 1 then tv r.2.2 4 == 1 else if tv r.2.2 4 = 1 then !r.2.1 else r.2.1
    (r.1 ++ [!d], d, if st = 0 then tp r.2.2 2 else tp r.2.2 4)
def signsV (p : Pool) (h : Int) : List Bool := (sgnL (tv p 3) (h - 1).toNat (tp p 3)).1
def signsP (p : Pool) (h : Int) : Pool := (sgnL (tv p 3) (h - 1).toNat (tp p 3)).2.2
theorem sgnL_len {st : Int} {p : Pool} : ∀ n, (sgnL st n p).1.length = n + 1
  | 0 => rfl
  | n + 1 => by simp [sgnL, sgnL_len n]
theorem sgnL_hd {st : Int} {p : Pool} : ∀ n, (sgnL st n p).1[0]? = some true
  | 0 => rfl
  | n + 1 => by
    have h := sgnL_len (st := st) (p := p) n
    simp only [sgnL]
    rw [List.getElem?_append_left (by omega)]
    exact sgnL_hd n
theorem signsV_len {p : Pool} {h : Int} (h1 : 1 ≤ h) : ((signsV p h).length : Int) = h := by
  unfold signsV
  rw [sgnL_len]
  omega
theorem signsV_hd {p : Pool} {h : Int} : (signsV p h)[0]? = some true := sgnL_hd _
theorem law_signs_ok {p : Pool} {h : Int} (h1 : 1 ≤ h) (h2 : h < 10000) : s_law_signs [.io (poolD p), .shr (.int h)] = .ok (.shr (.str (sgS (signsV p h)))) [.io (poolD (signsP p h)), .no] := by
  have b0 := tv_b p (s := 3) (by omega)
  have e0 := take_ok (p := p) (s := 3) (by omega) (by omega)
  have r := rng1_a (i := h - 1) (by omega) (by omega)
  obtain ⟨e', g1, s5, rfl, _⟩ := loop_rng (tg := .nm 5) (body := s_law_signs_b1) 0 (h - 1).toNat
    (fun k e => ∃ s5, e = [.io (poolD (sgnL (tv p 3) k (tp p 3)).2.2), .shr (.int h), .shr (.str (sgS (sgnL (tv p 3) k (tp p 3)).1)), .shr (.int (tv p 3)), .shr (.bl (sgnL (tv p 3) k (tp p 3)).2.1), s5] ∧ loB s5 = true)
    [.io (poolD (tp p 3)), .shr (.int h), .shr (.str (sgS [true])), .shr (.int (tv p 3)), .shr (.bl false), .no] ⟨.no, rfl, rfl⟩ (fun j env hj hi => by
      obtain ⟨s5, rfl, h5⟩ := hi
      have hl := sgnL_len (st := tv p 3) (p := tp p 3) j
      have e1 := take_ok (p := (sgnL (tv p 3) j (tp p 3)).2.2) (s := 2) (by omega) (by omega)
      have e2 := take_ok (p := (sgnL (tv p 3) j (tp p 3)).2.2) (s := 4) (by omega) (by omega)
      have ad := fun b => addD_sg (l := (sgnL (tv p 3) j (tp p 3)).1) (m := [b]) (by simp; omega)
      have eg : sgnL (tv p 3) (j + 1) (tp p 3) = ((sgnL (tv p 3) j (tp p 3)).1 ++ [!(if tv p 3 = 0 then tv (sgnL (tv p 3) j (tp p 3)).2.2 2 == 1 else if tv p 3 = 1 then tv (sgnL (tv p 3) j (tp p 3)).2.2 4 == 1 else if tv (sgnL (tv p 3) j (tp p 3)).2.2 4 = 1 then !(sgnL (tv p 3) j (tp p 3)).2.1 else (sgnL (tv p 3) j (tp p 3)).2.1)], (if tv p 3 = 0 then tv (sgnL (tv p 3) j (tp p 3)).2.2 2 == 1 else if tv p 3 = 1 then tv (sgnL (tv p 3) j (tp p 3)).2.2 4 == 1 else if tv (sgnL (tv p 3) j (tp p 3)).2.2 4 = 1 then !(sgnL (tv p 3) j (tp p 3)).2.1 else (sgnL (tv p 3) j (tp p 3)).2.1), if tv p 3 = 0 then tp (sgnL (tv p 3) j (tp p 3)).2.2 2 else tp (sgnL (tv p 3) j (tp p 3)).2.2 4) := rfl
      rw [eg]
      generalize sgnL (tv p 3) j (tp p 3) = g at *
      obtain ⟨gl, gd, gp⟩ := g
      simp only at *
      generalize tv p 3 = st at *
      refine ⟨_, _, by simp only [q_tgn, setOk_lo]; simp [h5]; rfl, .inl ?_, .shr (.int (0 + (j : Int))), rfl, rfl⟩
      by_cases c0 : st = 0
      · subst c0
        cases hx : (tv gp 2 == 1) <;> simp [s_law_signs_b1, e1, hx, ad, setOk_lo]
      · have c0' : (st == 0) = false := beq_eq_false_iff_ne.mpr c0
        by_cases c1 : st = 1
        · subst c1
          cases hx : (tv gp 4 == 1) <;> simp [s_law_signs_b1, e2, hx, ad, setOk_lo]
        · have c1' : (st == 1) = false := beq_eq_false_iff_ne.mpr c1
          by_cases c2 : tv gp 4 = 1
          · cases gd <;> simp [s_law_signs_b1, e2, c2, c0, c1, c0', c1', ad, setOk_lo]
          · have c2' : (tv gp 4 == 1) = false := beq_eq_false_iff_ne.mpr c2
            cases gd <;> simp [s_law_signs_b1, e2, c2, c2', c0, c1, c0', c1', ad, setOk_lo])
  unfold signsV signsP
  generalize (h - 1).toNat = N at *
  simp [s_law_signs, e0, r, setOk_lo, g1]
end PL

/-! Pl33: loops that check, comprehensions that draw, numbers in lists of numbers. -/
namespace PL
open PySem L2
/-- a loop that goes on while C holds and returns r at the first that fails -/
theorem loop_chk {α : Type} {tg : Tg} {body : S} (enc : α → D) (C : Nat → α → Prop) (r : Sl) (I : Nat → List Sl → Prop) (J : List Sl → Prop) : ∀ (xs : List α) (k : Nat) (env : List Sl), I k env →
    (∀ j x env, xs[j]? = some x → I (k + j) env → ∃ e, tgS tg (enc x) env = some e ∧ ((C (k + j) x ∧ ∃ e2, (body e = .nx e2 ∨ body e = .ct e2) ∧ I (k + j + 1) e2) ∨ (¬ C (k + j) x ∧ ∃ e2, body e = .rt r e2 ∧ J e2))) →
    ((∀ j x, xs[j]? = some x → C (k + j) x) ∧ ∃ env', loopS tg body (xs.map enc) env = .nx env' ∧ I (k + xs.length) env') ∨ ((∃ j x, xs[j]? = some x ∧ ¬ C (k + j) x) ∧ ∃ env', loopS tg body (xs.map enc) env = .rt r env' ∧ J env')
  | [], k, env, h, _ => .inl ⟨fun j x h => by simp at h, env, by unfold loopS; rfl, h⟩
  | x :: xs, k, env, h, st => by
    obtain ⟨e, h1, ⟨h2, e2, h3, h4⟩ | ⟨h2, e2, h3, h4⟩⟩ := st 0 x env rfl h
    · have ih := loop_chk enc C r I J xs (k + 1) e2 h4 (fun j y env hy hi => by
        have := st (j + 1) y env (by simpa using hy) (by rw [show k + (j + 1) = k + 1 + j by omega]; exact hi)
        rw [show k + (j + 1) = k + 1 + j by omega] at this
        exact this)
      have step : loopS tg body ((x :: xs).map enc) env = loopS tg body (xs.map enc) e2 := by
        rw [List.map_cons]
        conv => lhs; unfold loopS
        rw [h1]
        rcases h3 with h3 | h3 <;> simp only [h3]
      rw [step]
      rcases ih with ⟨g1, env', g2, g3⟩ | ⟨⟨j, y, g1, g2⟩, env', g3, g4⟩
      · refine .inl ⟨fun j y hy => ?_, env', g2, by rw [List.length_cons, show k + (xs.length + 1) = k + 1 + xs.length by omega]; exact g3⟩
        cases j with
        | zero => have : x = y := by simpa using hy
                  subst this; exact h2
        | succ j => rw [show k + (j + 1) = k + 1 + j by omega]; exact g1 j y (by simpa using hy)
      · exact .inr ⟨⟨j + 1, y, by simpa using g1, by rw [show k + (j + 1) = k + 1 + j by omega]; exact g2⟩, env', g3, g4⟩
    · refine .inr ⟨⟨0, x, rfl, h2⟩, e2, ?_, h4⟩
      rw [List.map_cons]
      conv => lhs; unfold loopS
      rw [h1]
      simp only [h3]
theorem rngL_map (lo : Int) (n : Nat) : rngL lo n = (List.range n).map fun (j : Nat) => D.int (lo + j) := rfl
/-- .. over a range -/
theorem loop_chkR {tg : Tg} {body : S} (lo : Int) (n : Nat) (C : Nat → Prop) (r : Sl) (I : Nat → List Sl → Prop) (J : List Sl → Prop) (env : List Sl) (h0 : I 0 env)
    (st : ∀ j env, j < n → I j env → ∃ e, tgS tg (.int (lo + j)) env = some e ∧ ((C j ∧ ∃ e2, (body e = .nx e2 ∨ body e = .ct e2) ∧ I (j + 1) e2) ∨ (¬ C j ∧ ∃ e2, body e = .rt r e2 ∧ J e2))) :
    ((∀ j, j < n → C j) ∧ ∃ env', loopS tg body (rngL lo n) env = .nx env' ∧ I n env') ∨ ((∃ j, j < n ∧ ¬ C j) ∧ ∃ env', loopS tg body (rngL lo n) env = .rt r env' ∧ J env') := by
  have gr : ∀ {j x : Nat}, (List.range n)[j]? = some x → j < n ∧ x = j := fun {j x} h => by
    obtain ⟨h2, h3⟩ := List.getElem?_eq_some_iff.mp h
    rw [List.getElem_range] at h3
    exact ⟨by simpa using h2, h3.symm⟩
  have := loop_chk (tg := tg) (body := body) (fun (j : Nat) => D.int (lo + j)) (fun j _ => C j) r I J (List.range n) 0 env h0 (fun j x env hx hi => by
    obtain ⟨hj, rfl⟩ := gr hx
    rw [Nat.zero_add] at hi ⊢
    exact st x env hj hi)
  rw [← rngL_map] at this
  rcases this with ⟨g1, env', g2, g3⟩ | ⟨⟨j, x, g1, g2⟩, env', g3, g4⟩
  · refine .inl ⟨fun j hj => ?_, env', g2, by simpa using g3⟩
    have := g1 j j (List.getElem?_range hj)
    rwa [Nat.zero_add] at this
  · obtain ⟨hj, rfl⟩ := gr g1
    rw [Nat.zero_add] at g2
    exact .inr ⟨⟨x, hj, g2⟩, env', g3, g4⟩
/-- a comprehension whose items change the environment -/
theorem lcL_dr {α : Type} {tg : Tg} {vs : List Nat} {elt : P} (enc : α → D) (Q : D → Prop) (I : List Sl → Prop) : ∀ (xs : List α) (n : Nat) (env : List Sl), n + xs.length ≤ 16777216 → I env →
    (∀ x ∈ xs, ∀ env, I env → ∃ e e3 y, tgS tg (enc x) env = some e ∧ elt e = .ok y e3 ∧ Q y ∧ wipeOk e3 vs = true ∧ I (wipeE e3 vs)) → ∃ ys env', lcL tg vs yesT elt (xs.map enc) n env = .ok ys env' ∧ I env' ∧ ys.length = xs.length ∧ ∀ y ∈ ys, Q y
  | [], n, env, _, hi, _ => ⟨[], env, by unfold lcL; rfl, hi, rfl, by simp⟩
  | x :: xs, n, env, hn, hi, h => by
    obtain ⟨e, e3, y, h1, h2, h3, h4, h5⟩ := h x (by simp) env hi
    obtain ⟨ys, env', g1, g2, g3, g4⟩ := lcL_dr (tg := tg) (elt := elt) enc Q I xs (n + 1) (wipeE e3 vs) (by simp at hn; omega) h5 (fun y hy => h y (by simp [hy]))
    have hlt : n < 16777216 := by simp at hn; omega
    refine ⟨y :: ys, env', ?_, g2, by simp [g3], fun z hz => ?_⟩
    · rw [List.map_cons]
      unfold lcL
      simp only [h1, q_yesT, h2, h4, hlt, g1, and_self, if_true, Res.bind_ok]
    · rcases List.mem_cons.mp hz with rfl | hz
      · exact h3
      · exact g4 z hz
/-! ### a number in a list of numbers -/
theorem eqAbles_int : ∀ l : List Int, eqAbles (l.map D.int) = true
  | [] => by simp [eqAbles]
  | x :: l => by simp [eqAbles, eqAble, eqAbles_int l]
theorem lay_int : ∀ l : List Int, PyData.canLayAll0 ((l.map D.int).map toPy) = true
  | [] => by simp [PyData.canLayAll0]
  | x :: l => by
    have := lay_int l
    simp only [List.map_cons, PyData.canLayAll0, toPy, PyData.canLay0, this, Bool.and_self]
theorem depth_int : ∀ l : List Int, PyData.depthAll ((l.map D.int).map toPy) ≤ 1
  | [] => by simp [PyData.depthAll]
  | x :: l => by
    have := depth_int l
    simp only [List.map_cons, PyData.depthAll, toPy, PyData.depth]
    omega
theorem shaped_ints (l : List Int) : SeqAt.shaped (toPy (.lst (l.map D.int))) = true := by
  have h1 := lay_int l
  have h2 := depth_int l
  simp only [toPy, SeqAt.shaped, PyData.canLay0, PyData.depth, h1, Bool.true_and, decide_eq_true_eq]
  omega
theorem inB_int (x : Int) (l : List Int) : inB (.int x) (.lst (l.map D.int)) = some (decide (x ∈ l)) := by
  unfold inB
  have e : eqAble (.lst (l.map D.int)) = true := by simp [eqAble, eqAbles_int]
  have s0 : SeqAt.shaped (toPy (.int x)) = true := by simp [toPy, SeqAt.shaped, PyData.canLay0, PyData.depth]
  have e0 : eqAble (.int x) = true := by simp [eqAble]
  have ea : ((l.map D.int).map toPy).any (fun z => PyData.eqv z (toPy (.int x))) = decide (x ∈ l) := by
    rw [List.any_map, List.any_map]
    by_cases h : x ∈ l
    · rw [decide_eq_true h, List.any_eq_true]
      exact ⟨x, h, by simp [toPy, PyData.eqv]⟩
    · rw [decide_eq_false h, List.any_eq_false]
      intro y hy
      simp only [Function.comp, toPy, PyData.eqv]
      intro z
      have : y = x := by simpa using z
      exact h (this ▸ hy)
  simp only [e0, e, s0, shaped_ints l, Bool.and_self, if_true, ea]
@[simp] theorem inD_int (x : Int) (l : List Int) : inD (.int x) (.lst (l.map D.int)) = some (.bl (decide (x ∈ l))) := by unfold inD; rw [inB_int]; rfl
@[simp] theorem notInD_int (x : Int) (l : List Int) : notInD (.int x) (.lst (l.map D.int)) = some (.bl (!decide (x ∈ l))) := by unfold notInD; rw [inB_int]; rfl
theorem okS_intl {l : List Int} (h : l.length < 1000000) : okS 4 (.lst (l.map D.int)) = true := by simp [h]
/-- the places of the flags as numbers -/
def plI (n : Nat) (f : Nat → Bool) : List Int := ((List.range n).filter f).map fun (i : Nat) => (i : Int)
theorem plD_I {n : Nat} {f : Nat → Bool} : plD n f = (plI n f).map D.int := by simp [plD, plI]
theorem mem_plI {n : Nat} {f : Nat → Bool} {x : Int} : x ∈ plI n f ↔ 0 ≤ x ∧ x < n ∧ f x.toNat = true := by
  unfold plI
  rw [List.mem_map]
  constructor
  · rintro ⟨i, hi, rfl⟩
    obtain ⟨h1, h2⟩ := List.mem_filter.mp hi
    have := List.mem_range.mp h1
    exact ⟨by omega, by omega, by simpa using h2⟩
  · rintro ⟨h1, h2, h3⟩
    exact ⟨x.toNat, List.mem_filter.mpr ⟨List.mem_range.mpr (by omega), h3⟩, by omega⟩
theorem plI_asc {n : Nat} {f : Nat → Bool} : (plI n f).Pairwise (· < ·) := by
  unfold plI
  rw [List.pairwise_map]
  exact (List.Pairwise.filter _ List.pairwise_lt_range).imp fun h => by omega
theorem plI_len {n : Nat} {f : Nat → Bool} : (plI n f).length ≤ n := by
  have := pl_len (n := n) (f := f)
  rw [plD_I] at this
  simpa using this
end PL

/-! Pl34: xs[i] += n. -/
namespace PL
open PySem L2
theorem get_listP {X : Cx} : PGet X (rIxL X.K) := by
  intro pins s σ H o i ov iv Q I ro ri h
  obtain ⟨p, xs, k, z, rfl, rfl, hq, he, q⟩ := h
  cases ro
  obtain ⟨t, rfl⟩ := ri
  obtain ⟨its, r, pl, hz⟩ := I.list hq
  obtain ⟨j, h1, h2, h3, h4, h5⟩ := atI_get he
  obtain ⟨w, ew, rw'⟩ := r.get h2
  have hl := r.length
  have hn := line63
  have fin : EP X pins σ Q w s := ⟨z, H, I, rw', q⟩
  by_cases h0 : 0 ≤ k
  · have hj : k.toNat = j := by
      rw [seqIndex_of h0 h5] at h1
      exact Option.some.inj h1
    exact wpAny_getItem_list pl.isList h0 (by omega) (by rw [hj]; simpa using ew) fin
  · have hj : (k + (its.toArray.size : Int)).toNat = j := by
      rw [seqIndex_neg (by omega) h4] at h1
      rw [List.size_toArray, ← hl]
      exact Option.some.inj h1
    exact wpAny_getItem_list_neg pl.isList (by omega) (by rw [List.size_toArray] <;> omega) (by omega) (by rw [hj]; simpa using ew) fin
/-- xs[k] += v, the numbers of a list -/
def augI (n : Nat) (fi f : P) : S := fun env => if (pk env n).isNone then .bad else match fi env with
  | .ok k e1 => (match (ownLst e1 n).bind fun ds => idx (.lst ds) k with
    | some (.int x) => (match f e1 with
      | .ok (.int y) e2 => (match lput n k (.int (x + y)) e2 with
        | some e3 => .nx e3
        | none => .bad)
      | .ok _ _ => .bad
      | .exc x e => .ex x e
      | .bad => .bad)
    | _ => .bad)
  | .exc x e => .ex x e
  | .bad => .bad
@[simp] theorem q_augI {n : Nat} {fi f : P} {env : List Sl} : augI n fi f env = (if (pk env n).isNone then .bad else match fi env with
  | .ok k e1 => (match (ownLst e1 n).bind fun ds => idx (.lst ds) k with
    | some (.int x) => (match f e1 with
      | .ok (.int y) e2 => (match lput n k (.int (x + y)) e2 with
        | some e3 => .nx e3
        | none => .bad)
      | .ok _ _ => .bad
      | .exc x e => .ex x e
      | .bad => .bad)
    | _ => .bad)
  | .exc x e => .ex x e
  | .bad => .bad) := id rfl
section
variable {X : Cx} {W : WX} {o i e : Expr} {fi f : P} {tpos pos : Pos}
theorem c_augI (n : Nat) (ho : PE X o (tA X.K W (.nm n))) (hi : PE X i (tP X.K W fi)) (he : PE X e (tP X.K W f)) (ha : ∀ ov iv new, augStore i ov iv new = (do holding [new, ov, iv] (setItem ov iv new); release [new, ov, iv] []; pure .next) := by intros; rfl) :
    PS X (.AugAssign (.Subscript o i tpos) .Add e pos) (tS X.K W (augI n fi f)) :=
  PS.imp (ps_augS ho hi get_listP he ip_add set_list ha) fun Z σ H w => by
    obtain ⟨env, IO, Fr, ok, w⟩ := tS_run.mp w
    unfold augI at w
    cases hpk : PL.pk env n with
    | none => rw [hpk] at w; exact w.elim
    | some dx =>
      rw [hpk] at w
      simp only [Option.isNone_some, Bool.false_eq_true, if_false] at w
      obtain ⟨x, hx, _⟩ := ok.pk hpk
      refine ⟨x, hx, env, IO, Fr, ok, ?_⟩
      cases hg : fi env with
      | exc x e1 => rw [hg] at w; exact fun c a H' ok1 st ec => w c a σ H' ok1 st ec
      | bad => rw [hg] at w; exact w.elim
      | ok k e1 =>
        rw [hg] at w
        simp only [] at w
        intro y H1 ok1 ry st1
        cases hds : ownLst e1 n with
        | none => rw [hds] at w; exact w.elim
        | some ds =>
          rw [hds] at w
          simp only [Option.bind_some] at w
          obtain ⟨p, vs, hp, hH, r, _⟩ := ok1.lst (i := n) (ds := ds) hds
          rw [hx] at hp
          cases hp
          cases hix : idx (.lst ds) k with
          | none => rw [hix] at w; exact w.elim
          | some dv =>
            rw [hix] at w
            cases dv with
            | int xi =>
              simp only [] at w
              cases k with
              | int ki =>
                have hix' : atI ds ki = some (.int xi) := hix
                obtain ⟨v, g1, g2⟩ := atI_rep r hix'
                cases ry
                refine ⟨p, vs, ki, v, rfl, rfl, .of hH, g1, ?_⟩
                cases g2
                refine ⟨e1, IO, Fr, ok1, ?_⟩
                cases hf : f e1 with
                | exc x e2 => rw [hf] at w; exact fun c a H' ok2 st ec => w c a σ H' ok2 (st1.trans st) ec
                | bad => rw [hf] at w; exact w.elim
                | ok dy e2 =>
                  rw [hf] at w
                  cases dy with
                  | int yi =>
                    simp only [] at w
                    intro yv H2 ok2 ry2 st2
                    cases ry2
                    refine ⟨xi, yi, rfl, rfl, ?_⟩
                    cases hl : lput n (.int ki) (.int (xi + yi)) e2 with
                    | none => rw [hl] at w; exact w.elim
                    | some e3 =>
                      rw [hl] at w
                      simp only [] at w
                      unfold lput at hl
                      split at hl
                      · rename_i ds2 j hds2 hj
                        cases hj
                        obtain ⟨m, hm, rfl⟩ := Option.map_eq_some_iff.mp hl
                        obtain ⟨p2, vs2, hp2, hH2, r2, ch⟩ := ok2.lst (i := n) (ds := ds2) (by unfold ownLst; rw [hds2])
                        rw [hx] at hp2
                        cases hp2
                        obtain ⟨c1, c2⟩ := ch (ds2.set m (.int (xi + yi))) (vs2.set m (.int (xi + yi))) (RepL.set (e := D.int (xi + yi)) (w := V.int (xi + yi)) rfl m r2)
                        exact ⟨p, vs2, ki, m, rfl, rfl, hH2, by rw [← r2.len]; exact hm, w σ _ c1 (st1.trans (st2.trans c2))⟩
                      · cases hl
                  | _ => exact w.elim
              | _ => simp [idx] at hix
            | _ => exact w.elim
end
end PL

/-! Pl35: x in o by an own __contains__. -/
namespace PL
open PySem L2 PyProof.Rows
section
open PySem.W
variable {M : Model} {A : Around} {E : Value → Shared → Prop} {s : Shared} {K : Frag} {x C L f : Addr} {h₀ : Heap} {m : Str → Option Value} {ox : Obj} {od : Option Obj}
theorem own_contains {Q : Bool → Shared → Prop} {v : Value} (F : Fr h₀ L s.heap m) (X₀ : K.In h₀) (I : InstAt s.heap x ox C od) (hs : findIn K (.ref C) "__contains__" = some (some (.ref f))) (hf : isFn K (.ref f) = true)
    (h : wpAny M A (call (.ref f) [.ref x, v]) (fun r s' => ∃ b, r = .bool b ∧ Q b s') E s) : wpAny M A (PySem.contains (.ref x) v) Q E s := by
  have X := X₀.keeps F.keep
  unfold PySem.contains
  refine wpAny_holding ?_
  show wpAny M A (specialOf (.ref x) "__contains__" >>= _) Q E s
  refine wpAny_bind (wpAny_bind (I.type.here ((looks_findIn X hs).here ?_)))
  rw [if_neg (show ¬ ((some (Value.ref f) == some Value.none) = true) from Bool.false_ne_true)]
  first | refine wpAny_bind (wpAny_pure ?_) | skip
  refine wpAny_bind ?_
  unfold callSpecialUnlessNone?
  refine wpAny_bind (wpAny_bind (I.type.here ((looks_findIn X hs).here ?_)))
  refine wpAny_holding (wpAny_bind ((bind_fn X _ (beq_iff_eq.mp hf)).here ?_))
  show wpAny M A (if (Value.ref f == Value.none) = true then _ else _) _ _ s
  rw [if_neg (show ¬ ((Value.ref f == Value.none) = true) from Bool.false_ne_true)]
  refine wpAny_bind (wpAny_mono h (fun r s' ⟨b, e, q⟩ => ?_) fun _ _ z => z)
  subst e
  exact wpAny_pure (wpAny_pure q)
end
/-- x in o (neg: not in), o of the class c with an own __contains__ -/
def inF (c : Str) (fn : Fn) (neg : Bool) (a b : PL.A) : P := fun env => (a.ev env).bind fun oa e1 => (b.ev e1).bind fun ob e2 => if isIns c (b.fin ob e2) then (match callEnd fn [b, a] [ob, oa] e2 with
  | .ok (.shr (.bl k)) e3 => .ok (.bl (k != neg)) e3
  | .exc x e => .exc x e
  | _ => .bad) else .bad
@[simp] theorem q_inF {c : Str} {fn : Fn} {neg : Bool} {a b : PL.A} {env : List Sl} : inF c fn neg a b env = ((a.ev env).bind fun oa e1 => (b.ev e1).bind fun ob e2 => if isIns c (b.fin ob e2) then (match callEnd fn [b, a] [ob, oa] e2 with
  | .ok (.shr (.bl k)) e3 => .ok (.bl (k != neg)) e3
  | .exc x e => .exc x e
  | _ => .bad) else .bad) := id rfl
theorem in_rd {K : PySem.W.Frag} {W : WX} {c : Str} {fn : Fn} {neg : Bool} {a b : PL.A} {σ : L2.St} {H : Hp} {Q : VK} (w : tP K W (inF c fn neg a b) σ H Q) :
    tA K W a σ H fun x H1 => tA K W b σ H1 fun y H2 => ∃ q dy gs, y = .ref q ∧ H2 q = some (.ins (He.ga K c) dy gs) ∧ spF K 2 fn [y, x] H2 (fun v H' => ∃ k, v = .bl k ∧ Q (.bl (k != neg)) H') fun c a H' => W c a σ H' := by
  obtain ⟨env, IO, Fr, e, w⟩ := tP_run.mp w
  refine tA_of e (Run.mono (Stp.refl _ _ _) w.split fun oa e1 H1 ok1 s1 h1 v av => ?_)
  refine tA_of ok1 (Run.mono (Stp.refl _ _ _) h1.split fun ob e2 H2 ok2 s2 h2 u au => ?_)
  have av2 := av.step s2
  by_cases hc : isIns c (b.fin ob e2) = true
  · rw [if_pos hc] at h2
    cases hg : b.fin ob e2 with
    | none => rw [hg] at hc; simp [isIns] at hc
    | some d' =>
      rw [hg] at hc
      cases d' with
      | ins c2 ns2 ds2 =>
        simp only [isIns, decide_eq_true_eq] at hc
        subst hc
        obtain ⟨q, dy, ws, rfl, k1, _⟩ := (au.fin ok2 hg).ins
        refine ⟨q, dy, _, rfl, k1, callEnd_rd (as := [b, a]) (os := [ob, oa]) ok2 ⟨ob, [oa], _, [v], rfl, rfl, au, oa, [], _, [], rfl, rfl, av2, rfl, rfl⟩ ?_⟩
        cases hce : callEnd fn [b, a] [ob, oa] e2 with
        | bad => rw [hce] at h2; exact h2.elim
        | exc x e3 => rw [hce] at h2; exact h2
        | ok s e3 =>
          rw [hce] at h2
          cases s with
          | shr d =>
            cases d with
            | bl k =>
              intro r H' ro st
              obtain ⟨ok3, rr⟩ := ro
              cases rr
              exact ⟨k, rfl, h2 H' ok3 st _ rfl⟩
            | _ => exact h2.elim
          | _ => exact h2.elim
      | _ => simp [isIns] at hc
  · rw [if_neg hc] at h2; exact h2.elim
section
variable {X : Cx} {W : WX} {k : Nat} {f : Addr} {ps : List Str} {fn : Fn} {c : Str} {pos : Pos} {a b : Expr} {o1 o2 : PL.A}
theorem pc_in (tk : Takes X W) (hm : Meth X.K (He.ga X.K c) "__contains__" f) (F : Ok X.prog X.w X.K X.mg X.base k f ps fn) (hr : Room k X.A)
    (ha : PE X a (tA X.K W o1)) (hb : PE X b (tA X.K W o2)) (hn : ps.length = 2 := by rfl) : PC X .In a b (tP X.K W (inF c fn false o1 o2)) := by
  obtain ⟨hk, fd, _, hbn, G⟩ := F
  refine ⟨fun pins s σ H Q I h => ?_⟩
  refine thn (ha.run pins s σ H _ I (in_rd h)) fun v s1 ⟨x, H1, I1, r1, q1⟩ => thn (hb.run pins s1 σ H1 _ I1 q1) fun u s2 ⟨y, H2, I2, r2, q2⟩ => ?_
  obtain ⟨q, dy, gs, rfl, g1, sp⟩ := q2
  obtain rfl : u = Value.ref q := r2
  obtain ⟨mA, J, _⟩ := ins_get I2.hok g1
  obtain ⟨od, J, _⟩ := J.look
  obtain ⟨m, hF⟩ := I2.fr
  show wpAny _ _ (PySem.contains (.ref q) v >>= fun b => pure (Value.bool b)) _ _ _
  rw [← hn] at sp
  refine wpAny_bind (own_contains hF I2.ok.mod.kin J hm.at_ hm.fn (thn (run_fnS (us := [.ref q, v]) (vs := [.ref q, x]) (E := WE W) G hr hbn (passAt tk σ) I2 (.cons rfl (.cons r1 .nil)) sp) fun r s3 ⟨z, H3, I3, r3, kk, e, q3⟩ => ?_))
  subst e
  cases r3
  refine ⟨kk, rfl, wpAny_pure ⟨.bl kk, H3, I3, rfl, ?_⟩⟩
  rw [show kk = (kk != false) by cases kk <;> rfl]
  exact q3
theorem pc_nin (tk : Takes X W) (hm : Meth X.K (He.ga X.K c) "__contains__" f) (F : Ok X.prog X.w X.K X.mg X.base k f ps fn) (hr : Room k X.A)
    (ha : PE X a (tA X.K W o1)) (hb : PE X b (tA X.K W o2)) (hn : ps.length = 2 := by rfl) : PC X .NotIn a b (tP X.K W (inF c fn true o1 o2)) := by
  obtain ⟨hk, fd, _, hbn, G⟩ := F
  refine ⟨fun pins s σ H Q I h => ?_⟩
  refine thn (ha.run pins s σ H _ I (in_rd h)) fun v s1 ⟨x, H1, I1, r1, q1⟩ => thn (hb.run pins s1 σ H1 _ I1 q1) fun u s2 ⟨y, H2, I2, r2, q2⟩ => ?_
  obtain ⟨q, dy, gs, rfl, g1, sp⟩ := q2
  obtain rfl : u = Value.ref q := r2
  obtain ⟨mA, J, _⟩ := ins_get I2.hok g1
  obtain ⟨od, J, _⟩ := J.look
  obtain ⟨m, hF⟩ := I2.fr
  show wpAny _ _ (PySem.contains (.ref q) v >>= fun b => pure (Value.bool (!b))) _ _ _
  rw [← hn] at sp
  refine wpAny_bind (own_contains hF I2.ok.mod.kin J hm.at_ hm.fn (thn (run_fnS (us := [.ref q, v]) (vs := [.ref q, x]) (E := WE W) G hr hbn (passAt tk σ) I2 (.cons rfl (.cons r1 .nil)) sp) fun r s3 ⟨z, H3, I3, r3, kk, e, q3⟩ => ?_))
  subst e
  cases r3
  refine ⟨kk, rfl, wpAny_pure ⟨.bl (!kk), H3, I3, rfl, ?_⟩⟩
  rw [show (!kk) = (kk != true) by cases kk <;> rfl]
  exact q3
theorem k_in {op : CmpOp} {f : P} (h : PC X op a b (tP X.K W f)) (hm : behindInMarks op b = false) : PE X (.Compare a [op] [b] pos) (tP X.K W f) := pe_cmp h hm
theorem k_tin {op : CmpOp} {f : P} (h : PC X op a b (tP X.K W f)) (hm : behindInMarks op b = false) : PT X (.Compare a [op] [b] pos) (tT X.K W (tst f)) :=
  PT.imp (pt_cmp h hm) fun σ H Q w => by
    obtain ⟨env, IO, Fr, e, w⟩ := tT_run.mp w
    refine tP_run.mpr ⟨env, IO, Fr, e, Run.mono (Stp.refl _ _ _) (Run.split w) fun d env' H' e' st y v rv => ?_⟩
    cases d with
    | bl q => cases rv; exact ⟨q, rfl, y H' e' (Stp.refl _ _ _)⟩
    | _ => exact y.elim
end
end PL

/-! Pl36: live hours, keepings, drawn weathers around a row. -/
namespace PL
open PySem L2
-- G s_law_thick_b1
def s_law_thick_b1 : S :=
  ifS (tst (bin eqD (.ex (fz (callIO 0 s_law_take [(.nm 2)]))) (.ex (cst (.int 0))))) (setE 3 (binE addD (.nm 3) (.ex (cst (.str "."))))) (setE 3 (binE addD (.nm 3) (.ex (cst (.str "#")))))
-- /G
-- G s_law_thick
def s_law_thick : Fn := fnOf 3 <|
  seqS (setE 2 (sh (bin addI (.ex (cst (.int 2))) (.ex (fz (callIO 0 s_law_take [(.ex (cst (.int 3)))])))))) <|
  seqS (setE 3 (sh (cst (.str ".")))) <|
  seqS (forS (rngI rng1D [(.ex (bin subI (.nm 1) (.ex (cst (.int 1)))))]) (.nm 4) (s_law_thick_b1)) <|
  retV 3
-- /G
-- G s_law_around_t1
def s_law_around_t1 : T :=
  tst (bin leD (.ex (fz (binE addD (.ex (bin idx (.nm 3) (.ex (una negI (.ex (cst (.int 1))))))) (.nm 9)))) (.nm 2))
-- /G
-- G s_law_around_e2
def s_law_around_e2 : PL.P :=
  fz (binE addD (.ex (bin idx (.nm 3) (.ex (una negI (.ex (cst (.int 1))))))) (.nm 9))
-- /G
-- G s_law_around_b3
def s_law_around_b3 : S :=
  seqS (setE 5 (lcE (seqI (vr 1)) (.nm 9) [9] s_law_around_t1 s_law_around_e2)) <|
  seqS (ifS (orT (tst (bin eqD (.ex (fz (blt lenL [(.nm 5)]))) (.ex (cst (.int 0))))) (andT (tst (bin gtD (.ex (fz (binE addD (.ex (bin idx (.nm 3) (.ex (una negI (.ex (cst (.int 1))))))) (.ex (bin idx (.nm 1) (.ex (una negI (.ex (cst (.int 1)))))))))) (.nm 2))) (tst (bin eqD (.ex (fz (callIO 0 s_law_take [(.ex (cst (.int 3)))]))) (.ex (cst (.int 0))))))) (breakS) (passS)) <|
  mtS appD 3 [bin idx (.nm 5) (.ex (fz (callIO 0 s_law_take [(.ex (fz (blt lenL [(.nm 5)])))])))]
-- /G
-- G s_law_around_b4
def s_law_around_b4 : S :=
  ifS (orT (tst (bin inD (.nm 8) (.nm 3))) (tst (bin gtD (.ex (fz (callIO 0 s_law_take [(.nm 6)]))) (.ex (cst (.int 0)))))) (setE 7 (binE addD (.nm 7) (.ex (cst (.str "."))))) (setE 7 (binE addD (.nm 7) (.ex (cst (.str "#")))))
-- /G
-- G s_law_around
def s_law_around : Fn := fnOf 7 <|
  seqS (setE 3 (lstP [cst (.int 1)])) <|
  seqS (forS (rngI rng1D [(.nm 2)]) (.nm 4) (s_law_around_b3)) <|
  seqS (setE 6 (sh (bin addI (.ex (cst (.int 1))) (.ex (fz (callIO 0 s_law_take [(.ex (cst (.int 4)))])))))) <|
  seqS (setE 7 (sh (cst (.str "")))) <|
  seqS (forS (rngI rng2D [(.ex (cst (.int 1))), (.ex (bin addI (.nm 2) (.ex (cst (.int 1)))))]) (.nm 8) (s_law_around_b4)) <|
  retV 7
-- /G
-- G s_law_live_b1
def s_law_live_b1 : S :=
  ifS (truT (.ex (bin idx (.nm 3) (.ex (fz (binE addD (.nm 5) (.nm 6))))))) (putS lput 3 (vr 5) (cst (.bl true))) (passS)
-- /G
-- G s_law_live_b2
def s_law_live_b2 : S :=
  seqS (setE 5 (sh (bin subI (.nm 2) (.nm 4)))) <|
  ifS (andT (tst (bin eqD (.ex (bin idx (.nm 1) (.ex (bin subI (.nm 5) (.ex (cst (.int 1))))))) (.ex (cst (.str "."))))) (tst (bin gtD (.ex (fz (binE addD (.nm 5) (.ex (bin idx (.nm 0) (.ex (una negI (.ex (cst (.int 1)))))))))) (.nm 2)))) (putS lput 3 (vr 5) (cst (.bl true))) (ifS (tst (bin eqD (.ex (bin idx (.nm 1) (.ex (bin subI (.nm 5) (.ex (cst (.int 1))))))) (.ex (cst (.str "."))))) (forS (seqI (vr 0)) (.nm 6) (s_law_live_b1)) (passS))
-- /G
-- G s_law_live
def s_law_live : Fn := fnOf 6 <|
  seqS (setE 2 (blt lenL [(.nm 1)])) <|
  seqS (setE 3 (lcE (rngI rng1D [(.ex (bin addI (.nm 2) (.ex (cst (.int 1)))))]) (.nm 7) [7] yesT (cst (.bl false)))) <|
  seqS (forS (rngI rng1D [(.nm 2)]) (.nm 4) (s_law_live_b2)) <|
  retV 3
-- /G
-- G s_law_some_keeping_t1
def s_law_some_keeping_t1 : T :=
  tst (bin leD (.ex (fz (binE addD (.ex (bin idx (.nm 4) (.ex (una negI (.ex (cst (.int 1))))))) (.nm 8)))) (.ex (fz (blt lenL [(.nm 2)]))))
-- /G
-- G s_law_some_keeping_e2
def s_law_some_keeping_e2 : PL.P :=
  fz (binE addD (.ex (bin idx (.nm 4) (.ex (una negI (.ex (cst (.int 1))))))) (.nm 8))
-- /G
-- G s_law_some_keeping_b3
def s_law_some_keeping_b3 : S :=
  seqS (setE 6 (lcE (seqI (vr 1)) (.nm 8) [8] s_law_some_keeping_t1 s_law_some_keeping_e2)) <|
  seqS (setE 6 (lcE (seqI (vr 6)) (.nm 9) [9] (truT (.ex (bin idx (.nm 3) (.nm 9)))) (vr 9))) <|
  seqS (setE 7 (sh (bin gtD (.ex (fz (binE addD (.ex (bin idx (.nm 4) (.ex (una negI (.ex (cst (.int 1))))))) (.ex (bin idx (.nm 1) (.ex (una negI (.ex (cst (.int 1)))))))))) (.ex (fz (blt lenL [(.nm 2)])))))) <|
  seqS (ifS (orT (tst (bin eqD (.ex (fz (blt lenL [(.nm 6)]))) (.ex (cst (.int 0))))) (andT (truT (.nm 7)) (tst (bin eqD (.ex (fz (callIO 0 s_law_take [(.ex (cst (.int 3)))]))) (.ex (cst (.int 0))))))) (retV 4) (passS)) <|
  mtS appD 4 [bin idx (.nm 6) (.ex (fz (callIO 0 s_law_take [(.ex (fz (blt lenL [(.nm 6)])))])))]
-- /G
-- G s_law_some_keeping
def s_law_some_keeping : Fn := fnOf 7 <|
  seqS (setE 3 (callF s_law_live [(.nm 1), (.nm 2)])) <|
  seqS (ifS (notT (truT (.ex (bin idx (.nm 3) (.ex (cst (.int 1))))))) (retE (lstP [])) (passS)) <|
  seqS (setE 4 (lstP [cst (.int 1)])) <|
  seqS (forS (rngI rng1D [(.ex (fz (blt lenL [(.nm 2)])))]) (.nm 5) (s_law_some_keeping_b3)) <|
  retV 4
-- /G
-- G s_law_keeping_b1
def s_law_keeping_b1 : S :=
  seqS (ifS (orT (notT (truT (.ex (fz (callF s_law_int [(.ex (bin idx (.nm 2) (.nm 3)))]))))) (orT (tst (bin ltD (.ex (bin idx (.nm 2) (.nm 3))) (.ex (cst (.int 1))))) (tst (bin gtD (.ex (bin idx (.nm 2) (.nm 3))) (.ex (fz (blt lenL [(.nm 1)]))))))) (retE (sh (cst (.bl false)))) (passS)) <|
  seqS (ifS (tst (bin neD (.ex (bin idx (.nm 1) (.ex (bin subI (.ex (bin idx (.nm 2) (.nm 3))) (.ex (cst (.int 1))))))) (.ex (cst (.str "."))))) (retE (sh (cst (.bl false)))) (passS)) <|
  ifS (andT (tst (bin gtD (.nm 3) (.ex (cst (.int 0))))) (tst (bin notInD (.ex (bin subI (.ex (bin idx (.nm 2) (.nm 3))) (.ex (bin idx (.nm 2) (.ex (bin subI (.nm 3) (.ex (cst (.int 1))))))))) (.nm 0)))) (retE (sh (cst (.bl false)))) (passS)
-- /G
-- G s_law_keeping
def s_law_keeping : Fn := fnOf 1 <|
  seqS (ifS (orT (tst (bin eqD (.ex (fz (blt lenL [(.nm 2)]))) (.ex (cst (.int 0))))) (tst (bin neD (.ex (bin idx (.nm 2) (.ex (cst (.int 0))))) (.ex (cst (.int 1)))))) (retE (sh (cst (.bl false)))) (passS)) <|
  seqS (forS (rngI rng1D [(.ex (fz (blt lenL [(.nm 2)])))]) (.nm 3) (s_law_keeping_b1)) <|
  retE (sh (bin gtD (.ex (fz (binE addD (.ex (bin idx (.nm 2) (.ex (una negI (.ex (cst (.int 1))))))) (.ex (bin idx (.nm 0) (.ex (una negI (.ex (cst (.int 1)))))))))) (.ex (fz (blt lenL [(.nm 1)])))))
-- /G
-- G s_Lacquer__contains
def s_Lacquer__contains : Fn := fnOf 0 <|
  retE (sh (chainP leD leD (.ex (una (fld "Lacquer" ["a", "b"] 0) (.nm 0))) (.nm 1) (.ex (una (fld "Lacquer" ["a", "b"] 1) (.nm 0)))))
-- /G
-- G s_is_keeping_b1
def s_is_keeping_b1 : S :=
  seqS (ifS (tst (inF "Lacquer" s_Lacquer__contains true (.ex (bin subI (.ex (bin idx (.nm 2) (.nm 4))) (.ex (bin idx (.nm 2) (.ex (bin subI (.nm 4) (.ex (cst (.int 1))))))))) (.nm 0))) (retE (sh (cst (.bl false)))) (passS)) <|
  ifS (orT (tst (bin gtD (.ex (bin idx (.nm 2) (.nm 4))) (.ex (fz (propF "Weather" s_Weather_hours (.nm 1)))))) (notT (truT (.ex (bin idx (.nm 3) (.ex (bin idx (.nm 2) (.nm 4)))))))) (retE (sh (cst (.bl false)))) (passS)
-- /G
-- G s_is_keeping
def s_is_keeping : Fn := fnOf 2 <|
  seqS (ifS (orT (tst (bin eqD (.nm 2) (.ex (fz (lstP []))))) (tst (bin neD (.ex (bin idx (.nm 2) (.ex (cst (.int 0))))) (.ex (cst (.int 1)))))) (retE (sh (cst (.bl false)))) (passS)) <|
  seqS (setE 3 (callF s_dry_flags [(.ex (fz (methF "Weather" "signs" s_Weather_signs (.nm 1) [])))])) <|
  seqS (forS (rngI rng2D [(.ex (cst (.int 1))), (.ex (fz (blt lenL [(.nm 2)])))]) (.nm 4) (s_is_keeping_b1)) <|
  retE (sh (bin gtD (.ex (fz (binE addD (.ex (bin idx (.nm 2) (.ex (una negI (.ex (cst (.int 1))))))) (.ex (una (fld "Lacquer" ["a", "b"] 1) (.nm 0)))))) (.ex (fz (propF "Weather" s_Weather_hours (.nm 1))))))
-- /G
-- G s_end_flags_e1
def s_end_flags_e1 : PL.P :=
  andP (bin idx (.nm 1) (.nm 2)) (bin geD (.ex (fz (binE addD (.nm 2) (.ex (una (fld "Lacquer" ["a", "b"] 1) (.nm 0)))))) (.ex (fz (blt lenL [(.nm 1)]))))
-- /G
-- G s_end_flags
def s_end_flags : Fn := fnOf 1 <|
  retE (lcE (rngI rng1D [(.ex (fz (blt lenL [(.nm 1)])))]) (.nm 2) [2] yesT s_end_flags_e1)
-- /G
-- G s_onward_flags_b1
def s_onward_flags_b1 : S :=
  ifS (andT (truT (.ex (bin idx (.nm 1) (.nm 3)))) (truT (.ex (fz (blt anyL [(.ex (fz (slE (.nm 2) (some (fz (binE addD (.nm 3) (.ex (una (fld "Lacquer" ["a", "b"] 0) (.nm 0)))))) (some (bin addI (.ex (fz (binE addD (.nm 3) (.ex (una (fld "Lacquer" ["a", "b"] 1) (.nm 0)))))) (.ex (cst (.int 1))))))))]))))) (putS lput 2 (vr 3) (cst (.bl true))) (passS)
-- /G
-- G s_onward_flags
def s_onward_flags : Fn := fnOf 2 <|
  seqS (setE 2 (callF s_end_flags [(.nm 0), (.nm 1)])) <|
  seqS (forS (rngI rng3D [(.ex (bin subI (.ex (fz (blt lenL [(.nm 1)]))) (.ex (cst (.int 1))))), (.ex (cst (.int 0))), (.ex (una negI (.ex (cst (.int 1)))))]) (.nm 3) (s_onward_flags_b1)) <|
  retV 2
-- /G
-- G s_live
def s_live : Fn := fnOf 2 <|
  seqS (setE 2 (callF s_onward_flags [(.nm 0), (.ex (fz (callF s_dry_flags [(.ex (fz (methF "Weather" "signs" s_Weather_signs (.nm 1) [])))])))])) <|
  retE (lcE (seqI (fz (callF s_reached [(.nm 0), (.nm 1)]))) (.nm 3) [3] (truT (.ex (bin idx (.nm 2) (.nm 3)))) (vr 3))
-- /G
/-! ### numbers in lists, once more -/
/-- item k -/
def gI (H : List Int) (k : Nat) : Int := H.getD k 0
theorem gI_eq {H : List Int} {k : Nat} (h : k < H.length) : H[k] = gI H k := by simp [gI, h]
theorem idxN {H : List Int} {k : Nat} (h : k < H.length) : idx (.lst (H.map D.int)) (.int (k : Int)) = some (.int (gI H k)) := by
  rw [o_idx (by omega), List.getElem?_map, Int.toNat_natCast, List.getElem?_eq_getElem h, gI_eq h]; rfl
theorem idxI {H : List Int} {x : Int} (h0 : 0 ≤ x) (h : x < H.length) : idx (.lst (H.map D.int)) (.int x) = some (.int (gI H x.toNat)) := by
  have := idxN (H := H) (k := x.toNat) (by omega)
  rwa [show ((x.toNat : Nat) : Int) = x by omega] at this
theorem idxP {H : List Int} {k : Nat} (h : k < H.length) (h0 : 0 < k) : idx (.lst (H.map D.int)) (.int ((k : Int) - 1)) = some (.int (gI H (k - 1))) := by
  have : ((k : Int) - 1) = ((k - 1 : Nat) : Int) := by omega
  rw [this, idxN (by omega)]
/-- the last item -/
def lI (H : List Int) : Int := gI H (H.length - 1)
theorem idxL {H : List Int} (h : 0 < H.length) : idx (.lst (H.map D.int)) (.int (-1)) = some (.int (lI H)) := by
  rw [o_idxl, List.getLast?_eq_getElem?, List.length_map, List.getElem?_map, List.getElem?_eq_getElem (by omega), gI_eq]; rfl
theorem getD_mem {H : List Int} {k : Nat} (h : k < H.length) : gI H k ∈ H := by
  rw [← gI_eq h]
  exact List.getElem_mem h
theorem lI_mem {H : List Int} (h : 0 < H.length) : lI H ∈ H := getD_mem (by omega)
theorem mem_getD {H : List Int} {x : Int} (h : x ∈ H) : ∃ k, k < H.length ∧ gI H k = x := by
  obtain ⟨k, hk, e⟩ := List.getElem_of_mem h
  exact ⟨k, hk, by rw [← gI_eq hk]; exact e⟩
theorem gI_app1 {H M : List Int} {k : Nat} (h : k < H.length) : gI (H ++ M) k = gI H k := by
  rw [← gI_eq h, ← gI_eq (by rw [List.length_append]; omega), List.getElem_append_left h]
theorem gI_app2 {H : List Int} {x : Int} : gI (H ++ [x]) H.length = x := by simp [gI]
theorem lI_snoc {H : List Int} {x : Int} : lI (H ++ [x]) = x := by
  unfold lI
  rw [List.length_append, List.length_singleton, Nat.add_sub_cancel, gI_app2]
theorem gI_cons {H : List Int} {x : Int} {k : Nat} : gI (x :: H) (k + 1) = gI H k := by simp [gI]
theorem gI_zero {H : List Int} {x : Int} : gI (x :: H) 0 = x := by simp [gI]
theorem lI_cons {H : List Int} {x : Int} (h : 0 < H.length) : lI (x :: H) = lI H := by
  unfold lI
  obtain ⟨k, hk⟩ : ∃ k, H.length = k + 1 := ⟨H.length - 1, by omega⟩
  rw [List.length_cons, hk, Nat.add_sub_cancel, Nat.add_sub_cancel, gI_cons]
def rngI' (lo : Int) (n : Nat) : List Int := (List.range n).map fun (i : Nat) => lo + (i : Int)
theorem rng_I {lo : Int} {n : Nat} : rngL lo n = (rngI' lo n).map D.int := by simp [rngL, rngI']
theorem mem_rngI {lo x : Int} {n : Nat} : x ∈ rngI' lo n ↔ lo ≤ x ∧ x < lo + n := by
  unfold rngI'
  rw [List.mem_map]
  constructor
  · rintro ⟨i, hi, rfl⟩
    have := List.mem_range.mp hi
    omega
  · rintro ⟨h1, h2⟩
    exact ⟨(x - lo).toNat, List.mem_range.mpr (by omega), by omega⟩
theorem rngI_len {lo : Int} {n : Nat} : (rngI' lo n).length = n := by simp [rngI']
theorem addD_ints {X Y : List Int} (h : X.length + Y.length ≤ 16777216) : addD (.lst (X.map D.int)) (.lst (Y.map D.int)) = some (.own (.lst ((X ++ Y).map D.int))) := by
  rw [o_addDl (by simpa using h), List.map_append]
theorem slL_ints {X : List Int} {lo hi : Option Int} : slL (.lst (X.map D.int)) lo hi = some (.own (.lst ((cutL X lo hi).map D.int))) := by rw [slL_lst, cutL_map]
theorem app_ints {X : List Int} {x : Int} (h : X.length < 16777216) : appD (X.map D.int) [.int x] = some ((X ++ [x]).map D.int) := by
  rw [o_app (by simpa using h), List.map_append]; rfl
theorem ints_of {ys : List D} (h : ∀ y ∈ ys, ∃ i : Int, y = .int i) : ∃ H : List Int, ys = H.map D.int := by
  induction ys with
  | nil => exact ⟨[], rfl⟩
  | cons y ys ih =>
    obtain ⟨H, hH⟩ := ih fun z hz => h z (by simp [hz])
    obtain ⟨i, hi⟩ := h y (by simp)
    exact ⟨i :: H, by rw [hH, hi]; rfl⟩
/-- ranges downwards -/
theorem rng3_down {n : Int} (h0 : 0 ≤ n) (h : n < 1000000) : rng3D [.int n, .int 0, .int (-1)] = some (rngC n (-1) n.toNat) := by
  have s := PySem.W.small_down (a := n) (b := 0) (by omega) (by omega) (by omega) (by omega)
  have r := PySem.W.rangeSize_downNat n 0
  have d : ((-1 : Int) ≠ 0 ∧ (-1 : Int).natAbs < 1073741824 ∧ Builtin.Range.small n 0 (-1) = true) := ⟨by decide, by decide, s⟩
  have e : rng3D [.int n, .int 0, .int (-1)] = if (-1 : Int) ≠ 0 ∧ (-1 : Int).natAbs < 1073741824 ∧ Builtin.Range.small n 0 (-1) = true then some (rngC n (-1) (Builtin.Range.rangeSize n 0 (-1)).toNat) else none := by simp only [rng3D]
  rw [e, if_pos d, r, Int.sub_zero, Int.toNat_natCast]
theorem rngI_3 {op : List D → Option (List D)} {x y z : P} {env e1 e2 e3 : List Sl} {dx dy dz : D} (hx : x env = .ok dx e1) (hy : y e1 = .ok dy e2) (hz : z e2 = .ok dz e3) : rngI op [.ex x, .ex y, .ex z] env = opt (op [dx, dy, dz]) e3 := by
  simp [hx, hy, hz]
theorem rng3_dn {n : Nat} (hn : n < 100000) : rng3D [.int (n : Int), .int 0, .int (-1)] = some (rngC n (-1) n) := by
  have r := rng3_down (n := (n : Int)) (by omega) (by omega)
  rw [Int.toNat_natCast] at r
  exact r
/-- for x in range(n, 0, -1) -/
theorem rngI_dn {x y z : P} {env e1 e2 e3 : List Sl} {n : Nat} (hn : n < 100000) (hx : x env = .ok (.int (n : Int)) e1) (hy : y e1 = .ok (.int 0) e2) (hz : z e2 = .ok (.int (-1)) e3) : rngI rng3D [.ex x, .ex y, .ex z] env = .ok (rngC n (-1) n) e3 := by
  rw [rngI_3 hx hy hz, rng3_dn hn]
  exact opt_some _ _
theorem loop_down {tg : Tg} {body : S} (n : Nat) (I : Nat → List Sl → Prop) (env : List Sl) (h0 : I 0 env)
    (st : ∀ j env, j < n → I j env → ∃ e e2, tgS tg (.int ((n : Int) - j)) env = some e ∧ (body e = .nx e2 ∨ body e = .ct e2) ∧ I (j + 1) e2) :
    ∃ env', loopS tg body (rngC n (-1) n) env = .nx env' ∧ I n env' := by
  obtain ⟨e, h1, h2⟩ := loop_nx (tg := tg) (body := body) I (rngC n (-1) n) 0 env h0 (fun j d env hd hi => by
    obtain ⟨rfl, hj⟩ := rngC_get hd
    rw [Nat.zero_add] at hi ⊢
    have := st j env hj hi
    rw [show (n : Int) + (j : Int) * -1 = (n : Int) - j by omega]
    exact this)
  exact ⟨e, h1, by simpa [rngC] using h2⟩
/-! ### live hours -/
inductive Alv (a b : Int) (l : List Bool) : Nat → Prop
  | fin {h : Nat} : dF l h = true → (l.length : Int) < h + b → Alv a b l h
  | step {h i : Nat} : dF l h = true → Alv a b l i → (h : Int) + a ≤ i → (i : Int) ≤ h + b → Alv a b l h
theorem Alv.dry {a b : Int} {l : List Bool} {h : Nat} (r : Alv a b l h) : dF l h = true := by cases r <;> assumption
theorem Alv.bd {a b : Int} {l : List Bool} {h : Nat} (r : Alv a b l h) : 1 ≤ h ∧ h ≤ l.length := dF_le r.dry
theorem Alv.iff {a b : Int} {l : List Bool} {h : Nat} : Alv a b l h ↔ dF l h = true ∧ ((l.length : Int) < h + b ∨ ∃ i, Alv a b l i ∧ (h : Int) + a ≤ i ∧ (i : Int) ≤ h + b) := by
  constructor
  · intro r
    cases r with
    | fin h1 h2 => exact ⟨h1, .inl h2⟩
    | step h1 r h2 h3 => exact ⟨h1, .inr ⟨_, r, h2, h3⟩⟩
  · rintro ⟨h1, h2 | ⟨i, r, h2, h3⟩⟩
    · exact .fin h1 h2
    · exact .step h1 r h2 h3
theorem end_flags_ok {a b : Int} {l : List Bool} (hl : l.length ≤ 2000) : s_end_flags [.shr (lacD a b), .shr (.lst (flD (l.length + 1) (dF l)))] = .ok (.own (.lst (flD (l.length + 1) fun h => pB (dF l h = true ∧ (l.length : Int) < h + b)))) [.no, .no] := by
  have r := rng1_a (i := (l.length : Int) + 1) (by omega) (by omega)
  rw [show ((l.length : Int) + 1).toNat = l.length + 1 by omega] at r
  have c := lcL_rng (tg := .nm 2) (vs := [2]) (elt := s_end_flags_e1) (env0 := [.shr (lacD a b), .shr (.lst (flD (l.length + 1) (dF l))), .no]) 0 (l.length + 1) (fun h => .bl (pB (dF l h = true ∧ (l.length : Int) < h + b))) (by omega) (fun j hj => by
    refine ⟨[.shr (lacD a b), .shr (.lst (flD (l.length + 1) (dF l))), .shr (.int j)], [.shr (lacD a b), .shr (.lst (flD (l.length + 1) (dF l))), .shr (.int j)], by simp [setOk_lo], ?_, by simp, by simp⟩
    by_cases hd : dF l j = true
    · have e : pB (dF l j = true ∧ (l.length : Int) < j + b) = decide ((l.length : Int) + 1 ≤ j + b) := by
        rw [pB_dec]; exact pB_congr ⟨fun z => by omega, fun z => ⟨hd, by omega⟩⟩
      rw [e]
      simp [s_end_flags_e1, fl_idxN hj, hd]
    · have hd' : dF l j = false := by simpa using hd
      rw [pB_f fun z => hd z.1]
      simp [s_end_flags_e1, fl_idxN hj, hd'])
  simp [s_end_flags, r, c]
  rfl
theorem onward_loop {a b : Int} {l : List Bool} (h0 : 1 ≤ a) (h1 : a < b) (h2 : b ≤ 1000) (hl : l.length ≤ 2000) : ∃ s3, loopS (.nm 3) s_onward_flags_b1 (rngC l.length (-1) l.length) [.shr (lacD a b), .shr (.lst (flD (l.length + 1) (dF l))), .own (.lst (flD (l.length + 1) fun h => pB (dF l h = true ∧ (l.length : Int) < h + b))), .no] = .nx [.shr (lacD a b), .shr (.lst (flD (l.length + 1) (dF l))), .own (.lst (flD (l.length + 1) fun h => pB (Alv a b l h))), s3] := by
  obtain ⟨e', g1, s3, rfl, _⟩ := loop_down (tg := .nm 3) (body := s_onward_flags_b1) l.length
    (fun k e => ∃ s3, e = [.shr (lacD a b), .shr (.lst (flD (l.length + 1) (dF l))), .own (.lst (flD (l.length + 1) fun h => pB ((l.length - k < h ∧ Alv a b l h) ∨ (dF l h = true ∧ (l.length : Int) < h + b)))), s3] ∧ loB s3 = true)
    [.shr (lacD a b), .shr (.lst (flD (l.length + 1) (dF l))), .own (.lst (flD (l.length + 1) fun h => pB (dF l h = true ∧ (l.length : Int) < h + b))), .no] ⟨.no, by
      have : (flD (l.length + 1) fun h => pB (dF l h = true ∧ (l.length : Int) < h + b)) = flD (l.length + 1) fun h => pB ((l.length - 0 < h ∧ Alv a b l h) ∨ (dF l h = true ∧ (l.length : Int) < h + b)) := fl_congr fun h _ => pB_congr ⟨fun z => .inr z, fun z => z.elim (fun z => by have := z.2.bd; omega) id⟩
      rw [this], rfl⟩ (fun k env hk hi => by
      obtain ⟨s3, rfl, h3⟩ := hi
      have cst : ((l.length : Int) - (k : Int)) = ((l.length - k : Nat) : Int) := by omega
      rw [cst]
      have dx := fl_idxN (n := l.length + 1) (i := l.length - k) (f := dF l) (by omega)
      refine ⟨_, _, by simp only [q_tgn, setOk_lo]; simp [h3]; rfl, .inl ?_, .shr (.int ((l.length - k : Nat) : Int)), rfl, rfl⟩
      have an := fl_anyB (n := l.length + 1) (f := fun h => pB ((l.length - k < h ∧ Alv a b l h) ∨ (dF l h = true ∧ (l.length : Int) < h + b))) (u := ((l.length - k : Nat) : Int) + a) (v := ((l.length - k : Nat) : Int) + b + 1) (P := ∃ i : Nat, Alv a b l i ∧ ((l.length - k : Nat) : Int) + a ≤ i ∧ (i : Int) ≤ ((l.length - k : Nat) : Int) + b) (by omega) (by omega) (by
        constructor
        · rintro ⟨i, g1, g2, g3, g4⟩
          rcases pB_iff.mp g4 with z | z
          · exact ⟨i, z.2, g1, by omega⟩
          · exact ⟨i, .fin z.1 z.2, g1, by omega⟩
        · rintro ⟨i, g1, g2, g3⟩
          have := g1.bd
          exact ⟨i, g2, by omega, by omega, pB_t (.inl ⟨by omega, g1⟩)⟩)
      have key : ∀ i, i ≠ l.length - k → pB ((l.length - k < i ∧ Alv a b l i) ∨ (dF l i = true ∧ (l.length : Int) < i + b)) = pB ((l.length - (k + 1) < i ∧ Alv a b l i) ∨ (dF l i = true ∧ (l.length : Int) < i + b)) := fun i hi => pB_congr ⟨fun z => z.elim (fun z => .inl ⟨by omega, z.2⟩) .inr, fun z => z.elim (fun z => .inl ⟨by omega, z.2⟩) .inr⟩
      by_cases hd : dF l (l.length - k) = true
      · rw [hd] at dx
        by_cases ha : ∃ i : Nat, Alv a b l i ∧ ((l.length - k : Nat) : Int) + a ≤ i ∧ (i : Int) ≤ ((l.length - k : Nat) : Int) + b
        · rw [pB_t ha] at an
          have ix : ixN (l.length + 1) ((l.length - k : Nat) : Int) = some (l.length - k) := by rw [ixN_nn (by omega) (by omega), Int.toNat_natCast]
          have hs : (flD (l.length + 1) fun h => pB ((l.length - k < h ∧ Alv a b l h) ∨ (dF l h = true ∧ (l.length : Int) < h + b))).set (l.length - k) (.bl true) = flD (l.length + 1) fun h => pB ((l.length - (k + 1) < h ∧ Alv a b l h) ∨ (dF l h = true ∧ (l.length : Int) < h + b)) := by
            rw [fl_set]
            refine fl_congr fun i _ => ?_
            by_cases hi : i = l.length - k
            · rw [if_pos hi, hi]
              obtain ⟨j, z1, z2, z3⟩ := ha
              exact (pB_t (.inl ⟨by omega, .step hd z1 z2 z3⟩)).symm
            · rw [if_neg hi]; exact key i hi
          rw [← hs]
          simp [s_onward_flags_b1, dx, slL_lst, opA, partD, an, lput, ix]
        · rw [pB_f ha] at an
          have hs : (flD (l.length + 1) fun h => pB ((l.length - k < h ∧ Alv a b l h) ∨ (dF l h = true ∧ (l.length : Int) < h + b))) = flD (l.length + 1) fun h => pB ((l.length - (k + 1) < h ∧ Alv a b l h) ∨ (dF l h = true ∧ (l.length : Int) < h + b)) := fl_congr fun i _ => by
            by_cases hi : i = l.length - k
            · subst hi
              refine pB_congr ⟨fun z => z.elim (fun z => by omega) .inr, fun z => z.elim (fun z => ?_) .inr⟩
              rcases (Alv.iff.mp z.2).2 with y | y
              · exact .inr ⟨hd, y⟩
              · exact absurd y ha
            · exact key i hi
          rw [← hs]
          simp [s_onward_flags_b1, dx, slL_lst, opA, partD, an]
      · have hd' : dF l (l.length - k) = false := by simpa using hd
        rw [hd'] at dx
        have hs : (flD (l.length + 1) fun h => pB ((l.length - k < h ∧ Alv a b l h) ∨ (dF l h = true ∧ (l.length : Int) < h + b))) = flD (l.length + 1) fun h => pB ((l.length - (k + 1) < h ∧ Alv a b l h) ∨ (dF l h = true ∧ (l.length : Int) < h + b)) := fl_congr fun i _ => by
          by_cases hi : i = l.length - k
          · subst hi
            rw [pB_f fun z => z.elim (fun z => by omega) fun z => hd z.1, pB_f fun z => z.elim (fun z => hd z.2.dry) fun z => hd z.1]
          · exact key i hi
        rw [← hs]
        simp [s_onward_flags_b1, dx])
  have fin : (flD (l.length + 1) fun h => pB ((l.length - l.length < h ∧ Alv a b l h) ∨ (dF l h = true ∧ (l.length : Int) < h + b))) = flD (l.length + 1) fun h => pB (Alv a b l h) := fl_congr fun i _ => pB_congr ⟨fun z => z.elim (fun z => z.2) fun z => .fin z.1 z.2, fun z => .inl ⟨by have := z.bd; omega, z⟩⟩
  rw [fin] at g1
  exact ⟨s3, g1⟩
theorem onward_flags_ok {a b : Int} {l : List Bool} (h0 : 1 ≤ a) (h1 : a < b) (h2 : b ≤ 1000) (hl : l.length ≤ 2000) : s_onward_flags [.shr (lacD a b), .shr (.lst (flD (l.length + 1) (dF l)))] = .ok (.own (.lst (flD (l.length + 1) fun h => pB (Alv a b l h)))) [.no, .no] := by
  have e1 := end_flags_ok (a := a) (b := b) hl
  have hx : ∀ E : Sl, (bin subI (.ex (fz (blt lenL [(.nm 1)]))) (.ex (cst (.int 1)))) [.shr (lacD a b), .shr (.lst (flD (l.length + 1) (dF l))), E, .no] = .ok (.int (l.length : Int)) [.shr (lacD a b), .shr (.lst (flD (l.length + 1) (dF l))), E, .no] := fun E => by
    simp
  have hR := fun E : Sl => rngI_dn (x := bin subI (.ex (fz (blt lenL [(.nm 1)]))) (.ex (cst (.int 1)))) (y := cst (.int 0)) (z := una negI (.ex (cst (.int 1)))) (n := l.length) (by omega) (hx E) (by simp; rfl) (by simp; rfl)
  obtain ⟨s3, g1⟩ := onward_loop h0 h1 h2 hl
  simp [-q_rngI, s_onward_flags, e1, setOk_lo, hR, g1]
theorem live_ok {a b : Int} {l : List Bool} (h0 : 1 ≤ a) (h1 : a < b) (h2 : b ≤ 1000) (sk : Sky l) : s_live [.shr (lacD a b), .shr (wD l)] = .ok (.own (.lst (plD (l.length + 1) fun i => pB (Rch a b (dF l) i ∧ Alv a b l i)))) [.no, .no] := by
  have hl := sk.le
  have e1 := dry_flags_ok (l := l) (by omega)
  have e2 := onward_flags_ok (l := l) h0 h1 h2 (by omega)
  have e3 := reached_ok h0 h1 h2 sk
  have c := lcL_sel (tg := .nm 3) (vs := [3]) (test := truT (.ex (bin idx (.nm 2) (.nm 3)))) (elt := vr 3) (env0 := [.shr (lacD a b), .shr (wD l), .own (.lst (flD (l.length + 1) fun h => pB (Alv a b l h))), .no]) (fun (i : Nat) => D.int (i : Int)) (fun (i : Nat) => D.int (i : Int)) (fun i => pB (Alv a b l i)) ((List.range (l.length + 1)).filter fun i => pB (Rch a b (dF l) i)) 0 (by have := List.length_filter_le (fun i => pB (Rch a b (dF l) i)) (List.range (l.length + 1)); rw [List.length_range] at this; omega) (fun i hi => by
    have hm := List.mem_range.mp (List.mem_filter.mp hi).1
    exact ⟨[.shr (lacD a b), .shr (wD l), .own (.lst (flD (l.length + 1) fun h => pB (Alv a b l h))), .shr (.int i)], [.shr (lacD a b), .shr (wD l), .own (.lst (flD (l.length + 1) fun h => pB (Alv a b l h))), .shr (.int i)], by simp [setOk_lo], by simp [fl_idxN hm], by simp, by simp, fun _ => ⟨[.shr (lacD a b), .shr (wD l), .own (.lst (flD (l.length + 1) fun h => pB (Alv a b l h))), .shr (.int i)], by simp, by simp, by simp⟩⟩)
  have cf : (((List.range (l.length + 1)).filter fun i => pB (Rch a b (dF l) i)).map fun (i : Nat) => D.int (i : Int)) = plD (l.length + 1) fun i => pB (Rch a b (dF l) i) := rfl
  have cg : (((List.range (l.length + 1)).filter fun i => pB (Rch a b (dF l) i)).filter fun i => pB (Alv a b l i)).map (fun (i : Nat) => D.int (i : Int)) = plD (l.length + 1) fun i => pB (Rch a b (dF l) i ∧ Alv a b l i) := by
    unfold plD
    rw [List.filter_filter]
    congr 1
    refine List.filter_congr fun i _ => ?_
    rw [pB_and]
    exact pB_congr ⟨fun z => ⟨z.2, z.1⟩, fun z => ⟨z.2, z.1⟩⟩
  rw [cf, cg] at c
  simp [s_live, signs_ok sk, e1, e2, e3, setOk_lo, c]
theorem stp_last {a b : Int} (h : a < b) : idx (.lst (rngL a (b + 1 - a).toNat)) (.int (-1)) = some (.int b) := by
  have e4 := rng_last (a := a) (n := (b + 1 - a).toNat) (by omega)
  rwa [show a + ((b + 1 - a).toNat : Int) - 1 = b by omega] at e4
theorem law_live_ok {a b : Int} {l : List Bool} (h0 : 1 ≤ a) (h1 : a < b) (h2 : b ≤ 1000) (hp : 1 ≤ l.length) (hl : l.length ≤ 2000) : s_law_live [.shr (.lst (rngL a (b + 1 - a).toNat)), .shr (.str (sgS l))] = .ok (.own (.lst (flD (l.length + 1) fun h => pB (Alv a b l h)))) [.no, .no] := by
  have t2 := len_sg (l := l) (by omega)
  have e4 := stp_last h1
  have r1 := rng1_a (i := (l.length : Int) + 1) (by omega) (by omega)
  rw [show ((l.length : Int) + 1).toNat = l.length + 1 by omega] at r1
  have r2 := rng1_a (i := (l.length : Int)) (by omega) (by omega)
  rw [Int.toNat_natCast] at r2
  generalize hS : D.lst (rngL a (b + 1 - a).toNat) = S at *
  have c := lcL_rng (tg := .nm 7) (vs := [7]) (elt := cst (.bl false)) (env0 := [.shr S, .shr (.str (sgS l)), .shr (.int l.length), .no, .no, .no, .no, .no]) 0 (l.length + 1) (fun _ => .bl false) (by omega) (fun j hj =>
    ⟨[.shr S, .shr (.str (sgS l)), .shr (.int l.length), .no, .no, .no, .no, .shr (.int (0 + (j : Int)))], [.shr S, .shr (.str (sgS l)), .shr (.int l.length), .no, .no, .no, .no, .shr (.int (0 + (j : Int)))], by simp [setOk_lo], by simp, by simp, by simp⟩)
  have cf : (List.range (l.length + 1)).map (fun _ => D.bl false) = flD (l.length + 1) fun _ => false := rfl
  rw [cf] at c
  obtain ⟨e', g1, s4, s5, s6, rfl, _, _, _⟩ := loop_rng (tg := .nm 4) (body := s_law_live_b2) 0 l.length
    (fun k e => ∃ s4 s5 s6, e = [.shr S, .shr (.str (sgS l)), .shr (.int l.length), .own (.lst (flD (l.length + 1) fun h => pB (l.length - k < h ∧ Alv a b l h))), s4, s5, s6, .no] ∧ loB s4 = true ∧ loB s5 = true ∧ loB s6 = true)
    [.shr S, .shr (.str (sgS l)), .shr (.int l.length), .own (.lst (flD (l.length + 1) fun _ => false)), .no, .no, .no, .no] ⟨.no, .no, .no, by
      have : (flD (l.length + 1) fun _ => false) = flD (l.length + 1) fun h => pB (l.length - 0 < h ∧ Alv a b l h) := fl_congr fun h _ => by rw [pB_f fun z => by have := z.2.bd; omega]
      rw [this], rfl, rfl, rfl⟩ (fun k env hk hi => by
      obtain ⟨s4, s5, s6, rfl, h4, h5, h6⟩ := hi
      obtain ⟨hh, ehh⟩ : ∃ hh : Nat, hh = l.length - k := ⟨_, rfl⟩
      have csd : ((l.length : Int) - (0 + (k : Int))) = (hh : Int) := by omega
      have csd' : ((l.length : Int) - (k : Int)) = (hh : Int) := by omega
      have ix := idx_dF (l := l) (x := (hh : Int)) (by omega) (by omega)
      rw [Int.toNat_natCast] at ix
      have key : ∀ i, i ≠ hh → pB (l.length - k < i ∧ Alv a b l i) = pB (l.length - (k + 1) < i ∧ Alv a b l i) := fun i hi => pB_congr ⟨fun z => ⟨by omega, z.2⟩, fun z => ⟨by omega, z.2⟩⟩
      have ixs : ixN (l.length + 1) (hh : Int) = some hh := by rw [ixN_nn (by omega) (by omega), Int.toNat_natCast]
      by_cases hd : dF l hh = true
      · rw [hd] at ix
        by_cases he : (l.length : Int) < hh + b
        · have hs : (flD (l.length + 1) fun h => pB (l.length - k < h ∧ Alv a b l h)).set hh (.bl true) = flD (l.length + 1) fun h => pB (l.length - (k + 1) < h ∧ Alv a b l h) := by
            rw [fl_set]
            refine fl_congr fun i _ => ?_
            by_cases hi : i = hh
            · rw [if_pos hi, hi]; exact (pB_t ⟨by omega, .fin hd he⟩).symm
            · rw [if_neg hi]; exact key i hi
          refine ⟨_, _, by simp only [q_tgn, setOk_lo]; simp [h4]; rfl, .inl ?_, .shr (.int (0 + (k : Int))), .shr (.int (hh : Int)), s6, rfl, rfl, rfl, h6⟩
          rw [← hs]
          simp [s_law_live_b2, setOk_lo, h5, csd', ix, e4, he, lput, ixs]
        · -- the steps
          obtain ⟨e', g2, s6', rfl, h6'⟩ := loop_rng (tg := .nm 6) (body := s_law_live_b1) a (b + 1 - a).toNat
            (fun m e => ∃ s6, e = [.shr S, .shr (.str (sgS l)), .shr (.int l.length), .own (.lst (flD (l.length + 1) fun h => pB ((l.length - k < h ∧ Alv a b l h) ∨ (h = hh ∧ ∃ m' : Nat, m' < m ∧ ∃ i : Nat, (i : Int) = hh + (a + m') ∧ Alv a b l i)))), .shr (.int (0 + (k : Int))), .shr (.int (hh : Int)), s6, .no] ∧ loB s6 = true)
            [.shr S, .shr (.str (sgS l)), .shr (.int l.length), .own (.lst (flD (l.length + 1) fun h => pB (l.length - k < h ∧ Alv a b l h))), .shr (.int (0 + (k : Int))), .shr (.int (hh : Int)), s6, .no] ⟨s6, by
              have : (flD (l.length + 1) fun h => pB (l.length - k < h ∧ Alv a b l h)) = flD (l.length + 1) fun h => pB ((l.length - k < h ∧ Alv a b l h) ∨ (h = hh ∧ ∃ m' : Nat, m' < 0 ∧ ∃ i : Nat, (i : Int) = hh + (a + m') ∧ Alv a b l i)) := fl_congr fun h _ => pB_congr ⟨.inl, fun z => z.elim id fun z => by obtain ⟨_, m', hm, _⟩ := z; omega⟩
              rw [this], h6⟩ (fun m env hm hi => by
              obtain ⟨s6, rfl, h6⟩ := hi
              obtain ⟨ii, eii⟩ : ∃ ii : Nat, (ii : Int) = hh + (a + m) := ⟨((hh : Int) + (a + m)).toNat, by omega⟩
              have fx := fl_idxN (n := l.length + 1) (i := ii) (f := fun h => pB ((l.length - k < h ∧ Alv a b l h) ∨ (h = hh ∧ ∃ m' : Nat, m' < m ∧ ∃ i : Nat, (i : Int) = hh + (a + m') ∧ Alv a b l i))) (by omega)
              rw [eii] at fx
              have ge : pB ((l.length - k < ii ∧ Alv a b l ii) ∨ (ii = hh ∧ ∃ m' : Nat, m' < m ∧ ∃ i : Nat, (i : Int) = hh + (a + m') ∧ Alv a b l i)) = pB (Alv a b l ii) := pB_congr ⟨fun z => z.elim (fun z => z.2) fun z => by omega, fun z => .inl ⟨by omega, z⟩⟩
              rw [ge] at fx
              refine ⟨[.shr S, .shr (.str (sgS l)), .shr (.int l.length), .own (.lst (flD (l.length + 1) fun h => pB ((l.length - k < h ∧ Alv a b l h) ∨ (h = hh ∧ ∃ m' : Nat, m' < m ∧ ∃ i : Nat, (i : Int) = hh + (a + m') ∧ Alv a b l i)))), .shr (.int (0 + (k : Int))), .shr (.int (hh : Int)), .shr (.int (a + m)), .no], _, by simp [setOk_lo, h6], .inl ?_, .shr (.int (a + m)), rfl, rfl⟩
              by_cases ha : Alv a b l ii
              · rw [pB_t ha] at fx
                have hs : (flD (l.length + 1) fun h => pB ((l.length - k < h ∧ Alv a b l h) ∨ (h = hh ∧ ∃ m' : Nat, m' < m ∧ ∃ i : Nat, (i : Int) = hh + (a + m') ∧ Alv a b l i))).set hh (.bl true) = flD (l.length + 1) fun h => pB ((l.length - k < h ∧ Alv a b l h) ∨ (h = hh ∧ ∃ m' : Nat, m' < m + 1 ∧ ∃ i : Nat, (i : Int) = hh + (a + m') ∧ Alv a b l i)) := by
                  rw [fl_set]
                  refine fl_congr fun i _ => ?_
                  by_cases hi : i = hh
                  · rw [if_pos hi, pB_t (.inr ⟨hi, m, by omega, ii, eii, ha⟩)]
                  · rw [if_neg hi]
                    exact pB_congr ⟨fun z => z.elim .inl fun z => absurd z.1 hi, fun z => z.elim .inl fun z => absurd z.1 hi⟩
                rw [← hs]
                simp [s_law_live_b1, fx, lput, ixs]
              · rw [pB_f ha] at fx
                have hs : (flD (l.length + 1) fun h => pB ((l.length - k < h ∧ Alv a b l h) ∨ (h = hh ∧ ∃ m' : Nat, m' < m ∧ ∃ i : Nat, (i : Int) = hh + (a + m') ∧ Alv a b l i))) = flD (l.length + 1) fun h => pB ((l.length - k < h ∧ Alv a b l h) ∨ (h = hh ∧ ∃ m' : Nat, m' < m + 1 ∧ ∃ i : Nat, (i : Int) = hh + (a + m') ∧ Alv a b l i)) := fl_congr fun i _ => pB_congr ⟨fun z => z.elim .inl fun ⟨z1, m', z2, z3⟩ => .inr ⟨z1, m', by omega, z3⟩, fun z => z.elim .inl fun ⟨z1, m', z2, i2, z3, z4⟩ => .inr ⟨z1, m', by
                    by_cases e : m' = m
                    · subst e
                      have : i2 = ii := by omega
                      subst this
                      exact absurd z4 ha
                    · omega, i2, z3, z4⟩⟩
                rw [← hs]
                simp [s_law_live_b1, fx])
          have hs : (flD (l.length + 1) fun h => pB ((l.length - k < h ∧ Alv a b l h) ∨ (h = hh ∧ ∃ m' : Nat, m' < (b + 1 - a).toNat ∧ ∃ i : Nat, (i : Int) = hh + (a + m') ∧ Alv a b l i))) = flD (l.length + 1) fun h => pB (l.length - (k + 1) < h ∧ Alv a b l h) := fl_congr fun i _ => by
            by_cases hi : i = hh
            · subst hi
              refine pB_congr ⟨fun z => z.elim (fun z => by omega) fun ⟨_, m', z2, i2, z3, z4⟩ => ⟨by omega, .step hd z4 (by omega) (by omega)⟩, fun z => ?_⟩
              rcases (Alv.iff.mp z.2).2 with y | ⟨i2, y1, y2, y3⟩
              · exact absurd y he
              · exact .inr ⟨rfl, ((i2 : Int) - i - a).toNat, by omega, i2, by omega, y1⟩
            · rw [← key i hi]
              exact pB_congr ⟨fun z => z.elim id fun z => absurd z.1 hi, .inl⟩
          rw [hs] at g2
          refine ⟨_, _, by simp only [q_tgn, setOk_lo]; simp [h4]; rfl, .inl ?_, .shr (.int (0 + (k : Int))), .shr (.int (hh : Int)), s6', rfl, rfl, rfl, h6'⟩
          simp only [Int.zero_add] at g2
          subst hS
          simp [s_law_live_b2, setOk_lo, h5, csd', ix, e4, he, g2]
      · have hd' : dF l hh = false := by simpa using hd
        rw [hd'] at ix
        have hs : (flD (l.length + 1) fun h => pB (l.length - k < h ∧ Alv a b l h)) = flD (l.length + 1) fun h => pB (l.length - (k + 1) < h ∧ Alv a b l h) := fl_congr fun i _ => by
          by_cases hi : i = hh
          · subst hi
            rw [pB_f fun z => by omega, pB_f fun z => hd z.2.dry]
          · exact key i hi
        refine ⟨_, _, by simp only [q_tgn, setOk_lo]; simp [h4]; rfl, .inl ?_, .shr (.int (0 + (k : Int))), .shr (.int (hh : Int)), s6, rfl, rfl, rfl, h6⟩
        rw [← hs]
        simp [s_law_live_b2, setOk_lo, h5, csd', ix])
  have fin : (flD (l.length + 1) fun h => pB (l.length - l.length < h ∧ Alv a b l h)) = flD (l.length + 1) fun h => pB (Alv a b l h) := fl_congr fun i _ => pB_congr ⟨fun z => z.2, fun z => ⟨by have := z.bd; omega, z⟩⟩
  rw [fin] at g1
  simp [s_law_live, t2, r1, r2, c, setOk_lo, g1]
/-! ### keepings -/
structure Keep (a b : Int) (l : List Bool) (H : List Int) : Prop where
  hd : 0 < H.length ∧ gI H 0 = 1
  st : ∀ k, k < H.length → 0 < k → gI H (k - 1) + a ≤ gI H k ∧ gI H k ≤ gI H (k - 1) + b
  inn : ∀ k, k < H.length → 0 < k → gI H k ≤ l.length ∧ dF l (gI H k).toNat = true
  last : (l.length : Int) < lI H + b
theorem contains_ok {a b x : Int} : s_Lacquer__contains [.shr (lacD a b), .shr (.int x)] = .ok (.shr (.bl (decide (a ≤ x) && decide (x ≤ b)))) [.no, .no] := by
  by_cases h : a ≤ x
  · simp [s_Lacquer__contains, h]
  · simp [s_Lacquer__contains, h]
@[simp] theorem lac_ins {a b : Int} : isIns "Lacquer" (some (lacD a b)) = true := by simp [isIns, lacD]
theorem eqD_nil {H : List Int} : eqD (.lst (H.map D.int)) (.lst []) = some (.bl H.isEmpty) := by
  have e : eqAble (.lst (H.map D.int)) = true := by simp [eqAble, eqAbles_int]
  have e0 : eqAble (.lst []) = true := by simp [eqAble, eqAbles]
  have s1 := shaped_ints H
  have s0 : SeqAt.shaped (toPy (.lst [])) = true := shaped_ints []
  unfold eqD eqq
  rw [e, e0, s1, s0]
  cases H with
  | nil => simp [toPy, PyData.eqv, PyData.eqvAll]
  | cons x H => simp [toPy, PyData.eqv, PyData.eqvAll]
theorem is_keeping_ok {a b : Int} {l : List Bool} {H : List Int} (h0 : 1 ≤ a) (h1 : a < b) (h2 : b ≤ 1000) (sk : Sky l) (hl : H.length < 100000) : s_is_keeping [.shr (lacD a b), .shr (wD l), .shr (.lst (H.map .int))] = .ok (.shr (.bl (pB (Keep a b l H)))) [.no, .no, .no] := by
  have ll := sk.le
  by_cases hp : 0 < H.length
  case neg =>
    have e : H = [] := List.eq_nil_of_length_eq_zero (by omega)
    subst e
    rw [pB_f fun z => by have := z.hd.1; simp at this]
    have := eqD_nil (H := [])
    simp at this
    simp [s_is_keeping, lstL, this]
  have em : H.isEmpty = false := by cases H with | nil => simp at hp | cons => rfl
  have eq := eqD_nil (H := H)
  rw [em] at eq
  have i0 := idxN (k := 0) hp
  simp only [Int.natCast_zero] at i0
  by_cases m1 : gI H 0 = 1
  case neg =>
    rw [pB_f fun z => m1 z.hd.2]
    have m1' : (gI H 0 == 1) = false := beq_eq_false_iff_ne.mpr m1
    simp [s_is_keeping, lstL, eq, i0, m1']
  have e1 := dry_flags_ok (l := l) (by omega)
  have r1 := rng2_a (i := 1) (j := (H.length : Int)) (by omega) (by omega) (by omega) (by omega)
  rw [show ((H.length : Int) - 1).toNat = H.length - 1 by omega] at r1
  have L1 := loop_chkR (tg := .nm 4) (body := s_is_keeping_b1) 1 (H.length - 1) (fun j => (gI H j + a ≤ gI H (j + 1) ∧ gI H (j + 1) ≤ gI H j + b) ∧ gI H (j + 1) ≤ l.length ∧ dF l (gI H (j + 1)).toNat = true) (.shr (.bl false))
    (fun k e => ∃ s4, e = [.shr (lacD a b), .shr (wD l), .shr (.lst (H.map .int)), .own (.lst (flD (l.length + 1) (dF l))), s4] ∧ loB s4 = true ∧ 1 ≤ gI H k)
    (fun e => ∃ s3 s4, e = [.shr (lacD a b), .shr (wD l), .shr (.lst (H.map .int)), s3, s4])
    [.shr (lacD a b), .shr (wD l), .shr (.lst (H.map .int)), .own (.lst (flD (l.length + 1) (dF l))), .no] ⟨.no, rfl, rfl, by omega⟩ (fun j env hj hi => by
      obtain ⟨s4, rfl, h4, hg⟩ := hi
      have csd : (1 + (j : Int)) = ((j + 1 : Nat) : Int) := by omega
      rw [csd]
      have i1 := idxN (H := H) (k := j + 1) (by omega)
      have i2 := idxP (H := H) (k := j + 1) (by omega) (by omega)
      rw [Nat.add_sub_cancel] at i2
      generalize hK : ((j + 1 : Nat) : Int) = K at *
      refine ⟨[.shr (lacD a b), .shr (wD l), .shr (.lst (H.map .int)), .own (.lst (flD (l.length + 1) (dF l))), .shr (.int K)], by simp [setOk_lo, h4], ?_⟩
      have ct := contains_ok (a := a) (b := b) (x := gI H (j + 1) - gI H j)
      by_cases c1 : gI H j + a ≤ gI H (j + 1) ∧ gI H (j + 1) ≤ gI H j + b
      case neg =>
        have cf : (decide (a ≤ gI H (j + 1) - gI H j) && decide (gI H (j + 1) - gI H j ≤ b)) = false := by
          cases h : (decide (a ≤ gI H (j + 1) - gI H j) && decide (gI H (j + 1) - gI H j ≤ b)) with
          | false => rfl
          | true => simp at h; exact absurd (by omega) c1
        rw [cf] at ct
        exact .inr ⟨fun z => c1 z.1, [.shr (lacD a b), .shr (wD l), .shr (.lst (H.map .int)), .own (.lst (flD (l.length + 1) (dF l))), .shr (.int K)], by simp [s_is_keeping_b1, i1, i2, ct], _, _, rfl⟩
      have cf : (decide (a ≤ gI H (j + 1) - gI H j) && decide (gI H (j + 1) - gI H j ≤ b)) = true := by
        rw [decide_eq_true (by omega), decide_eq_true (by omega)]; rfl
      rw [cf] at ct
      by_cases c2 : gI H (j + 1) ≤ l.length
      case neg =>
        have c2' : (l.length : Int) < gI H (j + 1) := by omega
        exact .inr ⟨fun z => c2 z.2.1, [.shr (lacD a b), .shr (wD l), .shr (.lst (H.map .int)), .own (.lst (flD (l.length + 1) (dF l))), .shr (.int K)], by simp [s_is_keeping_b1, i1, i2, ct, hours_ok sk, c2'], _, _, rfl⟩
      have c2' : ¬ (l.length : Int) < gI H (j + 1) := by omega
      have dx := fl_idx (n := l.length + 1) (f := dF l) (x := gI H (j + 1)) (by omega) (by omega)
      cases c3 : dF l (gI H (j + 1)).toNat with
      | false =>
        rw [c3] at dx
        exact .inr ⟨fun z => (by have := z.2.2; cases this), [.shr (lacD a b), .shr (wD l), .shr (.lst (H.map .int)), .own (.lst (flD (l.length + 1) (dF l))), .shr (.int K)], by simp [s_is_keeping_b1, i1, i2, ct, hours_ok sk, c2', dx], _, _, rfl⟩
      | true =>
        rw [c3] at dx
        exact .inl ⟨⟨c1, c2, rfl⟩, [.shr (lacD a b), .shr (wD l), .shr (.lst (H.map .int)), .own (.lst (flD (l.length + 1) (dF l))), .shr (.int K)], .inl (by simp [s_is_keeping_b1, i1, i2, ct, hours_ok sk, c2', dx]), .shr (.int K), rfl, rfl, by omega⟩)
  rcases L1 with ⟨C1, env', g1, s4, rfl, h4, _⟩ | ⟨⟨k, hk, C1⟩, env', g1, s3, s4, rfl⟩
  case inr =>
    rw [pB_f fun z => C1 ⟨by have := z.st (k + 1) (by omega) (by omega); rwa [Nat.add_sub_cancel] at this, z.inn (k + 1) (by omega) (by omega)⟩]
    simp [s_is_keeping, lstL, eq, i0, m1, signs_ok sk, e1, setOk_lo, r1, g1]
  have key : Keep a b l H ↔ (l.length : Int) < lI H + b := by
    refine ⟨fun z => z.last, fun z => ⟨⟨hp, m1⟩, fun k hk hk0 => ?_, fun k hk hk0 => ?_, z⟩⟩
    · have := (C1 (k - 1) (by omega)).1
      rwa [show k - 1 + 1 = k by omega] at this
    · have := (C1 (k - 1) (by omega)).2
      rwa [show k - 1 + 1 = k by omega] at this
  have hl2 := idxL hp
  rw [pB_congr key, ← pB_dec]
  simp [s_is_keeping, lstL, eq, i0, m1, signs_ok sk, e1, setOk_lo, r1, g1, hl2, hours_ok sk]
theorem int_okD {x : Int} : s_law_int [.shr (.int x)] = .ok (.shr (.bl true)) [.no] := int_ok
theorem law_keeping_ok {a b : Int} {l : List Bool} {H : List Int} (h0 : 1 ≤ a) (h1 : a < b) (h2 : b ≤ 1000) (hd0 : l[0]? = some true) (ll : l.length ≤ 2000) (hl : H.length < 100000) : s_law_keeping [.shr (.lst (rngL a (b + 1 - a).toNat)), .shr (.str (sgS l)), .shr (.lst (H.map .int))] = .ok (.shr (.bl (pB (Keep a b l H)))) [.no, .no, .no] := by
  have lp : 1 ≤ l.length := by cases l with | nil => simp at hd0 | cons => simp
  have t2 := len_sg (l := l) (by omega)
  have e4 := stp_last h1
  by_cases hp : 0 < H.length
  case neg =>
    have e : H = [] := List.eq_nil_of_length_eq_zero (by omega)
    subst e
    rw [pB_f fun z => by have := z.hd.1; simp at this]
    simp [s_law_keeping]
  have hz : ((H.length : Int) == 0) = false := beq_eq_false_iff_ne.mpr (by omega)
  have i0 := idxN (k := 0) hp
  simp only [Int.natCast_zero] at i0
  by_cases m1 : gI H 0 = 1
  case neg =>
    rw [pB_f fun z => m1 z.hd.2]
    have m1' : (gI H 0 == 1) = false := beq_eq_false_iff_ne.mpr m1
    simp [s_law_keeping, hz, i0, m1']
  have r1 := rng1_a (i := (H.length : Int)) (by omega) (by omega)
  rw [Int.toNat_natCast] at r1
  have d1 : dF l 1 = true := by rw [dF_succ, List.getD_eq_getElem?_getD, hd0]; rfl
  have ni : ∀ x : Int, notInD (.int x) (.lst (rngL a (b + 1 - a).toNat)) = some (.bl (!(decide (a ≤ x) && decide (x ≤ b)))) := fun x => by
    rw [rng_I, notInD_int]
    congr 3
    rw [← Bool.decide_and]
    refine decide_eq_decide.mpr ?_
    rw [mem_rngI]
    omega
  have L1 := loop_chkR (tg := .nm 3) (body := s_law_keeping_b1) 0 H.length (fun j => (0 < j → gI H (j - 1) + a ≤ gI H j ∧ gI H j ≤ gI H (j - 1) + b) ∧ gI H j ≤ l.length ∧ dF l (gI H j).toNat = true) (.shr (.bl false))
    (fun k e => ∃ s3, e = [.shr (.lst (rngL a (b + 1 - a).toNat)), .shr (.str (sgS l)), .shr (.lst (H.map .int)), s3] ∧ loB s3 = true ∧ (0 < k → 1 ≤ gI H (k - 1)))
    (fun e => ∃ s3, e = [.shr (.lst (rngL a (b + 1 - a).toNat)), .shr (.str (sgS l)), .shr (.lst (H.map .int)), s3])
    [.shr (.lst (rngL a (b + 1 - a).toNat)), .shr (.str (sgS l)), .shr (.lst (H.map .int)), .no] ⟨.no, rfl, rfl, by omega⟩ (fun j env hj hi => by
      obtain ⟨s3, rfl, h3, hg⟩ := hi
      rw [Int.zero_add]
      refine ⟨[.shr (.lst (rngL a (b + 1 - a).toNat)), .shr (.str (sgS l)), .shr (.lst (H.map .int)), .shr (.int j)], by simp [setOk_lo, h3], ?_⟩
      have i1 := idxN hj
      by_cases c1 : 1 ≤ gI H j
      case neg =>
        have c1' : gI H j < 1 := by omega
        refine .inr ⟨fun z => ?_, [.shr (.lst (rngL a (b + 1 - a).toNat)), .shr (.str (sgS l)), .shr (.lst (H.map .int)), .shr (.int j)], by simp [s_law_keeping_b1, i1, int_ok, c1'], _, rfl⟩
        by_cases j0 : 0 < j
        · have := z.1 j0; have := hg j0; omega
        · have : j = 0 := by omega
          subst this; omega
      have c1' : ¬ gI H j < 1 := by omega
      by_cases c2 : gI H j ≤ l.length
      case neg =>
        have c2' : (l.length : Int) < gI H j := by omega
        exact .inr ⟨fun z => c2 z.2.1, [.shr (.lst (rngL a (b + 1 - a).toNat)), .shr (.str (sgS l)), .shr (.lst (H.map .int)), .shr (.int j)], by simp [s_law_keeping_b1, i1, int_ok, c1', t2, c2'], _, rfl⟩
      have c2' : ¬ (l.length : Int) < gI H j := by omega
      have ix := idx_dF (l := l) (x := gI H j) c1 c2
      cases c4 : dF l (gI H j).toNat with
      | false =>
        rw [c4] at ix
        exact .inr ⟨fun z => (by have := z.2.2; cases this), [.shr (.lst (rngL a (b + 1 - a).toNat)), .shr (.str (sgS l)), .shr (.lst (H.map .int)), .shr (.int j)], by simp [s_law_keeping_b1, i1, int_ok, c1', t2, c2', ix], _, rfl⟩
      | true =>
        rw [c4] at ix
        by_cases j0 : 0 < j
        · have i2 := idxP hj j0
          by_cases c5 : gI H (j - 1) + a ≤ gI H j ∧ gI H j ≤ gI H (j - 1) + b
          · have n1 := ni (gI H j - gI H (j - 1))
            rw [decide_eq_true (by omega : a ≤ gI H j - gI H (j - 1)), decide_eq_true (by omega : gI H j - gI H (j - 1) ≤ b)] at n1
            exact .inl ⟨⟨fun _ => c5, c2, rfl⟩, [.shr (.lst (rngL a (b + 1 - a).toNat)), .shr (.str (sgS l)), .shr (.lst (H.map .int)), .shr (.int j)], .inl (by simp [s_law_keeping_b1, i1, int_ok, c1', t2, c2', ix, j0, i2, n1]), .shr (.int j), rfl, rfl, fun _ => by rw [Nat.add_sub_cancel]; exact c1⟩
          · have n1 := ni (gI H j - gI H (j - 1))
            have cf : (decide (a ≤ gI H j - gI H (j - 1)) && decide (gI H j - gI H (j - 1) ≤ b)) = false := by
              cases h : (decide (a ≤ gI H j - gI H (j - 1)) && decide (gI H j - gI H (j - 1) ≤ b)) with
              | false => rfl
              | true => simp at h; exact absurd (by omega) c5
            rw [cf] at n1
            exact .inr ⟨fun z => c5 (z.1 j0), [.shr (.lst (rngL a (b + 1 - a).toNat)), .shr (.str (sgS l)), .shr (.lst (H.map .int)), .shr (.int j)], by simp [s_law_keeping_b1, i1, int_ok, c1', t2, c2', ix, j0, i2, n1], _, rfl⟩
        · exact .inl ⟨⟨fun z => absurd z j0, c2, rfl⟩, [.shr (.lst (rngL a (b + 1 - a).toNat)), .shr (.str (sgS l)), .shr (.lst (H.map .int)), .shr (.int j)], .inl (by simp [s_law_keeping_b1, i1, int_ok, c1', t2, c2', ix, j0]), .shr (.int j), rfl, rfl, fun _ => by rw [Nat.add_sub_cancel]; exact c1⟩)
  rcases L1 with ⟨C1, env', g1, s3, rfl, h3, _⟩ | ⟨⟨k, hk, C1⟩, env', g1, s3, rfl⟩
  case inr =>
    rw [pB_f fun z => C1 ⟨fun k0 => z.st k hk k0, by
      by_cases k0 : 0 < k
      · exact z.inn k hk k0
      · have : k = 0 := by omega
        subst this
        rw [m1]
        exact ⟨by omega, d1⟩⟩]
    simp [s_law_keeping, hz, i0, m1, r1, g1]
  have key : Keep a b l H ↔ (l.length : Int) < lI H + b :=
    ⟨fun z => z.last, fun z => ⟨⟨hp, m1⟩, fun k hk hk0 => (C1 k hk).1 hk0, fun k hk hk0 => (C1 k hk).2, z⟩⟩
  have hl2 := idxL hp
  rw [pB_congr key, ← pB_dec]
  simp [s_law_keeping, hz, i0, m1, r1, g1, hl2, e4, t2]
/-! ### drawn weathers -/
theorem thick_ok {p : Pool} {h : Int} (h1 : 1 ≤ h) (h2 : h ≤ 2000) : ∃ (l : List Bool) (q : Pool), s_law_thick [.io (poolD p), .shr (.int h)] = .ok (.shr (.str (sgS l))) [.io (poolD q), .no] ∧ l[0]? = some true ∧ (l.length : Int) = h := by
  have e0 := take_ok (p := p) (s := 3) (by omega) (by omega)
  have b0 := tv_b p (s := 3) (by omega)
  have r := rng1_a (i := h - 1) (by omega) (by omega)
  obtain ⟨e', g1, q, l, s4, rfl, h0, hl, _⟩ := loop_rng (tg := .nm 4) (body := s_law_thick_b1) 0 (h - 1).toNat
    (fun k e => ∃ (q : Pool) (l : List Bool) (s4 : Sl), e = [.io (poolD q), .shr (.int h), .shr (.int (2 + tv p 3)), .shr (.str (sgS l)), s4] ∧ l[0]? = some true ∧ l.length = k + 1 ∧ loB s4 = true)
    [.io (poolD (tp p 3)), .shr (.int h), .shr (.int (2 + tv p 3)), .shr (.str (sgS [true])), .no] ⟨_, [true], .no, rfl, rfl, rfl, rfl⟩ (fun j env hj hi => by
      obtain ⟨q, l, s4, rfl, h0, hl, h4⟩ := hi
      have e1 := take_ok (p := q) (s := 2 + tv p 3) (by omega) (by omega)
      have ad := fun b => addD_sg (l := l) (m := [b]) (by simp; omega)
      by_cases c : tv q (2 + tv p 3) = 0
      · exact ⟨_, [.io (poolD (tp q (2 + tv p 3))), .shr (.int h), .shr (.int (2 + tv p 3)), .shr (.str (sgS (l ++ [true]))), .shr (.int (0 + (j : Int)))], by simp only [q_tgn, setOk_lo]; simp [h4]; rfl, .inl (by simp [s_law_thick_b1, e1, c, ad, setOk_lo]), _, _, _, rfl, by rw [List.getElem?_append_left (by omega)]; exact h0, by simp [hl], rfl⟩
      · have c' : (tv q (2 + tv p 3) == 0) = false := beq_eq_false_iff_ne.mpr c
        exact ⟨_, [.io (poolD (tp q (2 + tv p 3))), .shr (.int h), .shr (.int (2 + tv p 3)), .shr (.str (sgS (l ++ [false]))), .shr (.int (0 + (j : Int)))], by simp only [q_tgn, setOk_lo]; simp [h4]; rfl, .inl (by simp [s_law_thick_b1, e1, c', ad, setOk_lo]), _, _, _, rfl, by rw [List.getElem?_append_left (by omega)]; exact h0, by simp [hl], rfl⟩)
  refine ⟨l, q, ?_, h0, by omega⟩
  generalize (h - 1).toNat = N at *
  simp [s_law_thick, e0, setOk_lo, r, g1]
end PL

/-! Pl37: weathers drawn around a row, keepings drawn. -/
namespace PL
open PySem L2
/-- a loop that may break -/
theorem loop_rngB {tg : Tg} {body : S} (lo : Int) (I : Nat → List Sl → Prop) (Q : List Sl → Prop) (n : Nat) (hQ : ∀ env, I n env → Q env)
    (st : ∀ j env, j < n → I j env → ∃ e e2, tgS tg (.int (lo + j)) env = some e ∧ (((body e = .nx e2 ∨ body e = .ct e2) ∧ I (j + 1) e2) ∨ (body e = .bk e2 ∧ Q e2))) :
    ∀ (m k : Nat) (env : List Sl), k + m = n → I k env → ∃ env', loopS tg body (rngL (lo + k) m) env = .nx env' ∧ Q env'
  | 0, k, env, h, hi => ⟨env, by unfold rngL loopS; rfl, hQ env (by rw [← h]; exact hi)⟩
  | m + 1, k, env, h, hi => by
    obtain ⟨e, e2, h1, h2 | ⟨h2, h3⟩⟩ := st k env (by omega) hi
    · obtain ⟨env', g1, g2⟩ := loop_rngB lo I Q n hQ st m (k + 1) e2 (by omega) h2.2
      refine ⟨env', ?_, g2⟩
      rw [rngL_cons]
      unfold loopS
      rw [h1]
      have ec : lo + (k : Int) + 1 = lo + ((k + 1 : Nat) : Int) := by omega
      rcases h2.1 with z | z <;> simp only [z] <;> rw [ec, g1]
    · refine ⟨e2, ?_, h3⟩
      rw [rngL_cons]
      unfold loopS
      simp only [h1, h2]
/-- a loop that may return -/
theorem loop_rngR {tg : Tg} {body : S} (lo : Int) (I : Nat → List Sl → Prop) (J : Sl → List Sl → Prop) (n : Nat)
    (st : ∀ j env, j < n → I j env → ∃ e e2, tgS tg (.int (lo + j)) env = some e ∧ (((body e = .nx e2 ∨ body e = .ct e2) ∧ I (j + 1) e2) ∨ ∃ r, body e = .rt r e2 ∧ J r e2)) :
    ∀ (m k : Nat) (env : List Sl), k + m = n → I k env → (∃ env', loopS tg body (rngL (lo + k) m) env = .nx env' ∧ I n env') ∨ ∃ r env', loopS tg body (rngL (lo + k) m) env = .rt r env' ∧ J r env'
  | 0, k, env, h, hi => .inl ⟨env, by unfold rngL loopS; rfl, by rw [← h]; exact hi⟩
  | m + 1, k, env, h, hi => by
    obtain ⟨e, e2, h1, h2 | ⟨r, h2, h3⟩⟩ := st k env (by omega) hi
    · have ih := loop_rngR lo I J n st m (k + 1) e2 (by omega) h2.2
      have ec : lo + (k : Int) + 1 = lo + ((k + 1 : Nat) : Int) := by omega
      have step : loopS tg body (rngL (lo + k) (m + 1)) env = loopS tg body (rngL (lo + ((k + 1 : Nat) : Int)) m) e2 := by
        rw [rngL_cons]
        conv => lhs; unfold loopS
        rw [h1]
        rcases h2.1 with z | z <;> simp only [z] <;> rw [ec]
      rw [step]
      exact ih
    · refine .inr ⟨r, e2, ?_, h3⟩
      rw [rngL_cons]
      unfold loopS
      simp only [h1, h2]
/-- the hours that may come behind x -/
def aftI (a b x h : Int) : List Int := ((rngI' a (b + 1 - a).toNat).filter fun s => decide (x + s ≤ h)).map fun s => x + s
theorem mem_aftI {a b x h y : Int} (hab : a < b) : y ∈ aftI a b x h ↔ x + a ≤ y ∧ y ≤ x + b ∧ y ≤ h := by
  unfold aftI
  rw [List.mem_map]
  constructor
  · rintro ⟨s, hs, rfl⟩
    obtain ⟨h1, h2⟩ := List.mem_filter.mp hs
    have := mem_rngI.mp h1
    have h3 : x + s ≤ h := by simpa using h2
    omega
  · rintro ⟨h1, h2, h3⟩
    exact ⟨y - x, List.mem_filter.mpr ⟨mem_rngI.mpr (by omega), by simp; omega⟩, by omega⟩
theorem aftI_len {a b x h : Int} (hb : b ≤ 1000) (ha : 0 ≤ a) : (aftI a b x h).length ≤ 1001 := by
  unfold aftI
  rw [List.length_map]
  have := List.length_filter_le (fun s => decide (x + s ≤ h)) (rngI' a (b + 1 - a).toNat)
  rw [rngI_len] at this
  omega
theorem around_ok {p : Pool} {a b h : Int} (h0 : 1 ≤ a) (hab : a < b) (hb : b ≤ 1000) (h1 : 1 ≤ h) (h2 : h ≤ 2000) : ∃ (l : List Bool) (q : Pool), s_law_around [.io (poolD p), .shr (.lst (rngL a (b + 1 - a).toNat)), .shr (.int h)] = .ok (.shr (.str (sgS l))) [.io (poolD q), .no, .no] ∧ l[0]? = some true ∧ (l.length : Int) = h := by
  have e4 := stp_last hab
  have r := rng1_a (i := h) (by omega) (by omega)
  have r2 := rng2_a (i := 1) (j := h + 1) (by omega) (by omega) (by omega) (by omega)
  rw [show (h + 1 - 1).toNat = h.toNat by omega] at r2
  obtain ⟨e', g1, R, q, s4, s5, rfl, hR1, hR2, _, _⟩ := loop_rngB (tg := .nm 4) (body := s_law_around_b3) 0
    (fun k e => ∃ (R : List Int) (q : Pool) (s4 s5 : Sl), e = [.io (poolD q), .shr (.lst (rngL a (b + 1 - a).toNat)), .shr (.int h), .own (.lst (R.map .int)), s4, s5, .no, .no, .no, .no] ∧ (1 : Int) ∈ R ∧ R.length ≤ k + 1 ∧ loB s4 = true ∧ loB s5 = true)
    (fun e => ∃ (R : List Int) (q : Pool) (s4 s5 : Sl), e = [.io (poolD q), .shr (.lst (rngL a (b + 1 - a).toNat)), .shr (.int h), .own (.lst (R.map .int)), s4, s5, .no, .no, .no, .no] ∧ (1 : Int) ∈ R ∧ R.length ≤ 3000 ∧ loB s4 = true ∧ loB s5 = true)
    h.toNat (fun env ⟨R, q, s4, s5, e1, e2, e3, e4, e5⟩ => ⟨R, q, s4, s5, e1, e2, by omega, e4, e5⟩) (fun j env hj hi => by
      obtain ⟨R, q, s4, s5, rfl, hR1, hR2, h4, h5⟩ := hi
      have Rp := List.length_pos_of_mem hR1
      have il := idxL Rp
      have c := lcL_sel (tg := .nm 9) (vs := [9]) (test := s_law_around_t1) (elt := s_law_around_e2) (env0 := [.io (poolD q), .shr (.lst (rngL a (b + 1 - a).toNat)), .shr (.int h), .own (.lst (R.map .int)), .shr (.int (j : Int)), s5, .no, .no, .no, .no]) D.int (fun s => D.int (lI R + s)) (fun s => decide (lI R + s ≤ h)) (rngI' a (b + 1 - a).toNat) 0 (by rw [rngI_len]; omega) (fun s _ =>
        ⟨[.io (poolD q), .shr (.lst (rngL a (b + 1 - a).toNat)), .shr (.int h), .own (.lst (R.map .int)), .shr (.int (j : Int)), s5, .no, .no, .no, .shr (.int s)], [.io (poolD q), .shr (.lst (rngL a (b + 1 - a).toNat)), .shr (.int h), .own (.lst (R.map .int)), .shr (.int (j : Int)), s5, .no, .no, .no, .shr (.int s)], by simp [setOk_lo], by simp [s_law_around_t1, il], by simp, by simp, fun _ => ⟨[.io (poolD q), .shr (.lst (rngL a (b + 1 - a).toNat)), .shr (.int h), .own (.lst (R.map .int)), .shr (.int (j : Int)), s5, .no, .no, .no, .shr (.int s)], by simp [s_law_around_e2, il], by simp, by simp⟩⟩)
      have cA : ((rngI' a (b + 1 - a).toNat).filter fun s => decide (lI R + s ≤ h)).map (fun s => D.int (lI R + s)) = (aftI a b (lI R) h).map D.int := by unfold aftI; rw [List.map_map]; rfl
      rw [cA, ← rng_I] at c
      have al := aftI_len (x := lI R) (h := h) hb (by omega : 0 ≤ a)
      generalize aftI a b (lI R) h = A at *
      by_cases c0 : A.length = 0
      · have eA : A = [] := List.eq_nil_of_length_eq_zero c0
        subst eA
        exact ⟨_, [.io (poolD q), .shr (.lst (rngL a (b + 1 - a).toNat)), .shr (.int h), .own (.lst (R.map .int)), .shr (.int (j : Int)), .own (.lst []), .no, .no, .no, .no], by simp only [q_tgn, setOk_lo]; simp [h4]; rfl, .inr ⟨by simp at c; simp [s_law_around_b3, c, setOk_lo, h5], R, q, _, _, rfl, hR1, by omega, rfl, rfl⟩⟩
      · have c0' : ((A.length : Int) == 0) = false := beq_eq_false_iff_ne.mpr (by omega)
        have fin : ∀ q2 : Pool, ∃ x : Int, (mtS appD 3 [bin idx (.nm 5) (.ex (fz (callIO 0 s_law_take [(.ex (fz (blt lenL [(.nm 5)])))])))]) [.io (poolD q2), .shr (.lst (rngL a (b + 1 - a).toNat)), .shr (.int h), .own (.lst (R.map .int)), .shr (.int (j : Int)), .own (.lst (A.map .int)), .no, .no, .no, .no] = .nx [.io (poolD (tp q2 A.length)), .shr (.lst (rngL a (b + 1 - a).toNat)), .shr (.int h), .own (.lst ((R ++ [x]).map .int)), .shr (.int (j : Int)), .own (.lst (A.map .int)), .no, .no, .no, .no] := fun q2 => by
          have e1 := take_ok (p := q2) (s := A.length) (by omega) (by omega)
          have b1 := tv_b q2 (s := A.length) (by omega)
          have ix := idxI (H := A) (x := tv q2 A.length) b1.1 b1.2
          have ap := app_ints (X := R) (x := gI A (tv q2 A.length).toNat) (by omega)
          exact ⟨gI A (tv q2 A.length).toNat, by simp [e1, ix, ap, -List.map_append]⟩
        by_cases c1 : h < lI R + b
        · have e3 := take_ok (p := q) (s := 3) (by omega) (by omega)
          by_cases c2 : tv q 3 = 0
          · exact ⟨_, [.io (poolD (tp q 3)), .shr (.lst (rngL a (b + 1 - a).toNat)), .shr (.int h), .own (.lst (R.map .int)), .shr (.int (j : Int)), .own (.lst (A.map .int)), .no, .no, .no, .no], by simp only [q_tgn, setOk_lo]; simp [h4]; rfl, .inr ⟨by simp [s_law_around_b3, c, setOk_lo, h5, c0', il, e4, c1, e3, c2], R, _, _, _, rfl, hR1, by omega, rfl, rfl⟩⟩
          · have c2' : (tv q 3 == 0) = false := beq_eq_false_iff_ne.mpr c2
            obtain ⟨x, fx⟩ := fin (tp q 3)
            exact ⟨_, [.io (poolD (tp (tp q 3) A.length)), .shr (.lst (rngL a (b + 1 - a).toNat)), .shr (.int h), .own (.lst ((R ++ [x]).map .int)), .shr (.int (j : Int)), .own (.lst (A.map .int)), .no, .no, .no, .no], by simp only [q_tgn, setOk_lo]; simp [h4]; rfl, .inl ⟨.inl (by simp [s_law_around_b3, c, setOk_lo, h5, c0', il, e4, c1, e3, c2', -q_mtS, fx, -List.map_append]), _, _, _, _, rfl, List.mem_append.mpr (.inl hR1), by simp; omega, rfl, rfl⟩⟩
        · obtain ⟨x, fx⟩ := fin q
          exact ⟨_, [.io (poolD (tp q A.length)), .shr (.lst (rngL a (b + 1 - a).toNat)), .shr (.int h), .own (.lst ((R ++ [x]).map .int)), .shr (.int (j : Int)), .own (.lst (A.map .int)), .no, .no, .no, .no], by simp only [q_tgn, setOk_lo]; simp [h4]; rfl, .inl ⟨.inl (by simp [s_law_around_b3, c, setOk_lo, h5, c0', il, e4, c1, -q_mtS, fx, -List.map_append]), _, _, _, _, rfl, List.mem_append.mpr (.inl hR1), by simp; omega, rfl, rfl⟩⟩)
    h.toNat 0 [.io (poolD p), .shr (.lst (rngL a (b + 1 - a).toNat)), .shr (.int h), .own (.lst ([(1 : Int)].map .int)), .no, .no, .no, .no, .no, .no] (by omega) ⟨[1], p, .no, .no, rfl, by simp, by simp, rfl, rfl⟩
  simp only [Int.natCast_zero, Int.zero_add, List.map_cons, List.map_nil] at g1
  have e5 := take_ok (p := q) (s := 4) (by omega) (by omega)
  have b5 := tv_b q (s := 4) (by omega)
  have s0 : Str.ofString "" = sgS [] := by decide +kernel
  obtain ⟨e', g2, q2, l, s8, rfl, hl, hh, _⟩ := loop_rng (tg := .nm 8) (body := s_law_around_b4) 1 h.toNat
    (fun k e => ∃ (q2 : Pool) (l : List Bool) (s8 : Sl), e = [.io (poolD q2), .shr (.lst (rngL a (b + 1 - a).toNat)), .shr (.int h), .own (.lst (R.map .int)), s4, s5, .shr (.int (1 + tv q 4)), .shr (.str (sgS l)), s8, .no] ∧ l.length = k ∧ (1 ≤ k → l[0]? = some true) ∧ loB s8 = true)
    [.io (poolD (tp q 4)), .shr (.lst (rngL a (b + 1 - a).toNat)), .shr (.int h), .own (.lst (R.map .int)), s4, s5, .shr (.int (1 + tv q 4)), .shr (.str (sgS [])), .no, .no] ⟨_, [], .no, rfl, rfl, by omega, rfl⟩ (fun j env hj hi => by
      obtain ⟨q2, l, s8, rfl, hl, hh, h8⟩ := hi
      have e1 := take_ok (p := q2) (s := 1 + tv q 4) (by omega) (by omega)
      have ad := fun b => addD_sg (l := l) (m := [b]) (by simp; omega)
      have hd : ∀ b : Bool, (j = 0 → b = true) → 1 ≤ j + 1 → (l ++ [b])[0]? = some true := fun b hb _ => by
        by_cases j0 : j = 0
        · rw [hb j0]
          have : l = [] := List.eq_nil_of_length_eq_zero (by omega)
          rw [this]; rfl
        · rw [List.getElem?_append_left (by omega)]; exact hh (by omega)
      by_cases c : (1 + (j : Int)) ∈ R
      · exact ⟨_, [.io (poolD q2), .shr (.lst (rngL a (b + 1 - a).toNat)), .shr (.int h), .own (.lst (R.map .int)), s4, s5, .shr (.int (1 + tv q 4)), .shr (.str (sgS (l ++ [true]))), .shr (.int (1 + (j : Int))), .no], by simp only [q_tgn, setOk_lo]; simp [h8]; rfl, .inl (by simp [s_law_around_b4, c, ad, setOk_lo]), _, _, _, rfl, by simp [hl], hd true (fun _ => rfl), rfl⟩
      · have j0 : j ≠ 0 := fun z => c (by rw [z]; simpa using hR1)
        by_cases c2 : 0 < tv q2 (1 + tv q 4)
        · exact ⟨_, [.io (poolD (tp q2 (1 + tv q 4))), .shr (.lst (rngL a (b + 1 - a).toNat)), .shr (.int h), .own (.lst (R.map .int)), s4, s5, .shr (.int (1 + tv q 4)), .shr (.str (sgS (l ++ [true]))), .shr (.int (1 + (j : Int))), .no], by simp only [q_tgn, setOk_lo]; simp [h8]; rfl, .inl (by simp [s_law_around_b4, c, e1, c2, ad, setOk_lo]), _, _, _, rfl, by simp [hl], hd true (fun _ => rfl), rfl⟩
        · exact ⟨_, [.io (poolD (tp q2 (1 + tv q 4))), .shr (.lst (rngL a (b + 1 - a).toNat)), .shr (.int h), .own (.lst (R.map .int)), s4, s5, .shr (.int (1 + tv q 4)), .shr (.str (sgS (l ++ [false]))), .shr (.int (1 + (j : Int))), .no], by simp only [q_tgn, setOk_lo]; simp [h8]; rfl, .inl (by simp [s_law_around_b4, c, e1, c2, ad, setOk_lo]), _, _, _, rfl, by simp [hl], hd false (fun z => absurd z j0), rfl⟩)
  refine ⟨l, q2, ?_, hh (by omega), by omega⟩
  simp [s_law_around, lstL, r, g1, e5, setOk_lo, s0, r2, g2]
theorem filter_map_int (A : List Int) (f : Int → Bool) : ∀ x ∈ A.filter f, x ∈ A ∧ f x = true := fun x hx => List.mem_filter.mp hx
theorem some_keeping_ok {p : Pool} {a b : Int} {l : List Bool} (h0 : 1 ≤ a) (hab : a < b) (hb : b ≤ 1000) (lp : 1 ≤ l.length) (ll : l.length ≤ 2000) : ∃ (H : List Int) (q : Pool), s_law_some_keeping [.io (poolD p), .shr (.lst (rngL a (b + 1 - a).toNat)), .shr (.str (sgS l))] = .ok (.own (.lst (H.map .int))) [.io (poolD q), .no, .no] ∧ H.length ≤ 3000 ∧ ∀ x ∈ H, 1 ≤ x := by
  have e4 := stp_last hab
  have t2 := len_sg (l := l) (by omega)
  have e1 := law_live_ok h0 hab hb lp ll
  have fx := fl_idxN (n := l.length + 1) (i := 1) (f := fun h => pB (Alv a b l h)) (by omega)
  simp only [Int.natCast_one] at fx
  by_cases c0 : Alv a b l 1
  case neg =>
    rw [pB_f c0] at fx
    exact ⟨[], p, by simp [s_law_some_keeping, e1, setOk_lo, fx, lstL], by simp, by simp⟩
  rw [pB_t c0] at fx
  have r := rng1_a (i := (l.length : Int)) (by omega) (by omega)
  rw [Int.toNat_natCast] at r
  have LL := loop_rngR (tg := .nm 5) (body := s_law_some_keeping_b3) 0
    (fun k e => ∃ (R : List Int) (q : Pool) (s5 s6 s7 : Sl), e = [.io (poolD q), .shr (.lst (rngL a (b + 1 - a).toNat)), .shr (.str (sgS l)), .own (.lst (flD (l.length + 1) fun h => pB (Alv a b l h))), .own (.lst (R.map .int)), s5, s6, s7, .no, .no] ∧ 0 < R.length ∧ R.length ≤ k + 1 ∧ (∀ x ∈ R, 1 ≤ x ∧ x ≤ l.length) ∧ loB s5 = true ∧ loB s6 = true ∧ loB s7 = true)
    (fun r e => ∃ (R : List Int) (q : Pool) (s5 s6 s7 : Sl), r = .own (.lst (R.map .int)) ∧ e = [.io (poolD q), .shr (.lst (rngL a (b + 1 - a).toNat)), .shr (.str (sgS l)), .own (.lst (flD (l.length + 1) fun h => pB (Alv a b l h))), .no, s5, s6, s7, .no, .no] ∧ R.length ≤ 3000 ∧ ∀ x ∈ R, 1 ≤ x)
    l.length (fun j env hj hi => by
      obtain ⟨R, q, s5, s6, s7, rfl, Rp, hR2, hR, h5, h6, h7⟩ := hi
      have il := idxL Rp
      have lr := hR _ (lI_mem Rp)
      have c := lcL_sel (tg := .nm 8) (vs := [8]) (test := s_law_some_keeping_t1) (elt := s_law_some_keeping_e2) (env0 := [.io (poolD q), .shr (.lst (rngL a (b + 1 - a).toNat)), .shr (.str (sgS l)), .own (.lst (flD (l.length + 1) fun h => pB (Alv a b l h))), .own (.lst (R.map .int)), .shr (.int (j : Int)), s6, s7, .no, .no]) D.int (fun s => D.int (lI R + s)) (fun s => decide (lI R + s ≤ l.length)) (rngI' a (b + 1 - a).toNat) 0 (by rw [rngI_len]; omega) (fun s _ =>
        ⟨[.io (poolD q), .shr (.lst (rngL a (b + 1 - a).toNat)), .shr (.str (sgS l)), .own (.lst (flD (l.length + 1) fun h => pB (Alv a b l h))), .own (.lst (R.map .int)), .shr (.int (j : Int)), s6, s7, .shr (.int s), .no], [.io (poolD q), .shr (.lst (rngL a (b + 1 - a).toNat)), .shr (.str (sgS l)), .own (.lst (flD (l.length + 1) fun h => pB (Alv a b l h))), .own (.lst (R.map .int)), .shr (.int (j : Int)), s6, s7, .shr (.int s), .no], by simp [setOk_lo], by simp [s_law_some_keeping_t1, il, t2], by simp, by simp, fun _ => ⟨[.io (poolD q), .shr (.lst (rngL a (b + 1 - a).toNat)), .shr (.str (sgS l)), .own (.lst (flD (l.length + 1) fun h => pB (Alv a b l h))), .own (.lst (R.map .int)), .shr (.int (j : Int)), s6, s7, .shr (.int s), .no], by simp [s_law_some_keeping_e2, il], by simp, by simp⟩⟩)
      have cA : ((rngI' a (b + 1 - a).toNat).filter fun s => decide (lI R + s ≤ l.length)).map (fun s => D.int (lI R + s)) = (aftI a b (lI R) l.length).map D.int := by unfold aftI; rw [List.map_map]; rfl
      rw [cA, ← rng_I] at c
      have al := aftI_len (x := lI R) (h := l.length) hb (by omega : 0 ≤ a)
      have am : ∀ y ∈ aftI a b (lI R) l.length, 1 ≤ y ∧ y ≤ l.length := fun y hy => by
        have := (mem_aftI hab).mp hy
        omega
      generalize aftI a b (lI R) l.length = A0 at *
      have c' := lcL_sel (tg := .nm 9) (vs := [9]) (test := truT (.ex (bin idx (.nm 3) (.nm 9)))) (elt := vr 9) (env0 := [.io (poolD q), .shr (.lst (rngL a (b + 1 - a).toNat)), .shr (.str (sgS l)), .own (.lst (flD (l.length + 1) fun h => pB (Alv a b l h))), .own (.lst (R.map .int)), .shr (.int (j : Int)), .shr (.lst (A0.map .int)), s7, .no, .no]) D.int D.int (fun y => pB (Alv a b l y.toNat)) A0 0 (by omega) (fun y hy => by
        have yb := am y hy
        have fy := fl_idx (n := l.length + 1) (f := fun h => pB (Alv a b l h)) (x := y) (by omega) (by omega)
        exact ⟨[.io (poolD q), .shr (.lst (rngL a (b + 1 - a).toNat)), .shr (.str (sgS l)), .own (.lst (flD (l.length + 1) fun h => pB (Alv a b l h))), .own (.lst (R.map .int)), .shr (.int (j : Int)), .shr (.lst (A0.map .int)), s7, .no, .shr (.int y)], [.io (poolD q), .shr (.lst (rngL a (b + 1 - a).toNat)), .shr (.str (sgS l)), .own (.lst (flD (l.length + 1) fun h => pB (Alv a b l h))), .own (.lst (R.map .int)), .shr (.int (j : Int)), .shr (.lst (A0.map .int)), s7, .no, .shr (.int y)], by simp [setOk_lo], by simp [fy], by simp, by simp, fun _ => ⟨[.io (poolD q), .shr (.lst (rngL a (b + 1 - a).toNat)), .shr (.str (sgS l)), .own (.lst (flD (l.length + 1) fun h => pB (Alv a b l h))), .own (.lst (R.map .int)), .shr (.int (j : Int)), .shr (.lst (A0.map .int)), s7, .no, .shr (.int y)], by simp, by simp, by simp⟩⟩)
      have Al := List.length_filter_le (fun y => pB (Alv a b l y.toNat)) A0
      have Am : ∀ y ∈ A0.filter (fun y => pB (Alv a b l y.toNat)), 1 ≤ y ∧ y ≤ l.length := fun y hy => am y (List.mem_filter.mp hy).1
      generalize A0.filter (fun y => pB (Alv a b l y.toNat)) = A at *
      by_cases cz : A.length = 0
      · have eA : A = [] := List.eq_nil_of_length_eq_zero cz
        subst eA
        simp only [List.map_nil] at c'
        refine ⟨_, [.io (poolD q), .shr (.lst (rngL a (b + 1 - a).toNat)), .shr (.str (sgS l)), .own (.lst (flD (l.length + 1) fun h => pB (Alv a b l h))), .no, .shr (.int (j : Int)), .own (.lst []), .shr (.bl (decide ((l.length : Int) < lI R + b))), .no, .no], by simp only [q_tgn, setOk_lo]; simp [h5]; rfl, .inr ⟨.own (.lst (R.map .int)), by simp [s_law_some_keeping_b3, c, c', setOk_lo, h6, h7, il, e4, t2], R, q, _, _, _, rfl, rfl, by omega, fun x hx => (hR x hx).1⟩⟩
      · have cz' : ((A.length : Int) == 0) = false := beq_eq_false_iff_ne.mpr (by omega)
        have fin : ∀ (q2 : Pool) (s7 : Sl), ∃ x : Int, (1 ≤ x ∧ x ≤ l.length) ∧ (mtS appD 4 [bin idx (.nm 6) (.ex (fz (callIO 0 s_law_take [(.ex (fz (blt lenL [(.nm 6)])))])))]) [.io (poolD q2), .shr (.lst (rngL a (b + 1 - a).toNat)), .shr (.str (sgS l)), .own (.lst (flD (l.length + 1) fun h => pB (Alv a b l h))), .own (.lst (R.map .int)), .shr (.int (j : Int)), .own (.lst (A.map .int)), s7, .no, .no] = .nx [.io (poolD (tp q2 A.length)), .shr (.lst (rngL a (b + 1 - a).toNat)), .shr (.str (sgS l)), .own (.lst (flD (l.length + 1) fun h => pB (Alv a b l h))), .own (.lst ((R ++ [x]).map .int)), .shr (.int (j : Int)), .own (.lst (A.map .int)), s7, .no, .no] := fun q2 s7 => by
          have e1 := take_ok (p := q2) (s := A.length) (by omega) (by omega)
          have b1 := tv_b q2 (s := A.length) (by omega)
          have ix := idxI (H := A) (x := tv q2 A.length) b1.1 b1.2
          have ap := app_ints (X := R) (x := gI A (tv q2 A.length).toNat) (by omega)
          exact ⟨gI A (tv q2 A.length).toNat, Am _ (getD_mem (by omega)), by simp [e1, ix, ap, -List.map_append]⟩
        have grow : ∀ x : Int, (1 ≤ x ∧ x ≤ l.length) → ∀ y ∈ R ++ [x], 1 ≤ y ∧ y ≤ l.length := fun x hx y hy => by
          rcases List.mem_append.mp hy with z | z
          · exact hR y z
          · rw [List.mem_singleton.mp z]; exact hx
        by_cases c1 : (l.length : Int) < lI R + b
        · have e3 := take_ok (p := q) (s := 3) (by omega) (by omega)
          by_cases c2 : tv q 3 = 0
          · exact ⟨_, [.io (poolD (tp q 3)), .shr (.lst (rngL a (b + 1 - a).toNat)), .shr (.str (sgS l)), .own (.lst (flD (l.length + 1) fun h => pB (Alv a b l h))), .no, .shr (.int (j : Int)), .own (.lst (A.map .int)), .shr (.bl true), .no, .no], by simp only [q_tgn, setOk_lo]; simp [h5]; rfl, .inr ⟨.own (.lst (R.map .int)), by simp [s_law_some_keeping_b3, c, c', setOk_lo, h6, h7, il, e4, t2, cz', c1, e3, c2], R, _, _, _, _, rfl, rfl, by omega, fun x hx => (hR x hx).1⟩⟩
          · have c2' : (tv q 3 == 0) = false := beq_eq_false_iff_ne.mpr c2
            obtain ⟨x, hx, fx⟩ := fin (tp q 3) (.shr (.bl true))
            exact ⟨_, [.io (poolD (tp (tp q 3) A.length)), .shr (.lst (rngL a (b + 1 - a).toNat)), .shr (.str (sgS l)), .own (.lst (flD (l.length + 1) fun h => pB (Alv a b l h))), .own (.lst ((R ++ [x]).map .int)), .shr (.int (j : Int)), .own (.lst (A.map .int)), .shr (.bl true), .no, .no], by simp only [q_tgn, setOk_lo]; simp [h5]; rfl, .inl ⟨.inl (by simp [s_law_some_keeping_b3, c, c', setOk_lo, h6, h7, il, e4, t2, cz', c1, e3, c2', -q_mtS, fx, -List.map_append]), _, _, _, _, _, rfl, by simp, by simp; omega, grow x hx, rfl, rfl, rfl⟩⟩
        · obtain ⟨x, hx, fx⟩ := fin q (.shr (.bl false))
          exact ⟨_, [.io (poolD (tp q A.length)), .shr (.lst (rngL a (b + 1 - a).toNat)), .shr (.str (sgS l)), .own (.lst (flD (l.length + 1) fun h => pB (Alv a b l h))), .own (.lst ((R ++ [x]).map .int)), .shr (.int (j : Int)), .own (.lst (A.map .int)), .shr (.bl false), .no, .no], by simp only [q_tgn, setOk_lo]; simp [h5]; rfl, .inl ⟨.inl (by simp [s_law_some_keeping_b3, c, c', setOk_lo, h6, h7, il, e4, t2, cz', c1, -q_mtS, fx, -List.map_append]), _, _, _, _, _, rfl, by simp, by simp; omega, grow x hx, rfl, rfl, rfl⟩⟩)
    l.length 0 [.io (poolD p), .shr (.lst (rngL a (b + 1 - a).toNat)), .shr (.str (sgS l)), .own (.lst (flD (l.length + 1) fun h => pB (Alv a b l h))), .own (.lst ([(1 : Int)].map .int)), .no, .no, .no, .no, .no] (by omega) ⟨[1], p, .no, .no, .no, rfl, by simp, by simp, fun x hx => by rw [List.mem_singleton.mp hx]; omega, rfl, rfl, rfl⟩
  simp only [Int.natCast_zero, Int.zero_add, List.map_cons, List.map_nil] at LL
  rcases LL with ⟨env', g1, R, q, s5, s6, s7, rfl, Rp, hR2, hR, _⟩ | ⟨r', env', g1, R, q, s5, s6, s7, rfl, rfl, hR2, hR⟩
  · exact ⟨R, q, by simp [s_law_some_keeping, e1, setOk_lo, fx, lstL, t2, r, g1], by omega, fun x hx => (hR x hx).1⟩
  · exact ⟨R, q, by simp [s_law_some_keeping, e1, setOk_lo, fx, lstL, t2, r, g1], hR2, hR⟩
end PL

/-! Pl38: t[::-1] of a tuple. -/
namespace HT
open PySem PyProof.Rows
open PySem.SeqAt
section
variable {prog : Program} {w : World} {A : Around} {E : Value → Shared → Prop} {s : Shared}
theorem sliceApplied_rev {sl : Addr} {vl vu vs : Value} {n : Nat} {Q : Int × Int × Nat → Shared → Prop} (hs : s.heap.IsSliceOf sl vl vu vs) (pl : IsPart vl none) (pu : IsPart vu none) (ps : IsPart vs (some (-1)))
    (h : Q ((n : Int) - 1, -1, n) s) : wpAny (model prog w) A (Builtin.Slice.sliceApplied (.ref sl) (pure (n : Int))) Q E s := by
  obtain ⟨os, hos, hcs, hds⟩ := id hs
  unfold Builtin.Slice.sliceApplied Builtin.Slice.sliceFields
  refine wpAny_bind (wpAny_bind (wpAny_field hos hds (x := vl) rfl (wpAny_bind (wpAny_field hos hds (x := vu) rfl (wpAny_bind (wpAny_field hos hds (x := vs) rfl (wpAny_pure ?_)))))))
  refine wpAny_bind (slicePart_ ps ?_)
  show wpAny _ _ (if ((-1 : Int) == 0) = true then _ else _) _ _ s
  rw [if_neg (by decide)]
  refine wpAny_bind (slicePart_ pl (wpAny_bind (slicePart_ pu (wpAny_bind (wpAny_pure ?_)))))
  show wpAny _ _ (match Builtin.Slice.sliceAdjust none none (-1) (n : Int) with | (lo, hi) => pure (lo, (-1 : Int), Builtin.Slice.slicePlaces lo hi (-1))) _ _ s
  have e : Builtin.Slice.slicePlaces ((n : Int) - 1) (-1) (-1) = n := by
    unfold Builtin.Slice.slicePlaces
    have h1 : ¬ ((-1 : Int) > 0) := by decide
    rw [if_neg h1, show (-(-1) : Int) = 1 by decide, Int.ediv_one]
    split <;> omega
  show wpAny _ _ (pure ((n : Int) - 1, (-1 : Int), Builtin.Slice.slicePlaces ((n : Int) - 1) (-1) (-1))) _ _ s
  rw [e]
  exact wpAny_pure h
theorem fm_congr {α β : Type} {f g : α → Option β} : ∀ {l : List α}, (∀ x ∈ l, f x = g x) → l.filterMap f = l.filterMap g
  | [], _ => rfl
  | x :: l, h => by rw [List.filterMap_cons, List.filterMap_cons, h x (by simp), fm_congr fun y hy => h y (by simp [hy])]
theorem pick_rev (xs : Array Value) : ((List.range xs.size).filterMap fun (m : Nat) => xs[((xs.size : Int) - 1 + (m : Int) * -1).toNat]?).toArray = xs.toList.reverse.toArray := by
  have e : ((List.range xs.size).filterMap fun (m : Nat) => xs[((xs.size : Int) - 1 + (m : Int) * -1).toNat]?) = ((List.range xs.size).map fun k => xs.size - 1 - k).filterMap (xs[·]?) := by
    rw [List.filterMap_map]
    refine fm_congr fun m hm => ?_
    have := List.mem_range.mp hm
    show xs[((xs.size : Int) - 1 + (m : Int) * -1).toNat]? = xs[xs.size - 1 - m]?
    congr 1
    omega
  rw [e, PySem.W.krv_range, List.filterMap_reverse, PySem.W.krv_all]
theorem getItem_tuple_rev {t sl : Addr} {items : Array Value} {vl vu vs : Value} {Q : Value → Shared → Prop} (ht : IsTup s.heap t items) (hs : s.heap.IsSliceOf sl vl vu vs) (pl : IsPart vl none) (pu : IsPart vu none) (ps : IsPart vs (some (-1)))
    (h : Q (.ref s.heap.objs.size) { s with heap := s.heap.push { cls := .type "tuple", data := .seq items.toList.reverse.toArray } })
    (hsz : items.size ≤ sizeLine) : wpAny (model prog w) A (getItem (.ref t) (.ref sl)) Q E s := by
  have htake : sizeOk (.seq items.toList.reverse.toArray) := by
    show items.toList.reverse.toArray.size ≤ sizeLine
    rw [List.size_toArray, List.length_reverse, Array.length_toList]
    exact hsz
  obtain ⟨os, hos, hcs, hds⟩ := id hs
  have hTs : s.TypeIs (.ref sl) "slice" := ⟨os, hos, hcs⟩
  unfold getItem
  try with_reducible refine wpAny_holding ?_
  first | refine wpAny_bind (wpAny_pure ?_) | skip
  refine wpAny_bind (wpAny_sequenceKey ht.typeIs (by decide) ?_)
  refine wpAny_bind (wpAny_callSpecial?_slot (name := Str.ofString "__getitem__") ht.typeIs PyProof.Rows.slot_tuple_getitem
    (wpAny_call_entry PyProof.Rows.slot_tuple_getitem ht.typeIs entry_tuple_getitem ?_ (args_tuple_getitem _ _)))
  show wpAny _ _ (Builtin.Tuple.tupleItemsOf (.ref t) >>= _) _ _ s
  refine wpAny_bind (tupleItemsOf_ ht ?_)
  refine wpAny_bind (wpAny_typeOf hTs ?_)
  rw [if_pos (by decide)]
  refine wpAny_bind (sliceApplied_rev hs pl pu ps ?_)
  have hno : ¬ ((((items.size : Int) - 1) == 0 && (-1 : Int) == 1 && items.size == items.size) = true) := by
    intro q
    rw [Bool.and_eq_true, Bool.and_eq_true] at q
    have q1 : (-1 : Int) = 1 := eq_of_beq q.1.2
    omega
  show wpAny _ _ (if (((items.size : Int) - 1) == 0 && (-1 : Int) == 1 && items.size == items.size) = true then _ else _) _ _ s
  rw [if_neg hno, pick_rev]
  first
    | exact wpAny_bind (m := Builtin.Tuple.tupleExact _) (wpAny_newObj_type (wpAny_pure ⟨_, rfl, wpAny_pure h⟩) htake)
    | exact wpAny_bind (m := Builtin.Tuple.tupleExact _) (wpAny_newObj_type (wpAny_bind (wpAny_pure (wpAny_pure ⟨_, rfl, wpAny_pure h⟩))) htake)
    | exact wpAny_bind (wpAny_bind (m := Builtin.Tuple.tupleExact _) (wpAny_newObj_type (wpAny_pure (wpAny_pure ⟨_, rfl, wpAny_pure h⟩)) htake))
    | exact wpAny_bind (wpAny_bind (m := Builtin.Tuple.tupleExact _) (wpAny_newObj_type (wpAny_pure ⟨_, rfl, wpAny_pure h⟩) htake))
end
end HT
namespace L2
open PySem PySem.Spec PyProof.Rows
section
variable {X : Cx}
def tRevT (K : PySem.W.Frag) (te : TE) : TE := fun σ H Q => te σ H fun x H1 => ∃ a xs, x = .ref a ∧ SqT K H1 a xs ∧ ∀ p, H1 p = none → Q (.ref p) (upd H1 p (.tup xs.reverse))
theorem pe_revT {e : Expr} {te : TE} {k : Nat} {p1 p2 p3 pos : Pos} (he : PE X e te) : PE X (.Subscript e (.Slice none none (some (.UnaryOp .USub (.Constant (.int 1) k p1) p2)) p3) pos) (tRevT X.K te) := by
  refine ⟨fun pins s σ H Q I h => ?_⟩
  refine Subscript_ (thn (he.run pins s σ H _ I h) fun v s1 ⟨x, H1, I1, r1, q1⟩ => ?_)
  obtain ⟨a, xs, ex, hx, q⟩ := q1
  subst ex
  cases r1
  have hst : PO X (some (.UnaryOp .USub (.Constant (.int 1) k p1) p2)) (tPart (tUn (rU fun i => .int (-i)) (tC (.int 1)))) := po_some (pe_un un_neg pe_int)
  refine wpAny_Slice (thn (po_none.run pins s1 σ H1 (fun o H2 => o = none ∧ H2 = H1) I1 ⟨rfl, rfl⟩) fun vl s2 ⟨l, H2, I2, pl, el, e2⟩ => ?_)
  subst el e2
  refine thn (po_none.run pins s2 σ H2 (fun o H3 => o = none ∧ H3 = H2) I2 ⟨rfl, rfl⟩) fun vu s3 ⟨u, H3, I3, pu, eu, e3⟩ => ?_
  subst eu e3
  refine thn (hst.run pins s3 σ H3 (fun o H4 => o = some (-1) ∧ H4 = H3) I3 ⟨1, rfl, -1, rfl, rfl, rfl⟩) fun vs s4 ⟨o, H4, I4, ps, eo, e4⟩ => ?_
  subst eo e4
  have I5 : Inv X pins σ H4 { s4 with heap := s4.heap.push { cls := .type "slice", data := .fields #[vl, vu, vs] } } := I4.kept (t' := s4.toks) fun b ob q => Heap.get?_push_of_some _ q
  obtain ⟨its, r, ht, hz⟩ := I5.tuple hx
  have hlen := r.length
  show wpAny (model X.prog X.w) X.A (subscriptTail e (.Slice none none (some (.UnaryOp .USub (.Constant (.int 1) k p1) p2)) p3) (.ref a) (.ref s4.heap.objs.size)) (EP X pins σ Q) X.xe { s4 with heap := s4.heap.push { cls := .type "slice", data := .fields #[vl, vu, vs] } }
  refine tail_any (ops := [.ref a, .ref s4.heap.objs.size]) ht.typeIs PyProof.Rows.slot_tuple_getitem.lookup ?_ (by with_unfolding_all rfl)
  refine HT.getItem_tuple_rev ht (Heap.IsSliceOf.new _ vl vu vs) pl pu ps ?_ (by rw [List.size_toArray]; omega)
  refine ⟨.ref _, _, I5.laid (t' := s4.toks) (o := .tup xs.reverse) (fun b ob q => Heap.get?_push_of_some _ q) (Nat.le_refl _) ?_, rfl, q _ (I5.hok.fresh (Nat.le_refl _))⟩
  exact ⟨by rw [List.length_reverse]; exact hz, _, r.reverse, IsTup.new _ _⟩
end
end L2
namespace PL
open PySem L2
def revT : D → Option Sl
  | .tup ds => some (.shr (.tup ds.reverse))
  | _ => none
def rvtE (a : PL.A) : E := unaE revT a
theorem unaE_rvt {K : PySem.W.Frag} : UnaE K (fun x H Q => ∃ a xs, x = .ref a ∧ SqT K H a xs ∧ ∀ p, H p = none → Q (.ref p) (upd H p (.tup xs.reverse))) revT := fun {env IO Fr σ H x s vx Q} e b h k => by
  cases x with
  | tup ds =>
    cases h
    obtain ⟨p, ws, rfl, h1, r⟩ := b.tup
    refine ⟨p, ws, rfl, h1, fun q hq => ?_⟩
    obtain ⟨g1, g2⟩ := e.newT hq r.rev
    exact k _ _ g1 g2
  | _ => cases h
section
variable {X : Cx} {W : WX} {e : Expr} {a : PL.A} {k : Nat} {p p1 p2 p3 pos : Pos}
theorem k_rvt (ha : PE X e (tA X.K W a)) : PE X (.Subscript e (.Slice none none (some (.UnaryOp .USub (.Constant (.int 1) k p1) p2)) p3) pos) (tE X.K W (rvtE a)) :=
  PE.imp (pe_revT ha) fun _ _ _ h => unaE_rd unaE_rvt h
end
@[simp] theorem q_rvtE {a : PL.A} {env : List Sl} : rvtE a env = ((unaE revT a) env) := id rfl
@[simp] theorem q_revT {ds : List D} : revT (.tup ds) = some (.shr (.tup ds.reverse)) := id rfl
end PL

/-! Pl39: sums, numbers of rows to an hour and onward from it (plain), lists of counts. -/
namespace PL
open PySem L2
/-- the sum of f 0 .. f (n - 1) -/
def sm (f : Nat → Int) : Nat → Int
  | 0 => 0
  | n + 1 => sm f n + f n
section
variable {f g : Nat → Int}
theorem sm_congr : ∀ {n : Nat}, (∀ i, i < n → f i = g i) → sm f n = sm g n
  | 0, _ => rfl
  | n + 1, h => by unfold sm; rw [sm_congr fun i hi => h i (by omega), h n (by omega)]
theorem sm_zero {n : Nat} (h : ∀ i, i < n → f i = 0) : sm f n = 0 := by
  induction n with
  | zero => rfl
  | succ n ih => unfold sm; rw [ih fun i hi => h i (by omega), h n (by omega)]; rfl
theorem sm_add : ∀ {n : Nat}, sm (fun i => f i + g i) n = sm f n + sm g n
  | 0 => rfl
  | n + 1 => by unfold sm; rw [sm_add]; omega
theorem sm_mul {c : Int} : ∀ {n : Nat}, sm (fun i => c * f i) n = c * sm f n
  | 0 => by simp [sm]
  | n + 1 => by unfold sm; rw [sm_mul, Int.mul_add]
theorem sm_swap {f : Nat → Nat → Int} {m : Nat} : ∀ {n : Nat}, sm (fun i => sm (fun j => f i j) m) n = sm (fun j => sm (fun i => f i j) n) m
  | 0 => by
    have : sm (fun j => sm (fun i => f i j) 0) m = 0 := sm_zero fun _ _ => rfl
    rw [this]; rfl
  | n + 1 => by
    show sm (fun i => sm (fun j => f i j) m) n + sm (fun j => f n j) m = _
    rw [sm_swap]
    exact sm_add.symm
theorem sm_one {k n : Nat} (hk : k < n) (h : ∀ i, i < n → i ≠ k → f i = 0) : sm f n = f k := by
  induction n with
  | zero => omega
  | succ n ih =>
    unfold sm
    by_cases c : k = n
    · subst c
      rw [sm_zero fun i hi => h i (by omega) (by omega)]; omega
    · rw [ih (by omega) fun i hi => h i (by omega), h n (by omega) (by omega)]; omega
theorem sm_ext {m n : Nat} (hm : m ≤ n) (h : ∀ i, m ≤ i → i < n → f i = 0) : sm f n = sm f m := by
  induction n with
  | zero => rw [show m = 0 by omega]
  | succ n ih =>
    by_cases c : m = n + 1
    · rw [c]
    · unfold sm
      rw [ih (by omega) fun i h1 h2 => h i h1 (by omega), h n (by omega) (by omega)]; cases m <;> simp [sm]
theorem sm_nn {n : Nat} (h : ∀ i, i < n → 0 ≤ f i) : 0 ≤ sm f n := by
  induction n with
  | zero => exact Int.le_refl _
  | succ n ih =>
    unfold sm
    have := ih fun i hi => h i (by omega)
    have := h n (by omega)
    omega
theorem sm_ge {n k : Nat} (h : ∀ i, i < n → 0 ≤ f i) (hk : k < n) : f k ≤ sm f n := by
  induction n with
  | zero => omega
  | succ n ih =>
    unfold sm
    have h2 := h n (by omega)
    have h3 := sm_nn (f := f) (n := n) fun i hi => h i (by omega)
    by_cases c : k = n
    · subst c; omega
    · have := ih (fun i hi => h i (by omega)) (by omega); omega
theorem sm_pos {n : Nat} (h : 0 < sm f n) : ∃ k, k < n ∧ 0 < f k := by
  induction n with
  | zero => simp [sm] at h
  | succ n ih =>
    unfold sm at h
    by_cases c : 0 < f n
    · exact ⟨n, by omega, c⟩
    · obtain ⟨k, h1, h2⟩ := ih (by omega)
      exact ⟨k, by omega, h2⟩
theorem sm_front : ∀ {n : Nat}, sm f (n + 1) = f 0 + sm (fun i => f (i + 1)) n
  | 0 => by simp [sm]
  | n + 1 => by
    have : sm f (n + 1 + 1) = sm f (n + 1) + f (n + 1) := rfl
    rw [this, sm_front]
    have : sm (fun i => f (i + 1)) (n + 1) = sm (fun i => f (i + 1)) n + f (n + 1) := rfl
    rw [this]; omega
theorem sm_rev : ∀ {n : Nat}, sm (fun i => f (n - i)) (n + 1) = sm f (n + 1)
  | 0 => rfl
  | n + 1 => by
    rw [sm_front]
    have : (fun i => f (n + 1 - (i + 1))) = fun i => f (n - i) := by funext i; rw [Nat.add_sub_add_right]
    rw [this, sm_rev]
    have : sm f (n + 1 + 1) = sm f (n + 1) + f (n + 1) := rfl
    rw [this, Nat.sub_zero]; omega
end
/-- a sum over a list of numbers -/
theorem lsum {g : Nat → Int} {N : Nat} : ∀ {L : List Int}, L.Nodup → (∀ y ∈ L, 0 ≤ y ∧ y < N) → (L.map fun y => g y.toNat).sum = sm (fun i => if (i : Int) ∈ L then g i else 0) N
  | [], _, _ => by rw [sm_zero fun i _ => by simp]; rfl
  | y :: L, nd, hb => by
    have yb := hb y (by simp)
    have nd' := List.nodup_cons.mp nd
    have e : sm (fun i => if (i : Int) ∈ y :: L then g i else 0) N = sm (fun i => (if i = y.toNat then g i else 0) + (if (i : Int) ∈ L then g i else 0)) N := sm_congr fun i _ => by
      by_cases c : (i : Int) = y
      · have c1 : i = y.toNat := by omega
        have c2 : ¬ (i : Int) ∈ L := by rw [c]; exact nd'.1
        rw [if_pos (by rw [c]; simp), if_pos c1, if_neg c2]; omega
      · have c1 : ¬ i = y.toNat := by omega
        rw [if_neg c1]
        by_cases c2 : (i : Int) ∈ L
        · rw [if_pos (List.mem_cons_of_mem _ c2), if_pos c2]; omega
        · rw [if_neg c2, if_neg (fun z => (List.mem_cons.mp z).elim c c2)]; omega
    rw [e, sm_add, sm_one (k := y.toNat) (by omega) fun i _ hi => by rw [if_neg hi], ← lsum nd'.2 fun z hz => hb z (by simp [hz]), if_pos rfl]
    rfl
/-! ### the rows to an hour, the ways onward -/
def Tn (a b : Int) (d : Nat → Bool) (h : Nat) : Int :=
  if h = 1 then 1 else if d h then sm (fun i => if hi : i < h ∧ (i : Int) + a ≤ h ∧ (h : Int) ≤ i + b then Tn a b d i else 0) h else 0
termination_by h
decreasing_by exact hi.1
def Gn (a b : Int) (d : Nat → Bool) (n : Nat) (e : Nat → Int) (h : Nat) : Int :=
  if d h then e h + sm (fun i => if hi : (h < i ∧ i ≤ n) ∧ (h : Int) + a ≤ i ∧ (i : Int) ≤ h + b then Gn a b d n e i else 0) (n + 1) else 0
termination_by n + 1 - h
decreasing_by have := hi.1; omega
section
variable {a b : Int} {d : Nat → Bool} {n : Nat} {e : Nat → Int}
theorem Tn_one : Tn a b d 1 = 1 := by rw [Tn]; simp
theorem Tn_zero (d0 : d 0 = false) : Tn a b d 0 = 0 := by rw [Tn]; simp [d0]
theorem Tn_damp {h : Nat} (h1 : h ≠ 1) (hd : d h = false) : Tn a b d h = 0 := by rw [Tn]; simp [h1, hd]
theorem Tn_eq {h N : Nat} (h0 : 1 ≤ a) (h1 : h ≠ 1) (hd : d h = true) (hN : h ≤ N) : Tn a b d h = sm (fun i => if (i : Int) + a ≤ h ∧ (h : Int) ≤ i + b then Tn a b d i else 0) N := by
  rw [Tn, if_neg h1, if_pos hd]
  rw [sm_ext (m := h) hN fun i hi _ => if_neg (by omega)]
  refine sm_congr fun i hi => ?_
  by_cases c : (i : Int) + a ≤ h ∧ (h : Int) ≤ i + b
  · rw [dif_pos ⟨hi, c⟩, if_pos c]
  · rw [dif_neg fun z => c z.2, if_neg c]
theorem Tn_nn (d0 : d 0 = false) : ∀ h : Nat, 0 ≤ Tn a b d h := fun h => by
  induction h using Nat.strongRecOn with
  | _ h ih =>
    rw [Tn]
    by_cases h1 : h = 1
    · rw [if_pos h1]; omega
    · rw [if_neg h1]
      by_cases hd : d h = true
      · rw [if_pos hd]
        refine sm_nn fun i hi => ?_
        by_cases c : i < h ∧ (i : Int) + a ≤ h ∧ (h : Int) ≤ i + b
        · rw [dif_pos c]; exact ih i hi
        · rw [dif_neg c]; omega
      · rw [if_neg hd]; omega
theorem Tn_pos (h0 : 1 ≤ a) (d0 : d 0 = false) {h : Nat} (r : Rch a b d h) : 0 < Tn a b d h := by
  induction r with
  | one => rw [Tn_one]; omega
  | @step i h r h1 h2 hd ih =>
    by_cases c : h = 1
    · rw [c, Tn_one]; omega
    · rw [Tn_eq h0 c hd (Nat.le_refl _)]
      have := sm_ge (f := fun i => if (i : Int) + a ≤ h ∧ (h : Int) ≤ i + b then Tn a b d i else 0) (n := h) (k := i) (fun j _ => by
        show 0 ≤ if (j : Int) + a ≤ h ∧ (h : Int) ≤ j + b then Tn a b d j else 0
        split
        · exact Tn_nn d0 j
        · omega) (by omega)
      rw [if_pos ⟨h1, h2⟩] at this
      omega
theorem Tn_rch (h0 : 1 ≤ a) (d0 : d 0 = false) {h : Nat} (hp : 0 < Tn a b d h) : Rch a b d h := by
  induction h using Nat.strongRecOn with
  | _ h ih =>
    by_cases h1 : h = 1
    · rw [h1]; exact .one
    by_cases hd : d h = true
    · rw [Tn_eq h0 h1 hd (Nat.le_refl _)] at hp
      obtain ⟨k, k1, k2⟩ := sm_pos hp
      by_cases c : (k : Int) + a ≤ h ∧ (h : Int) ≤ k + b
      · rw [if_pos c] at k2
        exact .step (ih k (by omega) k2) c.1 c.2 hd
      · rw [if_neg c] at k2; omega
    · rw [Tn_damp h1 (by simpa using hd)] at hp; omega
theorem Gn_damp {h : Nat} (hd : d h = false) : Gn a b d n e h = 0 := by rw [Gn]; simp [hd]
theorem Gn_eq {h : Nat} (h0 : 1 ≤ a) (hd : d h = true) : Gn a b d n e h = e h + sm (fun i => if (h : Int) + a ≤ i ∧ (i : Int) ≤ h + b then Gn a b d n e i else 0) (n + 1) := by
  rw [Gn, if_pos hd]
  congr 1
  refine sm_congr fun i hi => ?_
  by_cases c : (h : Int) + a ≤ i ∧ (i : Int) ≤ h + b
  · rw [dif_pos ⟨⟨by omega, by omega⟩, c⟩, if_pos c]
  · rw [dif_neg fun z => c z.2, if_neg c]
/-- the ways onward from hour 1 are the rows to each hour, with the weights of the ends -/
theorem Gn_Tn (h0 : 1 ≤ a) (d0 : d 0 = false) (d1 : d 1 = true) (hn : 1 ≤ n) : Gn a b d n e 1 = sm (fun h => Tn a b d h * e h) (n + 1) := by
  have l1 : ∀ h, Tn a b d h * Gn a b d n e h = Tn a b d h * e h + sm (fun i => if (h : Int) + a ≤ i ∧ (i : Int) ≤ h + b then Tn a b d h * Gn a b d n e i else 0) (n + 1) := fun h => by
    by_cases hd : d h = true
    · rw [Gn_eq h0 hd, Int.mul_add, ← sm_mul]
      congr 1
      refine sm_congr fun i _ => ?_
      split
      · rfl
      · exact Int.mul_zero _
    · have hd' : d h = false := by simpa using hd
      have : Tn a b d h = 0 := by
        by_cases c : h = 1
        · rw [c] at hd'; rw [d1] at hd'; cases hd'
        · exact Tn_damp c hd'
      rw [this, sm_zero fun i _ => by split <;> simp, Int.zero_mul, Int.zero_mul]; rfl
  have l2 : ∀ i, i < n + 1 → sm (fun h => if (h : Int) + a ≤ i ∧ (i : Int) ≤ h + b then Tn a b d h * Gn a b d n e i else 0) (n + 1) = (if i = 1 then 0 else Tn a b d i) * Gn a b d n e i := fun i hi => by
    by_cases hd : d i = true
    · by_cases c : i = 1
      · rw [if_pos c, Int.zero_mul]
        refine sm_zero fun h _ => ?_
        by_cases z : (h : Int) + a ≤ i ∧ (i : Int) ≤ h + b
        · rw [if_pos z, show h = 0 by omega, Tn_zero d0, Int.zero_mul]
        · rw [if_neg z]
      · rw [if_neg c, Tn_eq h0 c hd (N := n + 1) (by omega), Int.mul_comm, ← sm_mul]
        refine sm_congr fun h _ => ?_
        split
        · rw [Int.mul_comm]
        · simp
    · rw [Gn_damp (by simpa using hd), Int.mul_zero]
      exact sm_zero fun h _ => by split <;> simp
  have s1 : sm (fun h => Tn a b d h * Gn a b d n e h) (n + 1) = sm (fun h => Tn a b d h * e h) (n + 1) + sm (fun i => (if i = 1 then 0 else Tn a b d i) * Gn a b d n e i) (n + 1) := by
    rw [sm_congr fun h _ => l1 h, sm_add, sm_swap, sm_congr l2]
  have s2 : sm (fun h => Tn a b d h * Gn a b d n e h) (n + 1) = Gn a b d n e 1 + sm (fun i => (if i = 1 then 0 else Tn a b d i) * Gn a b d n e i) (n + 1) := by
    have : sm (fun h => Tn a b d h * Gn a b d n e h) (n + 1) = sm (fun h => (if h = 1 then Gn a b d n e h else 0) + (if h = 1 then 0 else Tn a b d h) * Gn a b d n e h) (n + 1) := sm_congr fun h _ => by
      by_cases c : h = 1
      · rw [if_pos c, if_pos c, c, Tn_one]; omega
      · rw [if_neg c, if_neg c]; omega
    rw [this, sm_add, sm_one (k := 1) (by omega) fun i _ hi => by rw [if_neg hi], if_pos rfl]
  omega
end
/-- turned round: the rows to an hour are the ways onward to the end -/
theorem Tn_rev {a b : Int} {d d' : Nat → Bool} {n : Nat} (h0 : 1 ≤ a) (hd : ∀ h, 1 ≤ h → h ≤ n → d' h = d (n + 1 - h)) (d0 : d 0 = false) (d0' : d' 0 = false) (dn : d n = true) (du : ∀ h, n < h → d h = false) :
    ∀ h, 1 ≤ h → h ≤ n → Tn a b d' h = Gn a b d n (fun h => if h = n then 1 else 0) (n + 1 - h) := fun h => by
  induction h using Nat.strongRecOn with
  | _ h ih =>
    intro h1 h2
    by_cases c : h = 1
    · subst c
      rw [Tn_one, Nat.add_sub_cancel, Gn_eq h0 dn, if_pos rfl, sm_zero fun i hi => if_neg (by omega)]; rfl
    by_cases dd : d (n + 1 - h) = true
    · rw [Tn_eq h0 c (by rw [hd h h1 h2]; exact dd) (N := n + 2) (by omega), Gn_eq h0 dd, if_neg (by omega), Int.zero_add]
      rw [← sm_rev (n := n + 1)]
      have : sm (fun i => if ((n + 1 - h : Nat) : Int) + a ≤ i ∧ (i : Int) ≤ ((n + 1 - h : Nat) : Int) + b then Gn a b d n (fun h => if h = n then 1 else 0) i else 0) (n + 1) = sm (fun i => if ((n + 1 - h : Nat) : Int) + a ≤ i ∧ (i : Int) ≤ ((n + 1 - h : Nat) : Int) + b then Gn a b d n (fun h => if h = n then 1 else 0) i else 0) (n + 2) := by
        rw [sm_ext (m := n + 1) (n := n + 2) (by omega) fun i h3 h4 => by rw [Gn_damp (du i (by omega))]; simp]
      rw [this]
      refine sm_congr fun i hi => ?_
      by_cases i0 : i = 0
      · rw [i0, if_neg (by omega), Gn_damp d0]; simp
      by_cases i1 : i = n + 1
      · subst i1
        rw [Gn_damp (du _ (by omega)), Nat.sub_self, Tn_zero d0']; simp
      · have c1 : (((n + 1 - i : Nat) : Int) + a ≤ h ∧ (h : Int) ≤ ((n + 1 - i : Nat) : Int) + b) ↔ (((n + 1 - h : Nat) : Int) + a ≤ i ∧ (i : Int) ≤ ((n + 1 - h : Nat) : Int) + b) := by omega
        by_cases c2 : (((n + 1 - h : Nat) : Int) + a ≤ i ∧ (i : Int) ≤ ((n + 1 - h : Nat) : Int) + b)
        · rw [if_pos (c1.mpr c2), if_pos c2, ih (n + 1 - i) (by omega) (by omega) (by omega), show n + 1 - (n + 1 - i) = i by omega]
        · rw [if_neg fun z => c2 (c1.mp z), if_neg c2]
    · have dd' : d (n + 1 - h) = false := by simpa using dd
      rw [Tn_damp c (by rw [hd h h1 h2]; exact dd'), Gn_damp dd']
/-! ### lists of counts -/
def clD (n : Nat) (f : Nat → Int) : List D := (List.range n).map fun i => D.int (f i)
section
variable {n : Nat} {f g : Nat → Int}
@[simp] theorem cl_len : (clD n f).length = n := by simp [clD]
@[simp] theorem cl_flat : (clD n f).all flat = true := by simp [clD]
@[simp] theorem cl_nm : nms (clD n f) = true := nms_map (fun _ => by simp) _
theorem cl_congr (h : ∀ i, i < n → f i = g i) : clD n f = clD n g := List.map_congr_left fun i hi => by rw [h i (List.mem_range.mp hi)]
theorem cl_get {i : Nat} (h : i < n) : (clD n f)[i]? = some (.int (f i)) := by simp [clD, List.getElem?_map, List.getElem?_range h]
theorem cl_set {h : Nat} {v : Int} : (clD n f).set h (.int v) = clD n fun i => if i = h then v else f i := by
  apply List.ext_getElem?
  intro i
  by_cases hi : i < n
  · rw [cl_get hi, List.getElem?_set]
    by_cases c : h = i
    · subst c; simp [hi]
    · rw [if_neg c, cl_get hi, if_neg fun z => c z.symm]
  · rw [List.getElem?_eq_none (by simp; omega), List.getElem?_eq_none (by simp; omega)]
theorem cl_rep : List.replicate n (D.int 0) = clD n fun _ => 0 := by
  apply List.ext_getElem?
  intro i
  by_cases hi : i < n
  · rw [cl_get hi, List.getElem?_replicate]; simp [hi]
  · rw [List.getElem?_eq_none (by simp; omega), List.getElem?_eq_none (by simp; omega)]
theorem cl_idx {x : Int} (h0 : 0 ≤ x) (h : x < n) : idx (.lst (clD n f)) (.int x) = some (.int (f x.toNat)) := by rw [o_idx h0, cl_get (by omega)]
theorem cl_idxN {i : Nat} (h : i < n) : idx (.lst (clD n f)) (.int (i : Int)) = some (.int (f i)) := by rw [cl_idx (by omega) (by omega)]; simp
theorem cl_last (h : 0 < n) : idx (.lst (clD n f)) (.int (-1)) = some (.int (f (n - 1))) := by
  rw [o_idxl, List.getLast?_eq_getElem?, cl_len, cl_get (by omega)]
/-- sum(counts[u:v]) -/
theorem cl_sum {u v : Int} {N : Nat} (h0 : 0 ≤ u) (h1 : 0 ≤ v) (hN : n ≤ N) (hf : ∀ i, n ≤ i → i < N → f i = 0) : sumL [.lst (cutL (clD n f) (some u) (some v))] = some (.shr (.int (sm (fun i => if u ≤ i ∧ (i : Int) < v then f i else 0) N))) := by
  unfold clD
  rw [cutL_map, cut_mid h0 h1]
  simp only [sumL, ints_mapf, Option.map_some]
  congr 3
  have e : (List.map f (((List.range n).drop u.toNat).take (v.toNat - u.toNat))) = (((((List.range n).drop u.toNat).take (v.toNat - u.toNat)).map fun (i : Nat) => (i : Int))).map fun y => f y.toNat := by
    rw [List.map_map]
    exact List.map_congr_left fun i _ => by simp
  have hm : ∀ x : Int, x ∈ (((List.range n).drop u.toNat).take (v.toNat - u.toNat)).map (fun (i : Nat) => (i : Int)) ↔ u ≤ x ∧ x < v ∧ x < n := fun x => by
    rw [List.mem_map]
    constructor
    · rintro ⟨i, hi, rfl⟩
      rw [List.mem_take_iff_getElem] at hi
      obtain ⟨j, hj, rfl⟩ := hi
      simp only [List.getElem_drop, List.getElem_range, List.length_drop, List.length_range] at hj ⊢
      omega
    · rintro ⟨h2, h3, h4⟩
      refine ⟨x.toNat, ?_, by omega⟩
      rw [List.mem_take_iff_getElem]
      refine ⟨x.toNat - u.toNat, by simp only [List.length_drop, List.length_range]; omega, ?_⟩
      simp only [List.getElem_drop, List.getElem_range]
      omega
  have nd : ((((List.range n).drop u.toNat).take (v.toNat - u.toNat)).map (fun (i : Nat) => (i : Int))).Nodup := by
    rw [List.nodup_iff_pairwise_ne, List.pairwise_map]
    exact ((List.pairwise_lt_range.drop (i := u.toNat)).take (i := v.toNat - u.toNat)).imp fun h => by omega
  rw [e, lsum nd (N := n) fun y hy => by have := (hm y).mp hy; omega]
  rw [sm_ext (m := n) hN fun i h2 h3 => by rw [hf i h2 h3]; simp]
  refine sm_congr fun i hi => ?_
  by_cases c : u ≤ i ∧ (i : Int) < v
  · rw [if_pos ((hm i).mpr ⟨c.1, c.2, by omega⟩), if_pos c]
  · rw [if_neg fun z => c (by have := (hm i).mp z; exact ⟨this.1, this.2.1⟩), if_neg c]
end
theorem rngI_nodup {lo : Int} {n : Nat} : (rngI' lo n).Nodup := by
  unfold rngI'
  rw [List.nodup_iff_pairwise_ne, List.pairwise_map]
  exact List.pairwise_lt_range.imp fun h => by omega
theorem aftI_nodup {a b x h : Int} : (aftI a b x h).Nodup := by
  unfold aftI
  rw [List.nodup_iff_pairwise_ne, List.pairwise_map]
  exact ((List.nodup_iff_pairwise_ne.mp rngI_nodup).filter _).imp fun h => by omega
end PL

/-! Pl40: ways, closed_ways. -/
namespace PL
open PySem L2
-- G s_onward_counts_b1
def s_onward_counts_b1 : S :=
  ifS (truT (.ex (bin idx (.nm 2) (.nm 4)))) (seqS (putS lput 3 (vr 4) (fz (blt sumL [(.ex (fz (slE (.nm 3) (some (fz (binE addD (.nm 4) (.ex (una (fld "Lacquer" ["a", "b"] 0) (.nm 0)))))) (some (bin addI (.ex (fz (binE addD (.nm 4) (.ex (una (fld "Lacquer" ["a", "b"] 1) (.nm 0)))))) (.ex (cst (.int 1))))))))]))) <|
  ifS (tst (bin gtD (.ex (fz (binE addD (.nm 4) (.ex (una (fld "Lacquer" ["a", "b"] 1) (.nm 0)))))) (.ex (fz (propF "Weather" s_Weather_hours (.nm 1)))))) (augI 3 (vr 4) (cst (.int 1))) (passS)) (passS)
-- /G
-- G s_onward_counts
def s_onward_counts : Fn := fnOf 3 <|
  seqS (setE 2 (callF s_dry_flags [(.ex (fz (methF "Weather" "signs" s_Weather_signs (.nm 1) [])))])) <|
  seqS (setE 3 (binE mulL (.ex (fz (lstP [cst (.int 0)]))) (.ex (fz (blt lenL [(.nm 2)]))))) <|
  seqS (forS (rngI rng3D [(.ex (fz (propF "Weather" s_Weather_hours (.nm 1)))), (.ex (cst (.int 0))), (.ex (una negI (.ex (cst (.int 1)))))]) (.nm 4) (s_onward_counts_b1)) <|
  retV 3
-- /G
-- G s_ways
def s_ways : Fn := fnOf 0 <|
  retE (sh (bin idx (.ex (fz (callF s_onward_counts [(.nm 0), (.nm 1)]))) (.ex (cst (.int 1)))))
-- /G
-- G s_closed_ways_b1
def s_closed_ways_b1 : S :=
  ifS (truT (.ex (bin idx (.nm 2) (.nm 4)))) (putS lput 3 (vr 4) (fz (blt sumL [(.ex (fz (slE (.nm 3) (some (fz (blt max2L [(.ex (bin subI (.nm 4) (.ex (una (fld "Lacquer" ["a", "b"] 1) (.nm 0))))), (.ex (cst (.int 0)))]))) (some (fz (blt max2L [(.ex (bin addI (.ex (bin subI (.nm 4) (.ex (una (fld "Lacquer" ["a", "b"] 0) (.nm 0))))) (.ex (cst (.int 1))))), (.ex (cst (.int 0)))]))))))]))) (passS)
-- /G
-- G s_closed_ways
def s_closed_ways : Fn := fnOf 3 <|
  seqS (setE 2 (callF s_dry_flags [(.ex (fz (methF "Weather" "signs" s_Weather_signs (.nm 1) [])))])) <|
  seqS (setE 3 (binE mulL (.ex (fz (lstP [cst (.int 0)]))) (.ex (fz (blt lenL [(.nm 2)]))))) <|
  seqS (putS lput 3 (cst (.int 1)) (cst (.int 1))) <|
  seqS (forS (rngI rng2D [(.ex (cst (.int 2))), (.ex (fz (blt lenL [(.nm 2)])))]) (.nm 4) (s_closed_ways_b1)) <|
  retE (sh (bin idx (.nm 3) (.ex (una negI (.ex (cst (.int 1)))))))
-- /G
-- G s_Weather_back
def s_Weather_back : Fn := fnOf 0 <|
  seqS (ifS (notT (truT (.ex (fz (methF "Weather" "is_dry" s_Weather_is_dry (.nm 0) [(.ex (fz (propF "Weather" s_Weather_hours (.nm 0))))]))))) (raiseS "BadWeather") (passS)) <|
  retE (mkE "Weather" s_Weather__init [(.ex (fz (blt listL [(.ex (fz (rvtE (.ex (una (fld "Weather" ["lengths", "_signs"] 0) (.nm 0))))))])))])
-- /G
theorem dF0 {l : List Bool} : dF l 0 = false := by simp [dF]
theorem dF1 {l : List Bool} (h : l[0]? = some true) : dF l 1 = true := by rw [dF_succ, List.getD_eq_getElem?_getD, h]; rfl
theorem dF_out {l : List Bool} {h : Nat} (hh : l.length < h) : dF l h = false := by
  cases e : dF l h with
  | false => rfl
  | true => have := (dF_le e).2; omega
theorem closed_ways_ok {a b : Int} {l : List Bool} (h0 : 1 ≤ a) (h1 : a < b) (h2 : b ≤ 1000) (sk : Sky l) : s_closed_ways [.shr (lacD a b), .shr (wD l)] = .ok (.shr (.int (Tn a b (dF l) l.length))) [.no, .no] := by
  have hl := sk.le
  have hp := sk.pos
  have e1 := dry_flags_ok (l := l) (by omega)
  have r := rng2_a (i := 2) (j := (l.length : Int) + 1) (by omega) (by omega) (by omega) (by omega)
  rw [show ((l.length : Int) + 1 - 2).toNat = l.length - 1 by omega] at r
  have rp := o_repL (d := .int 0) (x := (l.length : Int) + 1) (by omega) (by omega)
  rw [show ((l.length : Int) + 1).toNat = l.length + 1 by omega, cl_rep] at rp
  have ix1 : ixN (l.length + 1) 1 = some 1 := by rw [ixN_nn (by omega) (by omega)]; rfl
  have s1 : (clD (l.length + 1) fun _ => 0).set 1 (.int 1) = clD (l.length + 1) fun i => if i < 2 + 0 then Tn a b (dF l) i else 0 := by
    rw [cl_set]
    refine cl_congr fun i _ => ?_
    by_cases c1 : i = 1
    · rw [if_pos c1, if_pos (by omega), c1, Tn_one]
    · rw [if_neg c1]
      by_cases c0 : i = 0
      · rw [if_pos (by omega), c0, Tn_zero dF0]
      · rw [if_neg (by omega)]
  obtain ⟨e', g1, s4, rfl, _⟩ := loop_rng (tg := .nm 4) (body := s_closed_ways_b1) 2 (l.length - 1)
    (fun k e => ∃ s4, e = [.shr (lacD a b), .shr (wD l), .own (.lst (flD (l.length + 1) (dF l))), .own (.lst (clD (l.length + 1) fun i => if i < 2 + k then Tn a b (dF l) i else 0)), s4] ∧ loB s4 = true)
    [.shr (lacD a b), .shr (wD l), .own (.lst (flD (l.length + 1) (dF l))), .own (.lst (clD (l.length + 1) fun i => if i < 2 + 0 then Tn a b (dF l) i else 0)), .no] ⟨.no, rfl, rfl⟩ (fun j env hj hi => by
      obtain ⟨s4, rfl, h4⟩ := hi
      have hx := fl_idx (n := l.length + 1) (f := dF l) (x := 2 + (j : Int)) (by omega) (by omega)
      rw [show (2 + (j : Int)).toNat = 2 + j by omega] at hx
      refine ⟨[.shr (lacD a b), .shr (wD l), .own (.lst (flD (l.length + 1) (dF l))), .own (.lst (clD (l.length + 1) fun i => if i < 2 + j then Tn a b (dF l) i else 0)), .shr (.int (2 + (j : Int)))], [.shr (lacD a b), .shr (wD l), .own (.lst (flD (l.length + 1) (dF l))), .own (.lst (clD (l.length + 1) fun i => if i < 2 + (j + 1) then Tn a b (dF l) i else 0)), .shr (.int (2 + (j : Int)))], by simp [setOk_lo, h4], .inl ?_, _, rfl, rfl⟩
      by_cases hd : dF l (2 + j) = true
      · rw [hd] at hx
        have an := cl_sum (n := l.length + 1) (f := fun i => if i < 2 + j then Tn a b (dF l) i else 0) (u := max (2 + (j : Int) - b) 0) (v := max (2 + (j : Int) - a + 1) 0) (N := l.length + 1) (by omega) (by omega) (Nat.le_refl _) (fun i h3 h4 => by omega)
        have es : sm (fun i => if max (2 + (j : Int) - b) 0 ≤ i ∧ (i : Int) < max (2 + (j : Int) - a + 1) 0 then (if i < 2 + j then Tn a b (dF l) i else 0) else 0) (l.length + 1) = Tn a b (dF l) (2 + j) := by
          rw [Tn_eq h0 (by omega) hd (N := l.length + 1) (by omega)]
          refine sm_congr fun i _ => ?_
          by_cases c : (i : Int) + a ≤ ((2 + j : Nat) : Int) ∧ ((2 + j : Nat) : Int) ≤ i + b
          · rw [if_pos c, if_pos (by omega), if_pos (by omega)]
          · rw [if_neg c]
            by_cases c2 : max (2 + (j : Int) - b) 0 ≤ i ∧ (i : Int) < max (2 + (j : Int) - a + 1) 0
            · omega
            · rw [if_neg c2]
        rw [es] at an
        have hs : (clD (l.length + 1) fun i => if i < 2 + j then Tn a b (dF l) i else 0).set (2 + j) (.int (Tn a b (dF l) (2 + j))) = clD (l.length + 1) fun i => if i < 2 + (j + 1) then Tn a b (dF l) i else 0 := by
          rw [cl_set]
          refine cl_congr fun i _ => ?_
          by_cases c : i = 2 + j
          · rw [if_pos c, if_pos (by omega), c]
          · rw [if_neg c]
            by_cases c2 : i < 2 + j
            · rw [if_pos c2, if_pos (by omega)]
            · rw [if_neg c2, if_neg (by omega)]
        have ix : ixN (l.length + 1) (2 + (j : Int)) = some (2 + j) := by rw [ixN_nn (by omega) (by omega), show (2 + (j : Int)).toNat = 2 + j by omega]
        rw [← hs]
        generalize (clD (l.length + 1) fun i => if i < 2 + j then Tn a b (dF l) i else 0) = C at *
        generalize Tn a b (dF l) (2 + j) = V at *
        have lc : C.length = l.length + 1 := by have := congrArg List.length hs; simpa using this
        simp [s_closed_ways_b1, hx, slL_lst, opA, partD, an, lput, ix, lc]
      · have hd' : dF l (2 + j) = false := by simpa using hd
        rw [hd'] at hx
        have hs : (clD (l.length + 1) fun i => if i < 2 + j then Tn a b (dF l) i else 0) = clD (l.length + 1) fun i => if i < 2 + (j + 1) then Tn a b (dF l) i else 0 := cl_congr fun i _ => by
          by_cases c : i = 2 + j
          · rw [if_neg (by omega), if_pos (by omega), c, Tn_damp (by omega) hd']
          · by_cases c2 : i < 2 + j
            · rw [if_pos c2, if_pos (by omega)]
            · rw [if_neg c2, if_neg (by omega)]
        rw [← hs]
        generalize (clD (l.length + 1) fun i => if i < 2 + j then Tn a b (dF l) i else 0) = C at *
        simp [s_closed_ways_b1, hx])
  have fin := cl_last (n := l.length + 1) (f := fun i => if i < 2 + (l.length - 1) then Tn a b (dF l) i else 0) (by omega)
  rw [Nat.add_sub_cancel, if_pos (by omega)] at fin
  generalize (clD (l.length + 1) fun i => if i < 2 + (l.length - 1) then Tn a b (dF l) i else 0) = C2 at *
  have rp' := rp
  generalize hC : (clD (l.length + 1) fun i => if i < 2 + 0 then Tn a b (dF l) i else 0) = C1 at *
  have lc : (clD (l.length + 1) fun _ => 0).length = l.length + 1 := by simp
  generalize (clD (l.length + 1) fun _ => 0) = C0 at *
  simp [s_closed_ways, signs_ok sk, e1, setOk_lo, lstL, rp, lput, lc, ix1, s1, r, g1, fin]
/-- the weights of the last coats -/
def eOn (b : Int) (n : Nat) (h : Nat) : Int := if (n : Int) < h + b then 1 else 0
theorem onward_counts_ok {a b : Int} {l : List Bool} (h0 : 1 ≤ a) (h1 : a < b) (h2 : b ≤ 1000) (sk : Sky l) : s_onward_counts [.shr (lacD a b), .shr (wD l)] = .ok (.own (.lst (clD (l.length + 1) (Gn a b (dF l) l.length (eOn b l.length))))) [.no, .no] := by
  have hl := sk.le
  have hp := sk.pos
  have e1 := dry_flags_ok (l := l) (by omega)
  have rp := o_repL (d := .int 0) (x := (l.length : Int) + 1) (by omega) (by omega)
  rw [show ((l.length : Int) + 1).toNat = l.length + 1 by omega, cl_rep] at rp
  have z0 : (clD (l.length + 1) fun _ => 0) = clD (l.length + 1) fun i => if l.length - 0 < i then Gn a b (dF l) l.length (eOn b l.length) i else 0 := cl_congr fun i hi => by rw [if_neg (by omega)]
  obtain ⟨e', g1, s4, rfl, _⟩ := loop_down (tg := .nm 4) (body := s_onward_counts_b1) l.length
    (fun k e => ∃ s4, e = [.shr (lacD a b), .shr (wD l), .own (.lst (flD (l.length + 1) (dF l))), .own (.lst (clD (l.length + 1) fun i => if l.length - k < i then Gn a b (dF l) l.length (eOn b l.length) i else 0)), s4] ∧ loB s4 = true)
    [.shr (lacD a b), .shr (wD l), .own (.lst (flD (l.length + 1) (dF l))), .own (.lst (clD (l.length + 1) fun i => if l.length - 0 < i then Gn a b (dF l) l.length (eOn b l.length) i else 0)), .no] ⟨.no, rfl, rfl⟩ (fun k env hk hi => by
      obtain ⟨s4, rfl, h4⟩ := hi
      have cst : ((l.length : Int) - (k : Int)) = ((l.length - k : Nat) : Int) := by omega
      rw [cst]
      have hx := fl_idxN (n := l.length + 1) (i := l.length - k) (f := dF l) (by omega)
      refine ⟨[.shr (lacD a b), .shr (wD l), .own (.lst (flD (l.length + 1) (dF l))), .own (.lst (clD (l.length + 1) fun i => if l.length - k < i then Gn a b (dF l) l.length (eOn b l.length) i else 0)), .shr (.int ((l.length - k : Nat) : Int))], [.shr (lacD a b), .shr (wD l), .own (.lst (flD (l.length + 1) (dF l))), .own (.lst (clD (l.length + 1) fun i => if l.length - (k + 1) < i then Gn a b (dF l) l.length (eOn b l.length) i else 0)), .shr (.int ((l.length - k : Nat) : Int))], by simp [setOk_lo, h4], .inl ?_, _, rfl, rfl⟩
      obtain ⟨h, hh⟩ : ∃ h, h = l.length - k := ⟨_, rfl⟩
      have hk1 : l.length - (k + 1) = h - 1 := by omega
      rw [hk1]
      rw [← hh] at hx ⊢
      have hb : 1 ≤ h ∧ h ≤ l.length := by omega
      by_cases hd : dF l h = true
      · rw [hd] at hx
        have an := cl_sum (n := l.length + 1) (f := fun i => if h < i then Gn a b (dF l) l.length (eOn b l.length) i else 0) (u := (h : Int) + a) (v := (h : Int) + b + 1) (N := l.length + 1) (by omega) (by omega) (Nat.le_refl _) (fun i h3 h4 => by omega)
        have ge := Gn_eq (n := l.length) (e := eOn b l.length) (b := b) h0 hd
        have es : sm (fun i => if (h : Int) + a ≤ i ∧ (i : Int) < (h : Int) + b + 1 then (if h < i then Gn a b (dF l) l.length (eOn b l.length) i else 0) else 0) (l.length + 1) = sm (fun i => if (h : Int) + a ≤ i ∧ (i : Int) ≤ h + b then Gn a b (dF l) l.length (eOn b l.length) i else 0) (l.length + 1) := sm_congr fun i _ => by
          by_cases c : (h : Int) + a ≤ i ∧ (i : Int) ≤ h + b
          · rw [if_pos c, if_pos (by omega), if_pos (by omega)]
          · rw [if_neg c, if_neg (by omega)]
        rw [es] at an
        generalize sm (fun i => if (h : Int) + a ≤ i ∧ (i : Int) ≤ h + b then Gn a b (dF l) l.length (eOn b l.length) i else 0) (l.length + 1) = S at *
        have hs : (clD (l.length + 1) fun i => if h < i then Gn a b (dF l) l.length (eOn b l.length) i else 0).set h (.int (Gn a b (dF l) l.length (eOn b l.length) h)) = clD (l.length + 1) fun i => if h - 1 < i then Gn a b (dF l) l.length (eOn b l.length) i else 0 := by
          rw [cl_set]
          refine cl_congr fun i _ => ?_
          by_cases c : i = h
          · rw [if_pos c, if_pos (by omega), c]
          · rw [if_neg c]
            by_cases c2 : h < i
            · rw [if_pos c2, if_pos (by omega)]
            · rw [if_neg c2, if_neg (by omega)]
        rw [← hs, ge]
        have lc : (clD (l.length + 1) fun i => if h < i then Gn a b (dF l) l.length (eOn b l.length) i else 0).length = l.length + 1 := by simp
        generalize (clD (l.length + 1) fun i => if h < i then Gn a b (dF l) l.length (eOn b l.length) i else 0) = C at *
        have ix : ixN (l.length + 1) (h : Int) = some h := by rw [ixN_nn (by omega) (by omega), Int.toNat_natCast]
        have gi : idx (.lst (C.set h (.int S))) (.int (h : Int)) = some (.int S) := by
          rw [o_idx (by omega), Int.toNat_natCast, List.getElem?_set_self (by omega)]
        by_cases c : (l.length : Int) < h + b
        · have eo : eOn b l.length h = 1 := if_pos c
          rw [eo, show (1 : Int) + S = S + 1 by omega]
          simp [s_onward_counts_b1, hx, slL_lst, opA, partD, an, lput, ix, lc, hours_ok sk, c, gi, ownLst]
        · have eo : eOn b l.length h = 0 := if_neg c
          rw [eo, Int.zero_add]
          simp [s_onward_counts_b1, hx, slL_lst, opA, partD, an, lput, ix, lc, hours_ok sk, c]
      · have hd' : dF l h = false := by simpa using hd
        rw [hd'] at hx
        have hs : (clD (l.length + 1) fun i => if h < i then Gn a b (dF l) l.length (eOn b l.length) i else 0) = clD (l.length + 1) fun i => if h - 1 < i then Gn a b (dF l) l.length (eOn b l.length) i else 0 := cl_congr fun i _ => by
          by_cases c : i = h
          · rw [if_neg (by omega), if_pos (by omega), c, Gn_damp hd']
          · by_cases c2 : h < i
            · rw [if_pos c2, if_pos (by omega)]
            · rw [if_neg c2, if_neg (by omega)]
        rw [← hs]
        generalize (clD (l.length + 1) fun i => if h < i then Gn a b (dF l) l.length (eOn b l.length) i else 0) = C at *
        simp [s_onward_counts_b1, hx])
  have fin : (clD (l.length + 1) fun i => if l.length - l.length < i then Gn a b (dF l) l.length (eOn b l.length) i else 0) = clD (l.length + 1) (Gn a b (dF l) l.length (eOn b l.length)) := cl_congr fun i _ => by
    by_cases c : i = 0
    · rw [if_neg (by omega), c, Gn_damp dF0]
    · rw [if_pos (by omega)]
  rw [fin, ← z0] at g1
  have hR := fun E : Sl => rngI_dn (x := fz (propF "Weather" s_Weather_hours (.nm 1))) (y := cst (.int 0)) (z := una negI (.ex (cst (.int 1)))) (n := l.length) (env := [.shr (lacD a b), .shr (wD l), .own (.lst (flD (l.length + 1) (dF l))), E, .no]) (e1 := [.shr (lacD a b), .shr (wD l), .own (.lst (flD (l.length + 1) (dF l))), E, .no]) (e2 := [.shr (lacD a b), .shr (wD l), .own (.lst (flD (l.length + 1) (dF l))), E, .no]) (e3 := [.shr (lacD a b), .shr (wD l), .own (.lst (flD (l.length + 1) (dF l))), E, .no]) (by omega) (by simp [hours_ok sk]) (by simp) (by simp)
  generalize (clD (l.length + 1) fun _ => 0) = C0 at *
  generalize clD (l.length + 1) (Gn a b (dF l) l.length (eOn b l.length)) = C1 at *
  simp [-q_rngI, s_onward_counts, signs_ok sk, e1, setOk_lo, lstL, rp, hR, g1]
theorem ways_ok {a b : Int} {l : List Bool} (h0 : 1 ≤ a) (h1 : a < b) (h2 : b ≤ 1000) (sk : Sky l) : s_ways [.shr (lacD a b), .shr (wD l)] = .ok (.shr (.int (Gn a b (dF l) l.length (eOn b l.length) 1))) [.no, .no] := by
  have e1 := onward_counts_ok h0 h1 h2 sk
  have hp := sk.pos
  have ix := cl_idx (n := l.length + 1) (f := Gn a b (dF l) l.length (eOn b l.length)) (x := 1) (by omega) (by omega)
  simp only [Int.toNat_one] at ix
  simp [s_ways, e1, ix]
end PL

/-! Pl41: lengths are told by signs; a weather turned round. -/
namespace PL
open PySem L2
theorem exL_cons {b : Bool} {n : Int} {ns : List Int} : exL b (n :: ns) = List.replicate n.toNat b ++ exL (!b) ns := by simp [exL, prtL]
theorem exL_hd {b : Bool} {ns : List Int} (h : ∀ x ∈ ns, 1 ≤ x) : exL b ns = [] ∨ (exL b ns)[0]? = some b := by
  cases ns with
  | nil => exact .inl rfl
  | cons n ns =>
    have := h n (by simp)
    refine .inr ?_
    rw [exL_cons, List.getElem?_append_left (by simp; omega), List.getElem?_replicate, if_pos (by omega)]
theorem exL_inj : ∀ {b : Bool} {ns ms : List Int}, (∀ x ∈ ns, 1 ≤ x) → (∀ x ∈ ms, 1 ≤ x) → exL b ns = exL b ms → ns = ms
  | _, [], [], _, _, _ => rfl
  | b, [], m :: ms, _, h2, e => by
    have := h2 m (by simp)
    have := congrArg List.length e
    rw [exL_cons] at this
    simp [exL, prtL] at this
    omega
  | b, n :: ns, [], h1, _, e => by
    have := h1 n (by simp)
    have := congrArg List.length e
    rw [exL_cons] at this
    simp [exL, prtL] at this
    omega
  | b, n :: ns, m :: ms, h1, h2, e => by
    have n1 := h1 n (by simp)
    have m1 := h2 m (by simp)
    rw [exL_cons, exL_cons] at e
    have key : ∀ {x y : Int} {xs ys : List Int}, 1 ≤ x → 1 ≤ y → (∀ z ∈ xs, 1 ≤ z) → List.replicate x.toNat b ++ exL (!b) xs = List.replicate y.toNat b ++ exL (!b) ys → ¬ x < y := fun {x y xs ys} hx hy hxs e c => by
      have z : (List.replicate x.toNat b ++ exL (!b) xs)[x.toNat]? = (List.replicate y.toNat b ++ exL (!b) ys)[x.toNat]? := by rw [e]
      rw [List.getElem?_append_right (by simp), List.getElem?_append_left (by simp; omega), List.getElem?_replicate, if_pos (by omega), List.length_replicate, Nat.sub_self] at z
      rcases exL_hd (b := !b) hxs with q | q
      · rw [q] at z; simp at z
      · rw [q] at z; cases b <;> simp at z
    have nm : n = m := by
      have := key n1 m1 (fun z hz => h1 z (by simp [hz])) e
      have := key m1 n1 (fun z hz => h2 z (by simp [hz])) e.symm
      omega
    subst nm
    rw [exL_inj (fun z hz => h1 z (by simp [hz])) (fun z hz => h2 z (by simp [hz])) (List.append_cancel_left e)]
theorem exL_rev : ∀ {b : Bool} {ns : List Int}, (exL b ns).reverse = exL (if ns.length % 2 = 1 then b else !b) ns.reverse
  | _, [] => by simp [exL, prtL]
  | b, n :: ns => by
    rw [exL_cons, List.reverse_append, List.reverse_replicate, exL_rev, List.reverse_cons, exL_snoc, List.length_reverse, List.length_cons]
    by_cases h : ns.length % 2 = 1
    · rw [if_pos h, if_neg (by omega : ¬ (ns.length + 1) % 2 = 1), if_neg (by omega : ¬ ns.length % 2 = 0)]; simp
    · rw [if_neg h, if_pos (by omega : (ns.length + 1) % 2 = 1), if_pos (by omega : ns.length % 2 = 0)]; simp
theorem lensL_odd {l : List Bool} (h : l[0]? = some true) (hl : l[l.length - 1]? = some true) : (lensL l).length % 2 = 1 := by
  have hp : 1 ≤ l.length := by cases l with | nil => simp at h | cons => simp
  obtain ⟨i1, i2, i3, i4, i5⟩ := grpL_ok h l.length hp (Nat.le_refl _)
  rw [hl] at i2
  have : (grpL l l.length).1.length % 2 = 0 := by
    by_cases c : (grpL l l.length).1.length % 2 = 0
    · exact c
    · rw [decide_eq_false c] at i2; simp at i2
  unfold lensL
  rw [List.length_append, List.length_singleton]
  omega
theorem lens_uniq {ns : List Int} {l : List Bool} (h : l[0]? = some true) (h1 : ∀ x ∈ ns, 1 ≤ x) (e : exL true ns = l) : ns = lensL l := by
  obtain ⟨k1, k2, _, _⟩ := lensL_ok h
  exact exL_inj h1 k2 (by rw [e, k1])
theorem sky_rev {l : List Bool} (sk : Sky l) (hl : l[l.length - 1]? = some true) : Sky l.reverse := by
  have := sk.pos
  exact ⟨by rw [List.getElem?_reverse (by omega), Nat.sub_zero]; exact hl, by rw [List.length_reverse]; exact sk.le⟩
theorem lens_rev {l : List Bool} (sk : Sky l) (hl : l[l.length - 1]? = some true) : (lensL l).reverse = lensL l.reverse := by
  obtain ⟨k1, k2, _, _⟩ := lensL_ok sk.hd
  refine lens_uniq (sky_rev sk hl).hd (fun x hx => k2 x (by simpa using hx)) ?_
  have := exL_rev (b := true) (ns := lensL l)
  rw [k1, if_pos (lensL_odd sk.hd hl)] at this
  exact this.symm
theorem wD_ln {l : List Bool} : fld "Weather" ["lengths", "_signs"] 0 (wD l) = some (.tup ((lensL l).map .int)) := by
  simp [fld, wD, weaD]
theorem is_dry_ok {l : List Bool} (sk : Sky l) {x : Int} (h1 : 1 ≤ x) (h2 : x ≤ l.length) : s_Weather_is_dry [.shr (wD l), .shr (.int x)] = .ok (.shr (.bl (dF l x.toNat))) [.no, .no] := by
  have hl := sk.le
  have ix := idx_dF (l := l) (x := x) h1 h2
  cases hd : dF l x.toNat with
  | true =>
    rw [hd] at ix
    simp [s_Weather_is_dry, hours_ok sk, wD_sg sk, h1, h2, ix]
  | false =>
    rw [hd] at ix
    simp [s_Weather_is_dry, hours_ok sk, wD_sg sk, h1, h2, ix]
@[simp] theorem wD_rcv4 {l : List Bool} : rcvOk "Weather" "back" (some (wD l)) = true := by
  show (decide ((Str.ofString "Weather") = Str.ofString "Weather") && !(([Str.ofString "lengths", Str.ofString "_signs"] : List Str).contains (Str.ofString "back"))) = true
  decide +kernel
theorem dF_last {l : List Bool} (hp : 1 ≤ l.length) : dF l l.length = true ↔ l[l.length - 1]? = some true := by
  obtain ⟨k, hk⟩ : ∃ k, l.length = k + 1 := ⟨l.length - 1, by omega⟩
  rw [hk, dF_succ, Nat.add_sub_cancel, List.getD_eq_getElem?_getD, List.getElem?_eq_getElem (by omega)]
  simp
theorem back_ok {l : List Bool} (sk : Sky l) (hd : dF l l.length = true) : s_Weather_back [.shr (wD l)] = .ok (.own (wD l.reverse)) [.no] := by
  have hl := sk.le
  have hp := sk.pos
  have hlast := (dF_last hp).mp hd
  have e1 := is_dry_ok sk (x := (l.length : Int)) (by omega) (by omega)
  rw [Int.toNat_natCast, hd] at e1
  obtain ⟨k1, k2, k3, k4⟩ := lensL_ok (sky_rev sk hlast).hd
  have e2 := wea_init k3 k2 (by rw [k4, List.length_reverse]; omega)
  have lr : ((lensL l).map D.int).reverse = (lensL l.reverse).map D.int := by rw [← List.map_reverse, lens_rev sk hlast]
  simp [s_Weather_back, hours_ok sk, e1, wD_ln, lr, e2, -List.map_reverse]
  rfl
end PL

/-! Pl42: the longest spell, turns, good places, legs. -/
namespace PL
open PySem L2
-- G s_check
def s_check : Fn := fnOf 0 <|
  ifS (notT (tst (chain3P leD leD leD (.ex (cst (.int 1))) (.nm 0) (.nm 1) (.ex (cst (.int 400)))))) (raiseS "BadNumber") (passS)
-- /G
-- G s_Climate_longest_b1
def s_Climate_longest_b1 : S :=
  ifS (tst (bin leD (.nm 4) (.nm 1))) (setE 2 (sh (vr 3))) (passS)
-- /G
-- G s_Climate_longest
def s_Climate_longest : Fn := fnOf 3 <|
  seqS (setE 2 (sh (cst (.int 0)))) <|
  seqS (forS (seqI (una (fld "Climate" ["kinds"] 0) (.nm 0))) (.tup [.nm 3, .nm 4]) (s_Climate_longest_b1)) <|
  retV 2
-- /G
-- G s_Lacquer_turns
def s_Lacquer_turns : Fn := fnOf 0 <|
  seqS (ifS (tst (bin ltD (.nm 1) (.ex (cst (.int 0))))) (raiseS "BadNumber") (passS)) <|
  retE (sh (una negI (.ex (bin fdivI (.ex (una negI (.nm 1))) (.ex (una (fld "Lacquer" ["a", "b"] 0) (.nm 0)))))))
-- /G
-- G s_enough
def s_enough : Fn := fnOf 0 <|
  retE (sh (bin geD (.ex (bin mulI (.ex (fz (methF "Lacquer" "turns" s_Lacquer_turns (.nm 0) [(.nm 1)]))) (.ex (una (fld "Lacquer" ["a", "b"] 1) (.nm 0))))) (.ex (fz (binE addD (.nm 1) (.nm 2))))))
-- /G
-- G s_good_places_t1
def s_good_places_t1 : T :=
  truT (.ex (fz (callF s_enough [(.nm 0), (.ex (bin addI (.ex (bin subI (.nm 2) (.nm 4))) (.ex (cst (.int 1))))), (.nm 3)])))
-- /G
-- G s_good_places
def s_good_places : Fn := fnOf 2 <|
  seqS (dropE (callF s_check [(.nm 2), (.nm 2)])) <|
  seqS (setE 3 (methF "Climate" "longest" s_Climate_longest (.nm 1) [(.nm 2)])) <|
  retE (lcE (rngI rng2D [(.ex (cst (.int 1))), (.ex (bin addI (.nm 2) (.ex (cst (.int 1)))))]) (.nm 4) [4] s_good_places_t1 (vr 4))
-- /G
-- G s_leg_b1
def s_leg_b1 : S :=
  ifS (tst (bin geD (.nm 6) (.nm 5))) (seqS (mtS appD 4 [vr 6]) <|
  setE 5 (binE addD (.nm 6) (.ex (una (fld "Lacquer" ["a", "b"] 0) (.nm 0))))) (passS)
-- /G
-- G s_leg
def s_leg : Fn := fnOf 3 <|
  seqS (dropE (callF s_check [(.nm 3), (.nm 2)])) <|
  seqS (setE 4 (lstP [])) <|
  seqS (setE 5 (sh (vr 3))) <|
  seqS (forS (seqI (fz (callF s_good_places [(.nm 0), (.nm 1), (.nm 2)]))) (.nm 6) (s_leg_b1)) <|
  retV 4
-- /G
-- G s_is_good
def s_is_good : Fn := fnOf 0 <|
  seqS (dropE (callF s_check [(.nm 3), (.nm 2)])) <|
  retE (callF s_enough [(.nm 0), (.nm 3), (.ex (fz (methF "Climate" "longest" s_Climate_longest (.nm 1) [(.nm 2)])))])
-- /G
-- G s_law_sound_kinds_b1
def s_law_sound_kinds_b1 : S :=
  seqS (setE 10 (sh (bin addI (.ex (cst (.int 1))) (.ex (fz (callIO 0 s_law_take [(.nm 7)])))))) <|
  seqS (setE 11 (callF s_law_lead [(.nm 5), (.nm 6), (.nm 10)])) <|
  mtS appD 8 [tupP [vr 10, bin addI (.ex (bin addI (.nm 11) (.ex (cst (.int 1))))) (.ex (fz (callIO 0 s_law_take [(.ex (bin subI (.nm 4) (.nm 11)))])))]]
-- /G
-- G s_law_sound_kinds
def s_law_sound_kinds : Fn := fnOf 7 <|
  seqS (setE 5 (sh (bin idx (.nm 1) (.ex (cst (.int 0)))))) <|
  seqS (setE 6 (sh (bin idx (.nm 1) (.ex (cst (.int 1)))))) <|
  seqS (setE 7 (blt min3L [(.nm 3), (.ex (bin subI (.nm 6) (.ex (cst (.int 1))))), (.ex (bin mulI (.ex (bin addI (.ex (bin fdivI (.ex (bin subI (.nm 4) (.ex (cst (.int 1))))) (.nm 5))) (.ex (cst (.int 1))))) (.ex (bin subI (.nm 6) (.nm 5)))))])) <|
  seqS (setE 8 (lstP [])) <|
  seqS (forS (rngI rng1D [(.ex (fz (callIO 0 s_law_take [(.ex (bin addI (.nm 2) (.ex (cst (.int 1)))))])))]) (.nm 9) (s_law_sound_kinds_b1)) <|
  retV 8
-- /G
/-! ### the longest spell behind a run -/
def lonF (s : Int) (m : Int) (x : Int × Int) : Int := if x.2 ≤ s ∧ m < x.1 then x.1 else m
def lonL (l : List (Int × Int)) (s : Int) : Int := l.foldl (lonF s) 0
theorem lonF_ge {s : Int} : ∀ {l : List (Int × Int)} {m : Int}, m ≤ l.foldl (lonF s) m ∧ (∀ x ∈ l, x.2 ≤ s → x.1 ≤ l.foldl (lonF s) m) ∧ (l.foldl (lonF s) m = m ∨ ∃ x ∈ l, x.2 ≤ s ∧ l.foldl (lonF s) m = x.1)
  | [], m => ⟨Int.le_refl _, by simp, .inl rfl⟩
  | x :: l, m => by
    obtain ⟨h1, h2, h3⟩ := lonF_ge (s := s) (l := l) (m := lonF s m x)
    have h4 : m ≤ lonF s m x := by unfold lonF; split <;> omega
    have h5 : x.2 ≤ s → x.1 ≤ lonF s m x := fun z => by unfold lonF; split <;> omega
    rw [List.foldl_cons]
    refine ⟨by omega, fun y hy hs => ?_, ?_⟩
    · rcases List.mem_cons.mp hy with rfl | z
      · have := h5 hs; omega
      · exact h2 y z hs
    · rcases h3 with h3 | ⟨y, h6, h7, h8⟩
      · rw [h3]
        unfold lonF
        by_cases c : x.2 ≤ s ∧ m < x.1
        · rw [if_pos c]; exact .inr ⟨x, by simp, c.1, rfl⟩
        · rw [if_neg c]; exact .inl rfl
      · exact .inr ⟨y, by simp [h6], h7, h8⟩
theorem lon_nn {l : List (Int × Int)} {s : Int} : 0 ≤ lonL l s := (lonF_ge).1
theorem lon_ge {l : List (Int × Int)} {s : Int} {x : Int × Int} (hx : x ∈ l) (hs : x.2 ≤ s) : x.1 ≤ lonL l s := (lonF_ge).2.1 x hx hs
theorem lon_mem {l : List (Int × Int)} {s : Int} : lonL l s = 0 ∨ ∃ x ∈ l, x.2 ≤ s ∧ lonL l s = x.1 := (lonF_ge).2.2
theorem lon_le {l : List (Int × Int)} {s w g : Int} (h : Kin w g l) (hw : 0 ≤ w) : lonL l s ≤ w := by
  rcases lon_mem (l := l) (s := s) with e | ⟨x, h1, _, e⟩
  · omega
  · have := h x h1; omega
theorem law_longest_ok {l : List (Int × Int)} {s : Int} : s_law_longest [.shr (.lst (l.map kD)), .shr (.int s)] = .ok (.shr (.int (lonL l s))) [.no, .no] := by
  obtain ⟨e, g1, s3, rfl, _⟩ := loop_nx (tg := .nm 3) (body := s_law_longest_b1) (fun k e => ∃ s3, e = [.shr (.lst (l.map kD)), .shr (.int s), .shr (.int ((l.take k).foldl (lonF s) 0)), s3] ∧ loB s3 = true) (l.map kD) 0 [.shr (.lst (l.map kD)), .shr (.int s), .shr (.int 0), .no] ⟨.no, rfl, rfl⟩ (fun j d env hd hi => by
    rw [Nat.zero_add] at hi ⊢
    obtain ⟨s3, rfl, h3⟩ := hi
    obtain ⟨x, hx, rfl, ht⟩ := mapk_get hd
    rw [ht, List.foldl_append, List.foldl_cons, List.foldl_nil]
    generalize (l.take j).foldl (lonF s) 0 = m
    refine ⟨[.shr (.lst (l.map kD)), .shr (.int s), .shr (.int m), .shr (kD x)], [.shr (.lst (l.map kD)), .shr (.int s), .shr (.int (lonF s m x)), .shr (kD x)], by simp [setOk_lo, h3], .inl ?_, _, rfl, rfl⟩
    unfold lonF
    by_cases c1 : x.2 ≤ s
    · by_cases c2 : m < x.1
      · rw [if_pos ⟨c1, c2⟩]
        simp [s_law_longest_b1, kD_0, kD_1, c1, c2, setOk_lo]
      · rw [if_neg fun z => c2 z.2]
        simp [s_law_longest_b1, kD_0, kD_1, c1, c2]
    · rw [if_neg fun z => c1 z.1]
      simp [s_law_longest_b1, kD_0, kD_1, c1])
  rw [Nat.zero_add, List.length_map, List.take_length] at g1
  simp [s_law_longest, setOk_lo, g1, lonL]
/-- the last one that may stand behind the run, of an ascending list -/
def lstF (s : Int) (m : Int) (x : Int × Int) : Int := if x.2 ≤ s then x.1 else m
theorem lst_fold {s M : Int} : ∀ {P : List (Int × Int)} {m : Int}, P.Pairwise (fun x y => x.1 < y.1) → (∀ x ∈ P, x.2 ≤ s → x.1 ≤ M) → ((∃ x ∈ P, x.2 ≤ s ∧ x.1 = M) ∨ (m = M ∧ ∀ x ∈ P, ¬ x.2 ≤ s)) → P.foldl (lstF s) m = M
  | [], m, _, _, h => by
    rcases h with ⟨x, hx, _⟩ | ⟨h, _⟩
    · simp at hx
    · exact h
  | x :: P, m, hp, hb, h => by
    rw [List.foldl_cons]
    have hp' := List.pairwise_cons.mp hp
    refine lst_fold hp'.2 (fun y hy => hb y (by simp [hy])) ?_
    rcases h with ⟨y, hy, h1, h2⟩ | ⟨h1, h2⟩
    · rcases List.mem_cons.mp hy with rfl | z
      · refine .inr ⟨by unfold lstF; rw [if_pos h1, h2], fun z hz hs => ?_⟩
        have := hp'.1 z hz
        have := hb z (by simp [hz]) hs
        omega
      · exact .inl ⟨y, z, h1, h2⟩
    · exact .inr ⟨by unfold lstF; rw [if_neg (h2 x (by simp)), h1], fun y hy => h2 y (by simp [hy])⟩
theorem lsel_le {c : Int → Bool} {x : Int × Int} : ∀ {l : List (Int × Int)} {s : Option Int}, (x ∈ l ∧ c x.1 = true) ∨ (∃ m, s = some m ∧ m ≤ x.2) → ∃ m, lsel c s l = some m ∧ m ≤ x.2
  | [], s, h => by
    rcases h with h | h
    · simp at h
    · exact h
  | y :: l, s, h => by
    rw [lsel_cons]
    refine lsel_le ?_
    rcases h with ⟨h1, h2⟩ | ⟨m, rfl, h2⟩
    · rcases List.mem_cons.mp h1 with rfl | z
      · refine .inr ?_
        rw [if_pos h2]
        cases s with
        | none => exact ⟨_, rfl, Int.le_refl _⟩
        | some t => exact ⟨_, rfl, by omega⟩
      · exact .inl ⟨z, h2⟩
    · refine .inr ?_
      split
      · exact ⟨_, rfl, by omega⟩
      · exact ⟨m, rfl, h2⟩
theorem lge_le {l : List (Int × Int)} {x : Int × Int} {w : Int} (hx : x ∈ l) (hw : w ≤ x.1) : ∃ m, lge l w = some m ∧ m ≤ x.2 := lsel_le (.inl ⟨hx, decide_eq_true hw⟩)
theorem plainP_asc {l : List (Int × Int)} : (plainP l).Pairwise (fun x y => x.1 < y.1) := by
  unfold plainP
  rw [List.pairwise_filterMap]
  refine List.pairwise_lt_range.imp fun {i j} h x hx y hy => ?_
  have e : ∀ {w : Int} {z : Int × Int}, psel l w = some z → z.1 = w := fun {w z} hz => by
    unfold psel at hz
    split at hz
    · split at hz
      · cases hz
      · cases hz; rfl
    · cases hz
  rw [e hx, e hy]
  omega
theorem plainP_mem {l : List (Int × Int)} {x : Int × Int} (hx : x ∈ plainP l) : lge l x.1 = some x.2 := by
  obtain ⟨j, _, h2⟩ := List.mem_filterMap.mp hx
  unfold psel at h2
  split at h2
  · rename_i m e
    split at h2
    · cases h2
    · cases h2; exact e
  · cases h2
theorem plain_lon {l : List (Int × Int)} {s : Int} (h : Kin 16 120 l) : (plainP l).foldl (lstF s) 0 = lonL l s := by
  refine lst_fold plainP_asc (fun x hx hs => ?_) ?_
  · rcases lsel_mem (plainP_mem hx) with z | ⟨y, h1, h2, h3⟩
    · cases z
    · have h2' : x.1 ≤ y.1 := of_decide_eq_true h2
      have := lon_ge h1 (by omega : y.2 ≤ s)
      omega
  · rcases lon_mem (l := l) (s := s) with e | ⟨x, h1, h2, e⟩
    · refine .inr ⟨e.symm, fun x hx hs => ?_⟩
      rcases lsel_mem (plainP_mem hx) with z | ⟨y, h1, h2, h3⟩
      · cases z
      · have := lon_ge h1 (by omega : y.2 ≤ s)
        have := h y h1
        omega
    · refine .inl ?_
      obtain ⟨m, g1, g2⟩ := lge_le h1 (Int.le_refl x.1)
      have hb := h x h1
      refine ⟨(x.1, m), List.mem_filterMap.mpr ⟨(x.1 - 1).toNat, List.mem_range.mpr (by omega), ?_⟩, by simp; omega, e.symm⟩
      rw [show (((x.1 - 1).toNat : Nat) : Int) + 1 = x.1 by omega]
      unfold psel
      rw [g1]
      simp only []
      rw [if_neg]
      intro z
      rcases lsel_mem z with z | ⟨y, h3, h4, h5⟩
      · cases z
      · have h4' : x.1 + 1 ≤ y.1 := of_decide_eq_true h4
        have := lon_ge h3 (by omega : y.2 ≤ s)
        omega
theorem longest_ok {l : List (Int × Int)} {s : Int} (h : Kin 16 120 l) : s_Climate_longest [.shr (cliD (plainP l)), .shr (.int s)] = .ok (.shr (.int (lonL l s))) [.no, .no] := by
  rw [← plain_lon h]
  generalize plainP l = P
  obtain ⟨e, g1, s3, s4, rfl, _, _⟩ := loop_nx (tg := .tup [.nm 3, .nm 4]) (body := s_Climate_longest_b1) (fun k e => ∃ s3 s4, e = [.shr (cliD P), .shr (.int s), .shr (.int ((P.take k).foldl (lstF s) 0)), s3, s4] ∧ loB s3 = true ∧ loB s4 = true) (P.map kD) 0 [.shr (cliD P), .shr (.int s), .shr (.int 0), .no, .no] ⟨.no, .no, rfl, rfl, rfl⟩ (fun j d env hd hi => by
    rw [Nat.zero_add] at hi ⊢
    obtain ⟨s3, s4, rfl, h3, h4⟩ := hi
    obtain ⟨x, hx, rfl, ht⟩ := mapk_get hd
    rw [ht, List.foldl_append, List.foldl_cons, List.foldl_nil]
    generalize (P.take j).foldl (lstF s) 0 = m
    refine ⟨[.shr (cliD P), .shr (.int s), .shr (.int m), .shr (.int x.1), .shr (.int x.2)], [.shr (cliD P), .shr (.int s), .shr (.int (lstF s m x)), .shr (.int x.1), .shr (.int x.2)], by simp [kD, tgsS, setOk_lo, h3, h4], .inl ?_, _, _, rfl, rfl, rfl⟩
    unfold lstF
    by_cases c1 : x.2 ≤ s
    · rw [if_pos c1]; simp [s_Climate_longest_b1, c1, setOk_lo]
    · rw [if_neg c1]; simp [s_Climate_longest_b1, c1])
  rw [Nat.zero_add, List.length_map, List.take_length] at g1
  have fk : fld "Climate" ["kinds"] 0 (cliD P) = some (.tup (P.map kD)) := by simp [fld, cliD]
  simp [s_Climate_longest, setOk_lo, fk, g1]
/-! ### turns -/
def upZ (h a : Int) : Int := (h + a - 1) / a
theorem upZ_spec {h a : Int} (h0 : 1 ≤ a) : (upZ h a - 1) * a < h ∧ h ≤ upZ h a * a := by
  unfold upZ
  have e := Int.mul_ediv_add_emod (h + a - 1) a
  have m0 := Int.emod_nonneg (h + a - 1) (b := a) (by omega)
  have m1 := Int.emod_lt_of_pos (h + a - 1) (b := a) (by omega)
  rw [Int.mul_comm a] at e
  rw [Int.sub_mul, Int.one_mul]
  omega
theorem upZ_uniq {h a q : Int} (h0 : 1 ≤ a) (h1 : (q - 1) * a < h) (h2 : h ≤ q * a) : upZ h a = q := by
  obtain ⟨g1, g2⟩ := upZ_spec (h := h) h0
  have key : ∀ {p q : Int}, (p - 1) * a < h → h ≤ q * a → p ≤ q := fun {p q} z1 z2 => by
    have : (p - 1) * a < q * a := by omega
    have := Int.lt_of_mul_lt_mul_right this (by omega)
    omega
  have := key g1 h2
  have := key h1 g2
  omega
theorem upZ_mono {h h' a : Int} (h0 : 1 ≤ a) (hh : h ≤ h') : upZ h a ≤ upZ h' a := Int.ediv_le_ediv (by omega) (by omega)
theorem up_up {x y : Int} (h0 : 0 < y) (h1 : y < 1073741824) : s_law_up [.shr (.int x), .shr (.int y)] = .ok (.shr (.int (upZ x y))) [.no, .no] := up_ok h0 h1
theorem neg_up {h a : Int} (h0 : 1 ≤ a) : -((-h) / a) = upZ h a := by
  refine (upZ_uniq h0 ?_ ?_).symm
  · have e := Int.mul_ediv_add_emod (-h) a
    have m1 := Int.emod_lt_of_pos (-h) (b := a) (by omega)
    rw [Int.mul_comm a] at e
    rw [Int.sub_mul, Int.one_mul, Int.neg_mul]
    omega
  · have e := Int.mul_ediv_add_emod (-h) a
    have m0 := Int.emod_nonneg (-h) (b := a) (by omega)
    rw [Int.mul_comm a] at e
    rw [Int.neg_mul]
    omega
@[simp] theorem lac_rcvT {a b : Int} : rcvOk "Lacquer" "turns" (some (lacD a b)) = true := by
  show (decide ((Str.ofString "Lacquer") = Str.ofString "Lacquer") && !(([Str.ofString "a", Str.ofString "b"] : List Str).contains (Str.ofString "turns"))) = true
  decide +kernel
@[simp] theorem cli_rcvL {P : List (Int × Int)} : rcvOk "Climate" "longest" (some (cliD P)) = true := by
  show (decide ((Str.ofString "Climate") = Str.ofString "Climate") && !(([Str.ofString "kinds"] : List Str).contains (Str.ofString "longest"))) = true
  decide +kernel
theorem turns_ok {a b h : Int} (h0 : 1 ≤ a) (ha : a < 1000) (hh : 0 ≤ h) : s_Lacquer_turns [.shr (lacD a b), .shr (.int h)] = .ok (.shr (.int (upZ h a))) [.no, .no] := by
  have n : ¬ h < 0 := by omega
  have fd : fdivI (.int (-h)) (.int a) = some (.int ((-h) / a)) := by simp [fdivI, show 0 < a by omega, show a.natAbs < 1073741824 by omega]
  rw [← neg_up h0]
  simp [s_Lacquer_turns, n, fd]
/-- a coat h hours ahead of a spell of W hours can be followed over it -/
def enB (a b W h : Int) : Bool := decide (h + W ≤ upZ h a * b)
theorem enough_ok {a b h W : Int} (h0 : 1 ≤ a) (h1 : a < b) (h2 : b ≤ 1000) (hh : 0 ≤ h) : s_enough [.shr (lacD a b), .shr (.int h), .shr (.int W)] = .ok (.shr (.bl (enB a b W h))) [.no, .no, .no] := by
  have e1 := turns_ok (b := b) (h := h) h0 (by omega) hh
  have mu := o_mulR (x := upZ h a) (y := b) (by omega) (by omega)
  simp [s_enough, e1, mu, enB]
theorem check_in {x y : Int} (h1 : 1 ≤ x) (h2 : x ≤ y) (h3 : y ≤ 400) : s_check [.shr (.int x), .shr (.int y)] = .ok (.shr .non) [.no, .no] := by
  simp [s_check, h1, h2, h3]
end PL

/-! Pl43: good places and legs. -/
namespace PL
open PySem L2
/-- two ascending lists with the same members are the same -/
theorem asc_ext : ∀ {L M : List Int}, L.Pairwise (· < ·) → M.Pairwise (· < ·) → (∀ x, x ∈ L ↔ x ∈ M) → L = M
  | [], [], _, _, _ => rfl
  | [], y :: M, _, _, h => by have := (h y).mpr (by simp); simp at this
  | x :: L, [], _, _, h => by have := (h x).mp (by simp); simp at this
  | x :: L, y :: M, h1, h2, h => by
    have a1 := List.pairwise_cons.mp h1
    have a2 := List.pairwise_cons.mp h2
    have e : x = y := by
      rcases List.mem_cons.mp ((h x).mp (by simp)) with z | z
      · exact z
      · rcases List.mem_cons.mp ((h y).mpr (by simp)) with w | w
        · exact w.symm
        · have := a1.1 y w
          have := a2.1 x z
          omega
    subst e
    rw [asc_ext a1.2 a2.2 fun z => ?_]
    constructor
    · intro hz
      rcases List.mem_cons.mp ((h z).mp (by simp [hz])) with w | w
      · have := a1.1 z hz; omega
      · exact w
    · intro hz
      rcases List.mem_cons.mp ((h z).mpr (by simp [hz])) with w | w
      · have := a2.1 z hz; omega
      · exact w
/-- the good places of a run -/
def gpL (a b W : Int) (run : Int) : List Int := ((List.range run.toNat).filter fun (j : Nat) => enB a b W (run - (1 + (j : Int)) + 1)).map fun (j : Nat) => 1 + (j : Int)
theorem mem_gp {a b W run y : Int} : y ∈ gpL a b W run ↔ 1 ≤ y ∧ y ≤ run ∧ enB a b W (run - y + 1) = true := by
  unfold gpL
  rw [List.mem_map]
  constructor
  · rintro ⟨j, hj, rfl⟩
    obtain ⟨h1, h2⟩ := List.mem_filter.mp hj
    have := List.mem_range.mp h1
    exact ⟨by omega, by omega, h2⟩
  · rintro ⟨h1, h2, h3⟩
    exact ⟨(y - 1).toNat, List.mem_filter.mpr ⟨List.mem_range.mpr (by omega), by rw [show (1 : Int) + ((y - 1).toNat : Int) = y by omega]; exact h3⟩, by omega⟩
theorem gp_asc {a b W run : Int} : (gpL a b W run).Pairwise (· < ·) := by
  unfold gpL
  rw [List.pairwise_map]
  exact (List.pairwise_lt_range.filter _).imp fun h => by omega
theorem gp_len {a b W run : Int} : (gpL a b W run).length ≤ run.toNat := by
  unfold gpL
  rw [List.length_map]
  have := List.length_filter_le (fun (j : Nat) => enB a b W (run - (1 + (j : Int)) + 1)) (List.range run.toNat)
  rwa [List.length_range] at this
theorem good_places_ok {a b run : Int} {l : List (Int × Int)} (h0 : 1 ≤ a) (h1 : a < b) (h2 : b ≤ 1000) (hk : Kin 16 120 l) (r1 : 1 ≤ run) (r2 : run ≤ 400) : s_good_places [.shr (lacD a b), .shr (cliD (plainP l)), .shr (.int run)] = .ok (.own (.lst ((gpL a b (lonL l run) run).map .int))) [.no, .no, .no] := by
  have e1 := check_in (x := run) (y := run) r1 (Int.le_refl _) r2
  have e2 := longest_ok (s := run) hk
  have r := rng2_a (i := 1) (j := run + 1) (by omega) (by omega) (by omega) (by omega)
  rw [show (run + 1 - 1).toNat = run.toNat by omega] at r
  have c := lcL_rsel (tg := .nm 4) (vs := [4]) (test := s_good_places_t1) (elt := vr 4) (env0 := [.shr (lacD a b), .shr (cliD (plainP l)), .shr (.int run), .shr (.int (lonL l run)), .no]) 1 run.toNat (fun j => D.int (1 + (j : Int))) (fun j => enB a b (lonL l run) (run - (1 + (j : Int)) + 1)) (by omega) (fun j hj => by
    have e3 := enough_ok (h := run - (1 + (j : Int)) + 1) (W := lonL l run) h0 h1 h2 (by omega)
    exact ⟨[.shr (lacD a b), .shr (cliD (plainP l)), .shr (.int run), .shr (.int (lonL l run)), .shr (.int (1 + (j : Int)))], [.shr (lacD a b), .shr (cliD (plainP l)), .shr (.int run), .shr (.int (lonL l run)), .shr (.int (1 + (j : Int)))], by simp [setOk_lo], by simp [s_good_places_t1, e3], by simp, by simp, fun _ => ⟨[.shr (lacD a b), .shr (cliD (plainP l)), .shr (.int run), .shr (.int (lonL l run)), .shr (.int (1 + (j : Int)))], by simp, by simp, by simp⟩⟩)
  have cA : ((List.range run.toNat).filter fun (j : Nat) => enB a b (lonL l run) (run - (1 + (j : Int)) + 1)).map (fun (j : Nat) => D.int (1 + (j : Int))) = (gpL a b (lonL l run) run).map D.int := by unfold gpL; rw [List.map_map]; rfl
  rw [cA] at c
  generalize (gpL a b (lonL l run) run).map D.int = Y at *
  generalize run.toNat = N at *
  simp [s_good_places, e1, e2, setOk_lo, r, c]
/-- always on to the first one at least a later -/
def walkL (a : Int) : List Int → Int → List Int
  | [], _ => []
  | p :: ps, least => if least ≤ p then p :: walkL a ps (p + a) else walkL a ps least
theorem walk_len {a : Int} : ∀ {L : List Int} {least : Int}, (walkL a L least).length ≤ L.length
  | [], _ => Nat.le_refl _
  | p :: ps, least => by
    unfold walkL
    split
    · have := walk_len (a := a) (L := ps) (least := p + a)
      simp only [List.length_cons]; omega
    · have := walk_len (a := a) (L := ps) (least := least)
      simp only [List.length_cons]; omega
theorem leg_loop {a b run : Int} {P : List (Int × Int)} {s3 : Sl} : ∀ (L R : List Int) (least : Int) (s6 : Sl), loB s6 = true → R.length + L.length ≤ 100000 → ∃ (least' : Int) (s6' : Sl), loopS (.nm 6) s_leg_b1 (L.map .int) [.shr (lacD a b), .shr (cliD P), .shr (.int run), s3, .own (.lst (R.map .int)), .shr (.int least), s6] = .nx [.shr (lacD a b), .shr (cliD P), .shr (.int run), s3, .own (.lst ((R ++ walkL a L least).map .int)), .shr (.int least'), s6'] ∧ loB s6' = true
  | [], R, least, s6, h6, _ => ⟨least, s6, by simp [loopS, walkL], h6⟩
  | p :: L, R, least, s6, h6, hl => by
    rw [List.length_cons] at hl
    by_cases c : least ≤ p
    · obtain ⟨l', t6, g, gl⟩ := leg_loop L (R ++ [p]) (p + a) (.shr (.int p)) rfl (by rw [List.length_append, List.length_singleton]; omega)
      have ap := app_ints (X := R) (x := p) (by omega)
      refine ⟨l', t6, ?_, gl⟩
      rw [List.append_assoc] at g
      simp only [List.singleton_append] at g
      unfold walkL
      rw [if_pos c, List.map_cons, ← g]
      conv => lhs; unfold loopS
      simp [setOk_lo, h6, s_leg_b1, c, ap, -List.map_append]
    · obtain ⟨l', t6, g, gl⟩ := leg_loop L R least (.shr (.int p)) rfl (by omega)
      refine ⟨l', t6, ?_, gl⟩
      unfold walkL
      rw [if_neg c, List.map_cons, ← g]
      conv => lhs; unfold loopS
      simp [setOk_lo, h6, s_leg_b1, c, -List.map_append]
theorem leg_ok {a b run place : Int} {l : List (Int × Int)} (h0 : 1 ≤ a) (h1 : a < b) (h2 : b ≤ 1000) (hk : Kin 16 120 l) (r1 : 1 ≤ place) (r3 : place ≤ run) (r2 : run ≤ 400) : s_leg [.shr (lacD a b), .shr (cliD (plainP l)), .shr (.int run), .shr (.int place)] = .ok (.own (.lst ((walkL a (gpL a b (lonL l run) run) place).map .int))) [.no, .no, .no, .no] := by
  have e1 := check_in (x := place) (y := run) r1 r3 r2
  have e2 := good_places_ok h0 h1 h2 hk (by omega : 1 ≤ run) r2
  have gl := gp_len (a := a) (b := b) (W := lonL l run) (run := run)
  obtain ⟨l', t6, g, _⟩ := leg_loop (a := a) (b := b) (run := run) (P := plainP l) (s3 := .shr (.int place)) (gpL a b (lonL l run) run) [] place .no rfl (by simp; omega)
  simp only [List.map_nil, List.nil_append] at g
  generalize (walkL a (gpL a b (lonL l run) run) place).map D.int = Y at *
  generalize gpL a b (lonL l run) run = G at *
  simp [s_leg, e1, lstL, setOk_lo, e2, g]
theorem is_good_ok {a b run h : Int} {l : List (Int × Int)} (h0 : 1 ≤ a) (h1 : a < b) (h2 : b ≤ 1000) (hk : Kin 16 120 l) (r1 : 1 ≤ h) (r3 : h ≤ run) (r2 : run ≤ 400) : s_is_good [.shr (lacD a b), .shr (cliD (plainP l)), .shr (.int run), .shr (.int h)] = .ok (.shr (.bl (enB a b (lonL l run) h))) [.no, .no, .no, .no] := by
  have e1 := check_in (x := h) (y := run) r1 r3 r2
  have e2 := longest_ok (s := run) hk
  have e3 := enough_ok (h := h) (W := lonL l run) h0 h1 h2 (by omega)
  simp [s_is_good, e1, e2, e3]
/-! ### the walk over good places, in closed form -/
theorem walk_none {a : Int} : ∀ {L : List Int} {least : Int}, (∀ y ∈ L, ¬ least ≤ y) → walkL a L least = []
  | [], _, _ => rfl
  | p :: L, least, h => by
    unfold walkL
    rw [if_neg (h p (by simp)), walk_none fun y hy => h y (by simp [hy])]
theorem walk_step {a q : Int} (ha : 1 ≤ a) : ∀ {L : List Int} {least : Int}, L.Pairwise (· < ·) → q ∈ L → least ≤ q → (∀ y ∈ L, least ≤ y → q ≤ y) → walkL a L least = q :: walkL a L (q + a)
  | [], _, _, h, _, _ => by simp at h
  | p :: L, least, hp, hq, hl, hm => by
    have hp' := List.pairwise_cons.mp hp
    unfold walkL
    by_cases c : least ≤ p
    · have h1 := hm p (by simp) c
      have e : q = p := by
        rcases List.mem_cons.mp hq with z | z
        · exact z
        · have := hp'.1 q z; omega
      subst e
      rw [if_pos c, if_neg (by omega)]
    · have hq' : q ∈ L := by
        rcases List.mem_cons.mp hq with z | z
        · omega
        · exact z
      rw [if_neg c, if_neg (by omega), walk_step ha hp'.2 hq' hl fun y hy => hm y (by simp [hy])]
/-- coat j of the closed row -/
def clsC (a b W place T rest : Int) (j : Int) : Int := place + j * a + max 0 (W - rest - (T - j) * (b - a))
section
variable {a b W run place T rest : Int}
theorem cls_at (h0 : 1 ≤ a) (h1 : a < b) (hW : 0 ≤ W) (hWb : W < b) (hT : T * a - rest = run - place + 1) (hr : 0 ≤ rest) (hr2 : rest < a) {j : Int} (hj0 : 0 ≤ j) (hj : j < T) :
    upZ (run - clsC a b W place T rest j + 1) a = T - j ∧ run - clsC a b W place T rest j + 1 ≤ (T - j) * a - rest ∧ 1 ≤ run - clsC a b W place T rest j + 1 ∧ run - clsC a b W place T rest j + 1 + W ≤ (T - j) * b ∧
      (run - clsC a b W place T rest j + 1 = (T - j) * a - rest ∨ run - clsC a b W place T rest j + 1 + W = (T - j) * b) ∧ place ≤ clsC a b W place T rest j := by
  obtain ⟨u, hu⟩ : ∃ u, u = T - j := ⟨_, rfl⟩
  have e1 : T * a = u * a + j * a := by rw [hu, Int.sub_mul]; omega
  have e2 : u * b = u * a + u * (b - a) := by rw [Int.mul_sub]; omega
  have e3 : (u - 1) * a = u * a - a := by rw [Int.sub_mul, Int.one_mul]
  have e4 : b - a ≤ u * (b - a) := by
    have := Int.mul_le_mul_of_nonneg_right (a := 1) (b := u) (c := b - a) (by omega) (by omega)
    omega
  have e5 : a ≤ u * a := by
    have := Int.mul_le_mul_of_nonneg_right (a := 1) (b := u) (c := a) (by omega) (by omega)
    omega
  have e6 : 0 ≤ j * a := Int.mul_nonneg hj0 (by omega)
  unfold clsC
  rw [← hu]
  generalize T * a = TA at *
  generalize u * (b - a) = UD at *
  generalize hUA : u * a = UA at *
  generalize j * a = JA at *
  refine ⟨upZ_uniq h0 ?_ ?_, ?_, ?_, ?_, ?_, ?_⟩
  · rw [e3]; omega
  · rw [hUA]; omega
  · omega
  · omega
  · omega
  · omega
  · omega
theorem cls_step (h0 : 1 ≤ a) (h1 : a < b) {j : Int} : clsC a b W place T rest j + a ≤ clsC a b W place T rest (j + 1) ∧ clsC a b W place T rest (j + 1) ≤ clsC a b W place T rest j + b := by
  have e1 : (j + 1) * a = j * a + a := by rw [Int.add_mul, Int.one_mul]
  have e2 : (T - (j + 1)) * (b - a) = (T - j) * (b - a) - (b - a) := by rw [show T - (j + 1) = (T - j) - 1 by omega, Int.sub_mul, Int.one_mul]
  unfold clsC
  rw [e1, e2]
  generalize (T - j) * (b - a) = U
  generalize j * a = J
  omega
theorem walk_cls (h0 : 1 ≤ a) (h1 : a < b) (hW : 0 ≤ W) (hWb : W < b) (hT : T * a - rest = run - place + 1) (hr : 0 ≤ rest) (hr2 : rest < a) (hp : 1 ≤ place) : ∀ (m : Nat) (j : Int) (least : Int), 0 ≤ j → j + m = T → (least ≤ clsC a b W place T rest j) → (run + 1 - ((T - j) * a - rest) ≤ least) →
    walkL a (gpL a b W run) least = (List.range m).map fun (i : Nat) => clsC a b W place T rest (j + (i : Int))
  | 0, j, least, hj, hm, hl, hu => by
    have e : T - j = 0 := by omega
    rw [e, Int.zero_mul] at hu
    rw [walk_none]
    · rfl
    · intro y hy z
      have := (mem_gp.mp hy).2.1
      omega
  | m + 1, j, least, hj, hm, hl, hu => by
    obtain ⟨c1, c2, c3, c4, c5, c6⟩ := cls_at h0 h1 hW hWb hT hr hr2 (j := j) hj (by omega)
    have mem : clsC a b W place T rest j ∈ gpL a b W run := mem_gp.mpr ⟨by omega, by omega, by unfold enB; rw [c1]; exact decide_eq_true (by omega)⟩
    have st := cls_step (W := W) (place := place) (T := T) (rest := rest) h0 h1 (j := j)
    rw [walk_step h0 gp_asc mem hl fun y hy hy2 => ?_]
    · rw [walk_cls h0 h1 hW hWb hT hr hr2 hp m (j + 1) (clsC a b W place T rest j + a) (by omega) (by omega) st.1 (by
        have e : (T - (j + 1)) * a = (T - j) * a - a := by rw [show T - (j + 1) = (T - j) - 1 by omega, Int.sub_mul, Int.one_mul]
        rw [e]; omega), List.range_succ_eq_map, List.map_cons, List.map_map]
      congr 1
      · rw [Int.natCast_zero, Int.add_zero]
      · refine List.map_congr_left fun i _ => ?_
        show clsC a b W place T rest (j + 1 + (i : Int)) = clsC a b W place T rest (j + ((i + 1 : Nat) : Int))
        congr 1; omega
    · obtain ⟨y1, y2, y3⟩ := mem_gp.mp hy
      have y4 : run - y + 1 + W ≤ upZ (run - y + 1) a * b := of_decide_eq_true y3
      have y5 : upZ (run - y + 1) a ≤ T - j := by
        have := upZ_mono (h := run - y + 1) (h' := (T - j) * a - rest) h0 (by omega)
        have e := upZ_mono (h := (T - j) * a - rest) (h' := (T - j) * a) h0 (by omega)
        have e2 : upZ ((T - j) * a) a = T - j := upZ_uniq h0 (by rw [Int.sub_mul, Int.one_mul]; omega) (Int.le_refl _)
        omega
      have y6 : upZ (run - y + 1) a * b ≤ (T - j) * b := Int.mul_le_mul_of_nonneg_right y5 (by omega)
      omega
end
end PL

namespace PL
open PySem L2 PL
namespace Z20
def top (i : Nat) : Stmt := PySem.Challenge.pw_damphouse_k20_good_places_and_legs.main.body.getD i (.Pass ⟨0, 0, 0, 0⟩)
def inC (s : Stmt) (j : Nat) : Stmt := match s with
  | .ClassDef _ _ _ body _ _ _ _ _ _ _ => body.getD j (.Pass ⟨0, 0, 0, 0⟩)
  | _ => .Pass ⟨0, 0, 0, 0⟩
def dt_law_pool : He5.DefA := ⟨fun K => He.ga K "_law_pool", "_law_pool", "_law_pool", L2.defArgs (top 26), L2.defBody (top 26), L2.defScope (top 26), [], []⟩
def dt_law_take : He5.DefA := ⟨fun K => He.ga K "_law_take", "_law_take", "_law_take", L2.defArgs (top 27), L2.defBody (top 27), L2.defScope (top 27), [], []⟩
def dt_law_ab : He5.DefA := ⟨fun K => He.ga K "_law_ab", "_law_ab", "_law_ab", L2.defArgs (top 30), L2.defBody (top 30), L2.defScope (top 30), [], []⟩
def dt_law_kinds : He5.DefA := ⟨fun K => He.ga K "_law_kinds", "_law_kinds", "_law_kinds", L2.defArgs (top 31), L2.defBody (top 31), L2.defScope (top 31), [], []⟩
def dt_law_up : He5.DefA := ⟨fun K => He.ga K "_law_up", "_law_up", "_law_up", L2.defArgs (top 28), L2.defBody (top 28), L2.defScope (top 28), [], []⟩
def dt_law_lead : He5.DefA := ⟨fun K => He.ga K "_law_lead", "_law_lead", "_law_lead", L2.defArgs (top 32), L2.defBody (top 32), L2.defScope (top 32), [], []⟩
def dt_law_sound_kinds : He5.DefA := ⟨fun K => He.ga K "_law_sound_kinds", "_law_sound_kinds", "_law_sound_kinds", L2.defArgs (top 33), L2.defBody (top 33), L2.defScope (top 33), [], []⟩
def dt_law_tight : He5.DefA := ⟨fun K => He.ga K "_law_tight", "_law_tight", "_law_tight", L2.defArgs (top 36), L2.defBody (top 36), L2.defScope (top 36), [], []⟩
def dt_law_drawn : He5.DefA := ⟨fun K => He.ga K "_law_drawn", "_law_drawn", "_law_drawn", L2.defArgs (top 37), L2.defBody (top 37), L2.defScope (top 37), [], []⟩
def dt_law_odd : He5.DefA := ⟨fun K => He.ga K "_law_odd", "_law_odd", "_law_odd", L2.defArgs (top 38), L2.defBody (top 38), L2.defScope (top 38), [], []⟩
def dt_law_deal : He5.DefA := ⟨fun K => He.ga K "_law_deal", "_law_deal", "_law_deal", L2.defArgs (top 39), L2.defBody (top 39), L2.defScope (top 39), [], []⟩
def dt_law_cell : He5.DefA := ⟨fun K => He.ga K "_law_cell", "_law_cell", "_law_cell", L2.defArgs (top 25), L2.defBody (top 25), L2.defScope (top 25), [], []⟩
def dt_Lacquer__init : He5.DefA := ⟨fun K => He.ma K (He.ga K "Lacquer") "__init__", "__init__", "Lacquer.__init__", L2.defArgs (inC (top 15) 1), L2.defBody (inC (top 15) 1), L2.defScope (inC (top 15) 1), [], []⟩
def dt_check_kind : He5.DefA := ⟨fun K => He.ga K "check_kind", "check_kind", "check_kind", L2.defArgs (top 19), L2.defBody (top 19), L2.defScope (top 19), [], []⟩
def dt_plain_list : He5.DefA := ⟨fun K => He.ga K "plain_list", "plain_list", "plain_list", L2.defArgs (top 20), L2.defBody (top 20), L2.defScope (top 20), [], []⟩
def dt_Climate__init : He5.DefA := ⟨fun K => He.ma K (He.ga K "Climate") "__init__", "__init__", "Climate.__init__", L2.defArgs (inC (top 23) 0), L2.defBody (inC (top 23) 0), L2.defScope (inC (top 23) 0), [], []⟩
def dt_law_longest : He5.DefA := ⟨fun K => He.ga K "_law_longest", "_law_longest", "_law_longest", L2.defArgs (top 34), L2.defBody (top 34), L2.defScope (top 34), [], []⟩
def dt_law_places : He5.DefA := ⟨fun K => He.ga K "_law_places", "_law_places", "_law_places", L2.defArgs (top 40), L2.defBody (top 40), L2.defScope (top 40), [], []⟩
def dt_law_walk : He5.DefA := ⟨fun K => He.ga K "_law_walk", "_law_walk", "_law_walk", L2.defArgs (top 41), L2.defBody (top 41), L2.defScope (top 41), [], []⟩
def dt_check : He5.DefA := ⟨fun K => He.ga K "_check", "_check", "_check", L2.defArgs (top 9), L2.defBody (top 9), L2.defScope (top 9), [], []⟩
def dt_Climate_longest : He5.DefA := ⟨fun K => He.ma K (He.ga K "Climate") "longest", "longest", "Climate.longest", L2.defArgs (inC (top 23) 10), L2.defBody (inC (top 23) 10), L2.defScope (inC (top 23) 10), [], []⟩
def dt_Lacquer_turns : He5.DefA := ⟨fun K => He.ma K (He.ga K "Lacquer") "turns", "turns", "Lacquer.turns", L2.defArgs (inC (top 15) 6), L2.defBody (inC (top 15) 6), L2.defScope (inC (top 15) 6), [], []⟩
def dt_enough : He5.DefA := ⟨fun K => He.ga K "_enough", "_enough", "_enough", L2.defArgs (top 10), L2.defBody (top 10), L2.defScope (top 10), [], []⟩
def dt_good_places : He5.DefA := ⟨fun K => He.ga K "good_places", "good_places", "good_places", L2.defArgs (top 12), L2.defBody (top 12), L2.defScope (top 12), [], []⟩
def dt_leg : He5.DefA := ⟨fun K => He.ga K "leg", "leg", "leg", L2.defArgs (top 13), L2.defBody (top 13), L2.defScope (top 13), [], []⟩
def dt_law_same : He5.DefA := ⟨fun K => He.ga K "_law_same", "_law_same", "_law_same", L2.defArgs (top 29), L2.defBody (top 29), L2.defScope (top 29), [], []⟩
def dt_law_lists : He5.DefA := ⟨fun K => He.ga K "_law_lists", "_law_lists", "_law_lists", L2.defArgs (top 46), L2.defBody (top 46), L2.defScope (top 46), [], []⟩
def dt_is_good : He5.DefA := ⟨fun K => He.ga K "is_good", "is_good", "is_good", L2.defArgs (top 11), L2.defBody (top 11), L2.defScope (top 11), [], []⟩
def dt_law_closed : He5.DefA := ⟨fun K => He.ga K "_law_closed", "_law_closed", "_law_closed", L2.defArgs (top 42), L2.defBody (top 42), L2.defScope (top 42), [], []⟩
def dt_law_row : He5.DefA := ⟨fun K => He.ga K "_law_row", "_law_row", "_law_row", L2.defArgs (top 45), L2.defBody (top 45), L2.defScope (top 45), [], []⟩
def dt_law_wait : He5.DefA := ⟨fun K => He.ga K "_law_wait", "_law_wait", "_law_wait", L2.defArgs (top 35), L2.defBody (top 35), L2.defScope (top 35), [], []⟩
def dt_law_refused : He5.DefA := ⟨fun K => He.ga K "_law_refused", "_law_refused", "_law_refused", L2.defArgs (top 43), L2.defBody (top 43), L2.defScope (top 43), [], []⟩
def dt_law_odd_refused : He5.DefA := ⟨fun K => He.ga K "_law_odd_refused", "_law_odd_refused", "_law_odd_refused", L2.defArgs (top 44), L2.defBody (top 44), L2.defScope (top 44), [], []⟩
def dt_law_asked : He5.DefA := ⟨fun K => He.ga K "_law_asked", "_law_asked", "_law_asked", L2.defArgs (top 47), L2.defBody (top 47), L2.defScope (top 47), [], []⟩
def dt_law : He5.DefA := ⟨fun K => He.ga K "law", "law", "law", L2.defArgs (top 48), L2.defBody (top 48), L2.defScope (top 48), [], []⟩
def tabL : List (Str × List Str) := [("DampError", ["DampError", "ValueError"]), ("BadLacquer", ["BadLacquer", "DampError", "ValueError"]), ("BadKind", ["BadKind", "DampError", "ValueError"]), ("BadNumber", ["BadNumber", "DampError", "ValueError"]), ("TooLarge", ["TooLarge", "DampError", "ValueError"])]
def tab (c d : Str) : Bool := match tabL.lookup c with
  | some l => l.contains d
  | none => false
def fn : List He5.DefA := [dt_law_pool, dt_law_take, dt_law_ab, dt_law_kinds, dt_law_up, dt_law_lead, dt_law_sound_kinds, dt_law_tight, dt_law_drawn, dt_law_odd, dt_law_deal, dt_law_cell, dt_Lacquer__init, dt_check_kind, dt_plain_list, dt_Climate__init, dt_law_longest, dt_law_places, dt_law_walk, dt_check, dt_Climate_longest, dt_Lacquer_turns, dt_enough, dt_good_places, dt_leg, dt_law_same, dt_law_lists, dt_is_good, dt_law_closed, dt_law_row, dt_law_wait, dt_law_refused, dt_law_odd_refused, dt_law_asked, dt_law]
def fa : List Fb := [.fa (.glo "law"), .fa (.free "int"), .fa (.glo "_law_pool"), .fa (.glo "_law_take"), .fa (.glo "_law_ab"), .fa (.free "range"), .fa (.glo "_law_kinds"), .fa (.free "min"), .fa (.glo "_law_up"), .fa (.glo "_law_lead"), .fa (.glo "_law_sound_kinds"), .fa (.free "max"), .fa (.glo "_law_tight"), .fa (.glo "_law_drawn"), .fa (.free "len"), .fa (.glo "_law_odd"), .fa (.glo "_law_cell"), .fa (.glo "_law_deal"), .fa (.glo "Lacquer"), .cval "Lacquer" "MOST" 12, .fa (.exc "BadLacquer"), .fa (.glo "BadLacquer"), .fa (.cls "Lacquer"), .fa (.noat "Lacquer" "a"), .fa (.noat "Lacquer" "b"), .fa (.mkr "Lacquer"), .fa (.int "MOST_KINDS" 300), .fa (.exc "BadKind"), .fa (.glo "BadKind"), .fa (.int "LONGEST_SPELL" 16), .fa (.int "LONGEST_RUN" 120), .fa (.glo "check_kind"), .fa (.glo "plain_list"), .fa (.free "tuple"), .fa (.cls "Climate"), .fa (.noat "Climate" "kinds"), .fa (.free "list"), .fa (.mkr "Climate"), .fa (.glo "Climate"), .fa (.glo "_law_longest"), .fa (.glo "_law_places"), .fa (.glo "_law_walk"), .fa (.int "MOST_RUN" 400), .fa (.exc "BadNumber"), .fa (.glo "BadNumber"), .fa (.glo "_check"), .fa (.meth "Climate" "longest"), .fa (.meth "Lacquer" "turns"), .fa (.glo "_enough"), .fa (.glo "good_places"), .fa (.glo "leg"), .fa (.free "isinstance"), .fa (.free "bool"), .fa (.free "str"), .fa (.glo "_law_same"), .fa (.glo "_law_lists"), .fa (.glo "is_good"), .fa (.glo "_law_closed"), .fa (.glo "_law_row"), .fa (.glo "_law_wait"), .fa (.glo "DampError"), .fa (.free "ValueError"), .fa (.glo "TooLarge"), .fa (.exm "BadNumber" "BadNumber" true), .fa (.exm "DampError" "BadNumber" false), .fa (.exm "BadLacquer" "BadNumber" false), .fa (.exm "BadKind" "BadNumber" false), .fa (.exm "TooLarge" "BadNumber" false), .kit "BadNumber" "DampError" true, .kit "BadNumber" "TooLarge" false, .exi "BadNumber", .kityp "BadNumber" "ValueError" true, .fa (.glo "_law_refused"), .fa (.glo "_law_odd_refused"), .fa (.glo "_law_asked")]
section
variable {P : Program} {w : World} {K : PySem.W.Frag} {mg : Str → Option Value} {base : Heap}
theorem k_law_pool (Z : Zf fa fn K mg) : Ok P w K mg base 1 (He.ga K "_law_pool") ["cell"] s_law_pool := by
  have sc : FnScope ["cell"] ["cell"] dt_law_pool.scope := ⟨rfl, rfl, rfl, by decide +kernel, rfl, by decide +kernel, by decide +kernel⟩
  exact Ok.mk (i := 0) (d := dt_law_pool) Z rfl rfl rfl sc rfl (fun _ _ _ _ _ _ us hl => match us, hl with | [_], _ => rfl) fun cdv A outer s H E hr =>
    c_cons (c_if (c_tcmp op_ge bin_ge (nomark _) (c_nm 0) (c_x (c_pow (c_x c_int) (c_x c_int)))) (c_last (c_ret (c_lst (c_qc (c_sub (c_nm 0) (c_x (c_pow (c_x c_int) (c_x c_int)))) (c_qc (c_mod (c_x (c_fz (k_int (by rfl) (Z.free 1) (c_pc (c_nm 0) c_pn)))) (c_x c_int)) (c_qc c_int c_qn)))))) (c_nil)) <|
    c_cons (c_if (c_tcmp op_lt bin_lt (nomark _) (c_nm 0) (c_x c_int)) (c_last (c_ret (c_lst (c_qc c_int (c_qc (c_mod (c_x (c_fz (k_int (by rfl) (Z.free 1) (c_pc (c_x (c_sub (c_x c_int) (c_x (c_mul (c_x c_int) (c_nm 0))))) c_pn)))) (c_x c_int)) (c_qc c_int c_qn)))))) (c_nil)) <|
    c_last (c_ret (c_lst (c_qc c_int (c_qc (c_mod (c_x (c_fz (k_int (by rfl) (Z.free 1) (c_pc (c_x (c_mul (c_x c_int) (c_nm 0))) c_pn)))) (c_x c_int)) (c_qc c_int c_qn)))))
theorem k_law_take (Z : Zf fa fn K mg) : Ok P w K mg base 1 (He.ga K "_law_take") ["pool", "size"] s_law_take := by
  have sc : FnScope ["pool", "size", "digit", "x"] ["pool", "size"] dt_law_take.scope := ⟨rfl, rfl, rfl, by decide +kernel, rfl, by decide +kernel, by decide +kernel⟩
  exact Ok.mk (i := 1) (d := dt_law_take) Z rfl rfl rfl sc rfl (fun _ _ _ _ _ _ us hl => match us, hl with | [_, _], _ => rfl) fun cdv A outer s H E hr =>
    c_cons (c_lput 0 (c_nm 0) (c_int) (c_addI (c_x (c_idx (c_nm 0) (c_x c_int))) (c_x c_int))) <|
    c_cons (c_if (c_tcmp op_gt bin_gt (nomark _) (c_x (c_idx (c_nm 0) (c_x c_int))) (c_x c_int)) (c_cons (c_set 2 (c_sh (c_mod (c_x (c_fz (k_int (by rfl) (Z.free 1) (c_pc (c_x (c_idx (c_nm 0) (c_x c_int))) c_pn)))) (c_nm 1))) sc.nd) <|
    c_cons (c_lput 0 (c_nm 0) (c_int) (c_fdiv (c_x (c_idx (c_nm 0) (c_x c_int))) (c_nm 1))) <|
    c_last (c_retV 2)) (c_nil)) <|
    c_cons (c_set 3 (c_sh (c_mod (c_x (c_fz (k_int (by rfl) (Z.free 1) (c_pc (c_x (c_addI (c_x (c_addI (c_x (c_idx (c_nm 0) (c_x c_int))) (c_x (c_mul (c_x c_int) (c_x (c_idx (c_nm 0) (c_x c_int))))))) (c_x c_int))) c_pn)))) (c_x c_int))) sc.nd) <|
    c_cons (c_set 3 (c_sh (c_mod (c_x (c_fz (k_int (by rfl) (Z.free 1) (c_pc (c_x (c_addI (c_x (c_addI (c_x (c_mul (c_nm 3) (c_nm 3))) (c_x (c_mul (c_x c_int) (c_x (c_idx (c_nm 0) (c_x c_int))))))) (c_x c_int))) c_pn)))) (c_x c_int))) sc.nd) <|
    c_cons (c_set 3 (c_sh (c_mod (c_x (c_fz (k_int (by rfl) (Z.free 1) (c_pc (c_x (c_addI (c_x (c_addI (c_x (c_mul (c_nm 3) (c_nm 3))) (c_x (c_mul (c_x c_int) (c_x (c_idx (c_nm 0) (c_x c_int))))))) (c_x c_int))) c_pn)))) (c_x c_int))) sc.nd) <|
    c_last (c_ret (c_sh (c_mod (c_x (c_fz (k_int (by rfl) (Z.free 1) (c_pc (c_x (c_fdiv (c_nm 3) (c_x c_int))) c_pn)))) (c_nm 1))))
theorem k_law_ab (Z : Zf fa fn K mg) : Ok P w K mg base 2 (He.ga K "_law_ab") ["pool", "most"] s_law_ab := by
  have sc : FnScope ["pool", "most", "a"] ["pool", "most"] dt_law_ab.scope := ⟨rfl, rfl, rfl, by decide +kernel, rfl, by decide +kernel, by decide +kernel⟩
  exact Ok.mk (i := 2) (d := dt_law_ab) Z rfl rfl rfl sc rfl (fun _ _ _ _ _ _ us hl => match us, hl with | [_, _], _ => rfl) fun cdv A outer s H E hr =>
    c_cons (c_set 2 (c_sh (c_addI (c_x c_int) (c_x (c_fz (k_callIO (takes_of rfl rfl rfl rfl) (k_law_take Z) (hr.mono (by first | decide | exact Nat.le_refl _ | omega)) (Z.glo 3) (c_nm 0) (c_pc (c_x (c_sub (c_nm 1) (c_x c_int))) c_pn)))))) sc.nd) <|
    c_last (c_ret (c_sh (c_tup (c_qc (c_vr 2) (c_qc (c_addI (c_x (c_addI (c_nm 2) (c_x c_int))) (c_x (c_fz (k_callIO (takes_of rfl rfl rfl rfl) (k_law_take Z) (hr.mono (by first | decide | exact Nat.le_refl _ | omega)) (Z.glo 3) (c_nm 0) (c_pc (c_x (c_sub (c_nm 1) (c_nm 2))) c_pn))))) c_qn)))))
theorem k_law_kinds (Z : Zf fa fn K mg) : Ok P w K mg base 2 (He.ga K "_law_kinds") ["pool", "most", "peak", "need"] s_law_kinds := by
  have sc : FnScope ["pool", "most", "peak", "need", "kinds", "k", "w"] ["pool", "most", "peak", "need"] dt_law_kinds.scope := ⟨rfl, rfl, rfl, by decide +kernel, rfl, by decide +kernel, by decide +kernel⟩
  exact Ok.mk (i := 3) (d := dt_law_kinds) Z rfl rfl rfl sc rfl (fun _ _ _ _ _ _ us hl => match us, hl with | [_, _, _, _], _ => rfl) fun cdv A outer s H E hr =>
    c_cons (c_set 4 (c_lst c_qn) sc.nd) <|
    c_cons (c_for (passes_of rfl) rfl (c_irng1 (Z.free 5) (c_pc (c_x (c_fz (k_callIO (takes_of rfl rfl rfl rfl) (k_law_take Z) (hr.mono (by first | decide | exact Nat.le_refl _ | omega)) (Z.glo 3) (c_nm 0) (c_pc (c_x (c_addI (c_nm 1) (c_x c_int))) c_pn)))) c_pn)) (c_gnm 5 sc.nd) (c_cons (c_set 6 (c_sh (c_addI (c_x c_int) (c_x (c_fz (k_callIO (takes_of rfl rfl rfl rfl) (k_law_take Z) (hr.mono (by first | decide | exact Nat.le_refl _ | omega)) (Z.glo 3) (c_nm 0) (c_pc (c_nm 2) c_pn)))))) sc.nd) <|
    c_last (c_append 4 (c_nm 4) (c_qc (c_tup (c_qc (c_vr 6) (c_qc (c_addI (c_x c_int) (c_x (c_fz (k_callIO (takes_of rfl rfl rfl rfl) (k_law_take Z) (hr.mono (by first | decide | exact Nat.le_refl _ | omega)) (Z.glo 3) (c_nm 0) (c_pc (c_nm 3) c_pn))))) c_qn))) c_qn)))) <|
    c_last (c_retV 4)
theorem k_law_up (Z : Zf fa fn K mg) : Ok P w K mg base 1 (He.ga K "_law_up") ["x", "y"] s_law_up := by
  have sc : FnScope ["x", "y"] ["x", "y"] dt_law_up.scope := ⟨rfl, rfl, rfl, by decide +kernel, rfl, by decide +kernel, by decide +kernel⟩
  exact Ok.mk (i := 4) (d := dt_law_up) Z rfl rfl rfl sc rfl (fun _ _ _ _ _ _ us hl => match us, hl with | [_, _], _ => rfl) fun cdv A outer s H E hr =>
    c_last (c_ret (c_sh (c_fdiv (c_x (c_sub (c_x (c_addI (c_nm 0) (c_nm 1))) (c_x c_int))) (c_nm 1))))
theorem k_law_lead (Z : Zf fa fn K mg) : Ok P w K mg base 2 (He.ga K "_law_lead") ["a", "b", "w"] s_law_lead := by
  have sc : FnScope ["a", "b", "w"] ["a", "b", "w"] dt_law_lead.scope := ⟨rfl, rfl, rfl, by decide +kernel, rfl, by decide +kernel, by decide +kernel⟩
  exact Ok.mk (i := 5) (d := dt_law_lead) Z rfl rfl rfl sc rfl (fun _ _ _ _ _ _ us hl => match us, hl with | [_, _, _], _ => rfl) fun cdv A outer s H E hr =>
    c_last (c_ret (c_sh (c_mul (c_x (c_sub (c_x (c_fz (k_call (takes_of rfl rfl rfl rfl) (k_law_up Z) (hr.mono (by first | decide | exact Nat.le_refl _ | omega)) (Z.glo 8) (c_pc (c_nm 2) (c_pc (c_x (c_sub (c_nm 1) (c_nm 0))) c_pn))))) (c_x c_int))) (c_nm 0))))
theorem k_law_sound_kinds (Z : Zf fa fn K mg) : Ok P w K mg base 3 (He.ga K "_law_sound_kinds") ["pool", "ab", "most", "peak", "need"] s_law_sound_kinds := by
  have sc : FnScope ["pool", "ab", "most", "peak", "need", "a", "b", "top", "kinds", "k", "w", "lead"] ["pool", "ab", "most", "peak", "need"] dt_law_sound_kinds.scope := ⟨rfl, rfl, rfl, by decide +kernel, rfl, by decide +kernel, by decide +kernel⟩
  exact Ok.mk (i := 6) (d := dt_law_sound_kinds) Z rfl rfl rfl sc rfl (fun _ _ _ _ _ _ us hl => match us, hl with | [_, _, _, _, _], _ => rfl) fun cdv A outer s H E hr =>
    c_cons (c_set 5 (c_sh (c_idx (c_nm 1) (c_x c_int))) sc.nd) <|
    c_cons (c_set 6 (c_sh (c_idx (c_nm 1) (c_x c_int))) sc.nd) <|
    c_cons (c_set 7 (k_min3 (by rfl) (by rfl) (Z.free 7) (c_pc (c_nm 3) (c_pc (c_x (c_sub (c_nm 6) (c_x c_int))) (c_pc (c_x (c_mul (c_x (c_addI (c_x (c_fdiv (c_x (c_sub (c_nm 4) (c_x c_int))) (c_nm 5))) (c_x c_int))) (c_x (c_sub (c_nm 6) (c_nm 5))))) c_pn)))) sc.nd) <|
    c_cons (c_set 8 (c_lst c_qn) sc.nd) <|
    c_cons (c_for (passes_of rfl) rfl (c_irng1 (Z.free 5) (c_pc (c_x (c_fz (k_callIO (takes_of rfl rfl rfl rfl) (k_law_take Z) (hr.mono (by first | decide | exact Nat.le_refl _ | omega)) (Z.glo 3) (c_nm 0) (c_pc (c_x (c_addI (c_nm 2) (c_x c_int))) c_pn)))) c_pn)) (c_gnm 9 sc.nd) (c_cons (c_set 10 (c_sh (c_addI (c_x c_int) (c_x (c_fz (k_callIO (takes_of rfl rfl rfl rfl) (k_law_take Z) (hr.mono (by first | decide | exact Nat.le_refl _ | omega)) (Z.glo 3) (c_nm 0) (c_pc (c_nm 7) c_pn)))))) sc.nd) <|
    c_cons (c_set 11 (k_call (takes_of rfl rfl rfl rfl) (k_law_lead Z) (hr.mono (by first | decide | exact Nat.le_refl _ | omega)) (Z.glo 9) (c_pc (c_nm 5) (c_pc (c_nm 6) (c_pc (c_nm 10) c_pn)))) sc.nd) <|
    c_last (c_append 8 (c_nm 8) (c_qc (c_tup (c_qc (c_vr 10) (c_qc (c_addI (c_x (c_addI (c_nm 11) (c_x c_int))) (c_x (c_fz (k_callIO (takes_of rfl rfl rfl rfl) (k_law_take Z) (hr.mono (by first | decide | exact Nat.le_refl _ | omega)) (Z.glo 3) (c_nm 0) (c_pc (c_x (c_sub (c_nm 4) (c_nm 11))) c_pn))))) c_qn))) c_qn)))) <|
    c_last (c_retV 8)
def s_law_tight_b1 : S :=
  seqS (setE 4 (sh (bin addI (.ex (cst (.int 1))) (.ex (fz (callIO 0 s_law_take [(.ex (cst (.int 5)))])))))) <|
  seqS (setE 5 (blt max2L [(.ex (cst (.int 1))), (.ex (bin subI (.ex (fz (blt min2L [(.ex (bin subI (.ex (bin idx (.nm 1) (.ex (cst (.int 1))))) (.ex (cst (.int 1))))), (.ex (bin mulI (.nm 4) (.ex (bin subI (.ex (bin idx (.nm 1) (.ex (cst (.int 1))))) (.ex (bin idx (.nm 1) (.ex (cst (.int 0)))))))))]))) (.ex (fz (callIO 0 s_law_take [(.ex (cst (.int 2)))])))))])) <|
  mtS appD 2 [tupP [vr 5, bin addI (.ex (bin addI (.ex (bin mulI (.ex (bin subI (.nm 4) (.ex (cst (.int 1))))) (.ex (bin idx (.nm 1) (.ex (cst (.int 0))))))) (.ex (cst (.int 1))))) (.ex (fz (callIO 0 s_law_take [(.ex (bin idx (.nm 1) (.ex (cst (.int 0)))))])))]]
def s_law_tight : Fn := fnOf 4 <|
  seqS (setE 2 (lstP [])) <|
  seqS (forS (rngI rng1D [(.ex (fz (callIO 0 s_law_take [(.ex (cst (.int 5)))])))]) (.nm 3) (s_law_tight_b1)) <|
  retV 2
theorem k_law_tight (Z : Zf fa fn K mg) : Ok P w K mg base 2 (He.ga K "_law_tight") ["pool", "ab"] s_law_tight := by
  have sc : FnScope ["pool", "ab", "kinds", "k", "turns", "w"] ["pool", "ab"] dt_law_tight.scope := ⟨rfl, rfl, rfl, by decide +kernel, rfl, by decide +kernel, by decide +kernel⟩
  exact Ok.mk (i := 7) (d := dt_law_tight) Z rfl rfl rfl sc rfl (fun _ _ _ _ _ _ us hl => match us, hl with | [_, _], _ => rfl) fun cdv A outer s H E hr =>
    c_cons (c_set 2 (c_lst c_qn) sc.nd) <|
    c_cons (c_for (passes_of rfl) rfl (c_irng1 (Z.free 5) (c_pc (c_x (c_fz (k_callIO (takes_of rfl rfl rfl rfl) (k_law_take Z) (hr.mono (by first | decide | exact Nat.le_refl _ | omega)) (Z.glo 3) (c_nm 0) (c_pc (c_x c_int) c_pn)))) c_pn)) (c_gnm 3 sc.nd) (c_cons (c_set 4 (c_sh (c_addI (c_x c_int) (c_x (c_fz (k_callIO (takes_of rfl rfl rfl rfl) (k_law_take Z) (hr.mono (by first | decide | exact Nat.le_refl _ | omega)) (Z.glo 3) (c_nm 0) (c_pc (c_x c_int) c_pn)))))) sc.nd) <|
    c_cons (c_set 5 (k_max2 (by rfl) (by rfl) (Z.free 11) (c_pc (c_x c_int) (c_pc (c_x (c_sub (c_x (c_fz (k_min2 (by rfl) (by rfl) (Z.free 7) (c_pc (c_x (c_sub (c_x (c_idx (c_nm 1) (c_x c_int))) (c_x c_int))) (c_pc (c_x (c_mul (c_nm 4) (c_x (c_sub (c_x (c_idx (c_nm 1) (c_x c_int))) (c_x (c_idx (c_nm 1) (c_x c_int))))))) c_pn))))) (c_x (c_fz (k_callIO (takes_of rfl rfl rfl rfl) (k_law_take Z) (hr.mono (by first | decide | exact Nat.le_refl _ | omega)) (Z.glo 3) (c_nm 0) (c_pc (c_x c_int) c_pn)))))) c_pn))) sc.nd) <|
    c_last (c_append 2 (c_nm 2) (c_qc (c_tup (c_qc (c_vr 5) (c_qc (c_addI (c_x (c_addI (c_x (c_mul (c_x (c_sub (c_nm 4) (c_x c_int))) (c_x (c_idx (c_nm 1) (c_x c_int))))) (c_x c_int))) (c_x (c_fz (k_callIO (takes_of rfl rfl rfl rfl) (k_law_take Z) (hr.mono (by first | decide | exact Nat.le_refl _ | omega)) (Z.glo 3) (c_nm 0) (c_pc (c_x (c_idx (c_nm 1) (c_x c_int))) c_pn))))) c_qn))) c_qn)))) <|
    c_last (c_retV 2)
def s_law_drawn_i1 : S :=
  ifS (tst (bin ltD (.nm 2) (.ex (cst (.int 2))))) (retE (callIO 0 s_law_kinds [(.ex (cst (.int 4))), (.ex (cst (.int 16))), (.ex (bin idx (.ex (fz (lstP [cst (.int 12), cst (.int 120)]))) (.nm 2)))])) (passS)
def s_law_drawn_i2 : S :=
  ifS (tst (bin ltD (.nm 2) (.ex (cst (.int 4))))) (retE (callIO 0 s_law_sound_kinds [(.nm 1), (.ex (cst (.int 4))), (.ex (cst (.int 16))), (.ex (bin idx (.ex (fz (lstP [cst (.int 40), cst (.int 120)]))) (.ex (bin subI (.nm 2) (.ex (cst (.int 2)))))))])) (passS)
def s_law_drawn : Fn := fnOf 1 <|
  seqS (setE 2 (callIO 0 s_law_take [(.ex (cst (.int 6)))])) <|
  seqS s_law_drawn_i1 <|
  seqS s_law_drawn_i2 <|
  retE (callIO 0 s_law_tight [(.nm 1)])
theorem k_law_drawn (Z : Zf fa fn K mg) : Ok P w K mg base 4 (He.ga K "_law_drawn") ["pool", "ab"] s_law_drawn := by
  have sc : FnScope ["pool", "ab", "way"] ["pool", "ab"] dt_law_drawn.scope := ⟨rfl, rfl, rfl, by decide +kernel, rfl, by decide +kernel, by decide +kernel⟩
  exact Ok.mk (i := 8) (d := dt_law_drawn) Z rfl rfl rfl sc rfl (fun _ _ _ _ _ _ us hl => match us, hl with | [_, _], _ => rfl) fun cdv A outer s H E hr =>
    c_cons (c_set 2 (k_callIO (takes_of rfl rfl rfl rfl) (k_law_take Z) (hr.mono (by first | decide | exact Nat.le_refl _ | omega)) (Z.glo 3) (c_nm 0) (c_pc (c_x c_int) c_pn)) sc.nd) <|
    c_cons (c_if (c_tcmp op_lt bin_lt (nomark _) (c_nm 2) (c_x c_int)) (c_last (c_ret (k_callIO (takes_of rfl rfl rfl rfl) (k_law_kinds Z) (hr.mono (by first | decide | exact Nat.le_refl _ | omega)) (Z.glo 6) (c_nm 0) (c_pc (c_x c_int) (c_pc (c_x c_int) (c_pc (c_x (c_idx (c_x (c_fz (c_lst (c_qc c_int (c_qc c_int c_qn))))) (c_nm 2))) c_pn)))))) (c_nil)) <|
    c_cons (c_if (c_tcmp op_lt bin_lt (nomark _) (c_nm 2) (c_x c_int)) (c_last (c_ret (k_callIO (takes_of rfl rfl rfl rfl) (k_law_sound_kinds Z) (hr.mono (by first | decide | exact Nat.le_refl _ | omega)) (Z.glo 10) (c_nm 0) (c_pc (c_nm 1) (c_pc (c_x c_int) (c_pc (c_x c_int) (c_pc (c_x (c_idx (c_x (c_fz (c_lst (c_qc c_int (c_qc c_int c_qn))))) (c_x (c_sub (c_nm 2) (c_x c_int))))) c_pn))))))) (c_nil)) <|
    c_last (c_ret (k_callIO (takes_of rfl rfl rfl rfl) (k_law_tight Z) (hr.mono (by first | decide | exact Nat.le_refl _ | omega)) (Z.glo 12) (c_nm 0) (c_pc (c_nm 1) c_pn)))
def s_law_odd_i1 : S :=
  ifS (tst (bin eqD (.nm 2) (.ex (cst (.int 0))))) (retE (sh (tupP [vr 1, cst (.int 0)]))) (passS)
def s_law_odd_i2 : S :=
  ifS (tst (bin eqD (.nm 2) (.ex (cst (.int 1))))) (retE (sh (tupP [vr 1, bin addI (.ex (bin addI (.nm 1) (.ex (cst (.int 1))))) (.ex (fz (callIO 0 s_law_take [(.ex (cst (.int 5)))])))]))) (passS)
def s_law_odd_i3 : S :=
  ifS (tst (bin eqD (.nm 2) (.ex (cst (.int 2))))) (retE (sh (tupP [bin idx (.ex (fz (lstP [bin addI (.ex (cst (.int 401))) (.ex (fz (callIO 0 s_law_take [(.ex (cst (.int 9)))]))), cst (.int 100000)]))) (.ex (fz (callIO 0 s_law_take [(.ex (cst (.int 2)))]))), bin addI (.ex (cst (.int 1))) (.ex (fz (callIO 0 s_law_take [(.ex (cst (.int 401)))])))]))) (passS)
def s_law_odd_i4 : S :=
  ifS (tst (bin eqD (.nm 2) (.ex (cst (.int 3))))) (retE (sh (tupP [bin subI (.ex (cst (.int 0))) (.ex (fz (callIO 0 s_law_take [(.ex (cst (.int 3)))]))), cst (.int 1)]))) (passS)
def s_law_odd : Fn := fnOf 1 <|
  seqS (setE 2 (callIO 0 s_law_take [(.ex (cst (.int 5)))])) <|
  seqS s_law_odd_i1 <|
  seqS s_law_odd_i2 <|
  seqS s_law_odd_i3 <|
  seqS s_law_odd_i4 <|
  retE (sh (tupP [vr 1, bin subI (.ex (bin subI (.ex (cst (.int 0))) (.ex (cst (.int 1))))) (.ex (fz (callIO 0 s_law_take [(.ex (cst (.int 4)))])))]))
theorem k_law_odd (Z : Zf fa fn K mg) : Ok P w K mg base 2 (He.ga K "_law_odd") ["pool", "stretch"] s_law_odd := by
  have sc : FnScope ["pool", "stretch", "way"] ["pool", "stretch"] dt_law_odd.scope := ⟨rfl, rfl, rfl, by decide +kernel, rfl, by decide +kernel, by decide +kernel⟩
  exact Ok.mk (i := 9) (d := dt_law_odd) Z rfl rfl rfl sc rfl (fun _ _ _ _ _ _ us hl => match us, hl with | [_, _], _ => rfl) fun cdv A outer s H E hr =>
    c_cons (c_set 2 (k_callIO (takes_of rfl rfl rfl rfl) (k_law_take Z) (hr.mono (by first | decide | exact Nat.le_refl _ | omega)) (Z.glo 3) (c_nm 0) (c_pc (c_x c_int) c_pn)) sc.nd) <|
    c_cons (c_if (c_tcmp (op_eqD (u64 hr)) bin_eqD (nomark _) (c_nm 2) (c_x c_int)) (c_last (c_ret (c_sh (c_tup (c_qc (c_vr 1) (c_qc c_int c_qn)))))) (c_nil)) <|
    c_cons (c_if (c_tcmp (op_eqD (u64 hr)) bin_eqD (nomark _) (c_nm 2) (c_x c_int)) (c_last (c_ret (c_sh (c_tup (c_qc (c_vr 1) (c_qc (c_addI (c_x (c_addI (c_nm 1) (c_x c_int))) (c_x (c_fz (k_callIO (takes_of rfl rfl rfl rfl) (k_law_take Z) (hr.mono (by first | decide | exact Nat.le_refl _ | omega)) (Z.glo 3) (c_nm 0) (c_pc (c_x c_int) c_pn))))) c_qn)))))) (c_nil)) <|
    c_cons (c_if (c_tcmp (op_eqD (u64 hr)) bin_eqD (nomark _) (c_nm 2) (c_x c_int)) (c_last (c_ret (c_sh (c_tup (c_qc (c_idx (c_x (c_fz (c_lst (c_qc (c_addI (c_x c_int) (c_x (c_fz (k_callIO (takes_of rfl rfl rfl rfl) (k_law_take Z) (hr.mono (by first | decide | exact Nat.le_refl _ | omega)) (Z.glo 3) (c_nm 0) (c_pc (c_x c_int) c_pn))))) (c_qc c_int c_qn))))) (c_x (c_fz (k_callIO (takes_of rfl rfl rfl rfl) (k_law_take Z) (hr.mono (by first | decide | exact Nat.le_refl _ | omega)) (Z.glo 3) (c_nm 0) (c_pc (c_x c_int) c_pn))))) (c_qc (c_addI (c_x c_int) (c_x (c_fz (k_callIO (takes_of rfl rfl rfl rfl) (k_law_take Z) (hr.mono (by first | decide | exact Nat.le_refl _ | omega)) (Z.glo 3) (c_nm 0) (c_pc (c_x c_int) c_pn))))) c_qn)))))) (c_nil)) <|
    c_cons (c_if (c_tcmp (op_eqD (u64 hr)) bin_eqD (nomark _) (c_nm 2) (c_x c_int)) (c_last (c_ret (c_sh (c_tup (c_qc (c_sub (c_x c_int) (c_x (c_fz (k_callIO (takes_of rfl rfl rfl rfl) (k_law_take Z) (hr.mono (by first | decide | exact Nat.le_refl _ | omega)) (Z.glo 3) (c_nm 0) (c_pc (c_x c_int) c_pn))))) (c_qc c_int c_qn)))))) (c_nil)) <|
    c_last (c_ret (c_sh (c_tup (c_qc (c_vr 1) (c_qc (c_sub (c_x (c_sub (c_x c_int) (c_x c_int))) (c_x (c_fz (k_callIO (takes_of rfl rfl rfl rfl) (k_law_take Z) (hr.mono (by first | decide | exact Nat.le_refl _ | omega)) (Z.glo 3) (c_nm 0) (c_pc (c_x c_int) c_pn))))) c_qn)))))
def s_law_deal_i1 : S :=
  ifS (andT (tst (bin gtD (.nm 5) (.ex (cst (.int 7))))) (tst (bin gtD (.ex (fz (blt lenL [(.nm 3)]))) (.ex (cst (.int 0)))))) (setE 4 (sh (bin addI (.ex (bin idx (.ex (bin idx (.nm 3) (.ex (fz (callIO 1 s_law_take [(.ex (fz (blt lenL [(.nm 3)])))]))))) (.ex (cst (.int 1))))) (.ex (fz (callIO 1 s_law_take [(.ex (cst (.int 20)))])))))) (passS)
def s_law_deal_i2 : S :=
  ifS (tst (bin eqD (.nm 5) (.ex (cst (.int 7))))) (setE 4 (sh (bin addI (.ex (cst (.int 60))) (.ex (fz (callIO 1 s_law_take [(.ex (cst (.int 341)))])))))) (s_law_deal_i1)
def s_law_deal_i3 : S :=
  ifS (tst (bin eqD (.ex (fz (callIO 1 s_law_take [(.ex (cst (.int 3)))]))) (.ex (cst (.int 0))))) (setE 6 (sh (bin addI (.ex (cst (.int 1))) (.ex (fz (callIO 1 s_law_take [(.ex (fz (blt min2L [(.nm 4), (.ex (bin idx (.nm 2) (.ex (cst (.int 0)))))])))])))))) (passS)
def s_law_deal_i4 : S :=
  ifS (tst (bin eqD (.ex (fz (callIO 1 s_law_take [(.ex (cst (.int 4)))]))) (.ex (cst (.int 0))))) (setE 6 (sh (cst (.int 1)))) (passS)
def s_law_deal : Fn := fnOf 6 <|
  seqS (setE 1 (callF s_law_pool [(.nm 0)])) <|
  seqS (setE 2 (callIO 1 s_law_ab [(.ex (cst (.int 12)))])) <|
  seqS (setE 3 (callIO 1 s_law_drawn [(.nm 2)])) <|
  seqS (setE 4 (sh (bin addI (.ex (cst (.int 1))) (.ex (fz (callIO 1 s_law_take [(.ex (cst (.int 60)))])))))) <|
  seqS (setE 5 (callIO 1 s_law_take [(.ex (cst (.int 16)))])) <|
  seqS s_law_deal_i2 <|
  seqS (setE 6 (sh (bin addI (.ex (cst (.int 1))) (.ex (fz (callIO 1 s_law_take [(.nm 4)])))))) <|
  seqS s_law_deal_i3 <|
  seqS s_law_deal_i4 <|
  retE (sh (tupP [vr 2, vr 3, vr 4, vr 6, bin addI (.ex (cst (.int 1))) (.ex (fz (callIO 1 s_law_take [(.nm 4)]))), fz (callIO 1 s_law_odd [(.nm 4)])]))
theorem k_law_deal (Z : Zf fa fn K mg) : Ok P w K mg base 5 (He.ga K "_law_deal") ["cell"] s_law_deal := by
  have sc : FnScope ["cell", "pool", "ab", "kinds", "stretch", "way", "place"] ["cell"] dt_law_deal.scope := ⟨rfl, rfl, rfl, by decide +kernel, rfl, by decide +kernel, by decide +kernel⟩
  exact Ok.mk (i := 10) (d := dt_law_deal) Z rfl rfl rfl sc rfl (fun _ _ _ _ _ _ us hl => match us, hl with | [_], _ => rfl) fun cdv A outer s H E hr =>
    c_cons (c_set 1 (k_call (takes_of rfl rfl rfl rfl) (k_law_pool Z) (hr.mono (by first | decide | exact Nat.le_refl _ | omega)) (Z.glo 2) (c_pc (c_nm 0) c_pn)) sc.nd) <|
    c_cons (c_set 2 (k_callIO (takes_of rfl rfl rfl rfl) (k_law_ab Z) (hr.mono (by first | decide | exact Nat.le_refl _ | omega)) (Z.glo 4) (c_nm 1) (c_pc (c_x c_int) c_pn)) sc.nd) <|
    c_cons (c_set 3 (k_callIO (takes_of rfl rfl rfl rfl) (k_law_drawn Z) (hr.mono (by first | decide | exact Nat.le_refl _ | omega)) (Z.glo 13) (c_nm 1) (c_pc (c_nm 2) c_pn)) sc.nd) <|
    c_cons (c_set 4 (c_sh (c_addI (c_x c_int) (c_x (c_fz (k_callIO (takes_of rfl rfl rfl rfl) (k_law_take Z) (hr.mono (by first | decide | exact Nat.le_refl _ | omega)) (Z.glo 3) (c_nm 1) (c_pc (c_x c_int) c_pn)))))) sc.nd) <|
    c_cons (c_set 5 (k_callIO (takes_of rfl rfl rfl rfl) (k_law_take Z) (hr.mono (by first | decide | exact Nat.le_refl _ | omega)) (Z.glo 3) (c_nm 1) (c_pc (c_x c_int) c_pn)) sc.nd) <|
    c_cons (c_if (c_tcmp (op_eqD (u64 hr)) bin_eqD (nomark _) (c_nm 5) (c_x c_int)) (c_last (c_set 4 (c_sh (c_addI (c_x c_int) (c_x (c_fz (k_callIO (takes_of rfl rfl rfl rfl) (k_law_take Z) (hr.mono (by first | decide | exact Nat.le_refl _ | omega)) (Z.glo 3) (c_nm 1) (c_pc (c_x c_int) c_pn)))))) sc.nd)) (c_last (c_if ((c_and (c_tcmp op_gt bin_gt (nomark _) (c_nm 5) (c_x c_int)) (c_and1 (c_tcmp op_gt bin_gt (nomark _) (c_x (c_fz (c_len (by rfl) (Z.free 14) (c_pc (c_nm 3) c_pn)))) (c_x c_int)))).pt) (c_last (c_set 4 (c_sh (c_addI (c_x (c_idx (c_x (c_idx (c_nm 3) (c_x (c_fz (k_callIO (takes_of rfl rfl rfl rfl) (k_law_take Z) (hr.mono (by first | decide | exact Nat.le_refl _ | omega)) (Z.glo 3) (c_nm 1) (c_pc (c_x (c_fz (c_len (by rfl) (Z.free 14) (c_pc (c_nm 3) c_pn)))) c_pn)))))) (c_x c_int))) (c_x (c_fz (k_callIO (takes_of rfl rfl rfl rfl) (k_law_take Z) (hr.mono (by first | decide | exact Nat.le_refl _ | omega)) (Z.glo 3) (c_nm 1) (c_pc (c_x c_int) c_pn)))))) sc.nd)) (c_nil)))) <|
    c_cons (c_set 6 (c_sh (c_addI (c_x c_int) (c_x (c_fz (k_callIO (takes_of rfl rfl rfl rfl) (k_law_take Z) (hr.mono (by first | decide | exact Nat.le_refl _ | omega)) (Z.glo 3) (c_nm 1) (c_pc (c_nm 4) c_pn)))))) sc.nd) <|
    c_cons (c_if (c_tcmp (op_eqD (u64 hr)) bin_eqD (nomark _) (c_x (c_fz (k_callIO (takes_of rfl rfl rfl rfl) (k_law_take Z) (hr.mono (by first | decide | exact Nat.le_refl _ | omega)) (Z.glo 3) (c_nm 1) (c_pc (c_x c_int) c_pn)))) (c_x c_int)) (c_last (c_set 6 (c_sh (c_addI (c_x c_int) (c_x (c_fz (k_callIO (takes_of rfl rfl rfl rfl) (k_law_take Z) (hr.mono (by first | decide | exact Nat.le_refl _ | omega)) (Z.glo 3) (c_nm 1) (c_pc (c_x (c_fz (k_min2 (by rfl) (by rfl) (Z.free 7) (c_pc (c_nm 4) (c_pc (c_x (c_idx (c_nm 2) (c_x c_int))) c_pn))))) c_pn)))))) sc.nd)) (c_nil)) <|
    c_cons (c_if (c_tcmp (op_eqD (u64 hr)) bin_eqD (nomark _) (c_x (c_fz (k_callIO (takes_of rfl rfl rfl rfl) (k_law_take Z) (hr.mono (by first | decide | exact Nat.le_refl _ | omega)) (Z.glo 3) (c_nm 1) (c_pc (c_x c_int) c_pn)))) (c_x c_int)) (c_last (c_set 6 (c_sh c_int) sc.nd)) (c_nil)) <|
    c_last (c_ret (c_sh (c_tup (c_qc (c_vr 2) (c_qc (c_vr 3) (c_qc (c_vr 4) (c_qc (c_vr 6) (c_qc (c_addI (c_x c_int) (c_x (c_fz (k_callIO (takes_of rfl rfl rfl rfl) (k_law_take Z) (hr.mono (by first | decide | exact Nat.le_refl _ | omega)) (Z.glo 3) (c_nm 1) (c_pc (c_nm 4) c_pn))))) (c_qc (c_fz (k_callIO (takes_of rfl rfl rfl rfl) (k_law_odd Z) (hr.mono (by first | decide | exact Nat.le_refl _ | omega)) (Z.glo 15) (c_nm 1) (c_pc (c_nm 4) c_pn))) c_qn)))))))))
theorem k_law_cell (Z : Zf fa fn K mg) : Ok P w K mg base 1 (He.ga K "_law_cell") ["script", "k"] s_law_cell := by
  have sc : FnScope ["script", "k"] ["script", "k"] dt_law_cell.scope := ⟨rfl, rfl, rfl, by decide +kernel, rfl, by decide +kernel, by decide +kernel⟩
  exact Ok.mk (i := 11) (d := dt_law_cell) Z rfl rfl rfl sc rfl (fun _ _ _ _ _ _ us hl => match us, hl with | [_, _], _ => rfl) fun cdv A outer s H E hr =>
    c_cons (c_if (c_tcmp op_lt bin_lt (nomark _) (c_nm 1) (c_x (c_fz (c_len (by rfl) (Z.free 14) (c_pc (c_nm 0) c_pn))))) (c_last (c_ret (c_sh (c_idx (c_nm 0) (c_nm 1))))) (c_nil)) <|
    c_last (c_ret (c_sh (c_addI (c_x (c_mul (c_x c_int) (c_nm 1))) (c_x c_int))))
theorem k_Lacquer__init (Z : Zf fa fn K mg) : Ok P w K mg base 1 (He.ma K (He.ga K "Lacquer") "__init__") ["self", "a", "b"] s_Lacquer__init := by
  have sc : FnScope ["self", "a", "b"] ["self", "a", "b"] dt_Lacquer__init.scope := ⟨rfl, rfl, rfl, by decide +kernel, rfl, by decide +kernel, by decide +kernel⟩
  exact Ok.mk (i := 12) (d := dt_Lacquer__init) Z rfl rfl rfl sc rfl (fun _ _ _ _ _ _ us hl => match us, hl with | [_, _, _], _ => rfl) fun cdv A outer s H E hr =>
    c_cons (c_if (c_not (c_tchain3 op_le op_lt op_le bin_le bin_lt bin_le (c_x c_int) (c_nm 1) (c_nm 2) (c_x (k_cval (Z.glo 18) (Z.cval 19))))) (c_last (c_raise rfl (takes_of rfl rfl rfl rfl) (Z.excQ 20) (Z.glo 21) (Z.excK 20) (Z.excS 20) (Z.excT 20))) (c_nil)) <|
    c_cons (c_att (c := "Lacquer") 0 (Z.cls 22) (Z.noat 23) (c_nm 0) (c_vr 1)) <|
    c_last (c_att (c := "Lacquer") 0 (Z.cls 22) (Z.noat 24) (c_nm 0) (c_vr 2))
theorem k_check_kind (Z : Zf fa fn K mg) : Ok P w K mg base 1 (He.ga K "check_kind") ["w", "g"] s_check_kind := by
  have sc : FnScope ["w", "g"] ["w", "g"] dt_check_kind.scope := ⟨rfl, rfl, rfl, by decide +kernel, rfl, by decide +kernel, by decide +kernel⟩
  exact Ok.mk (i := 13) (d := dt_check_kind) Z rfl rfl rfl sc rfl (fun _ _ _ _ _ _ us hl => match us, hl with | [_, _], _ => rfl) fun cdv A outer s H E hr =>
    c_last (c_if ((c_or (c_not (c_tchain op_le op_le bin_le bin_le (c_x c_int) (c_nm 0) (c_x (c_gint (by rfl) (Z.int 29))))) (c_or1 (c_not (c_tchain op_le op_le bin_le bin_le (c_x c_int) (c_nm 1) (c_x (c_gint (by rfl) (Z.int 30))))))).pt) (c_last (c_raise rfl (takes_of rfl rfl rfl rfl) (Z.excQ 27) (Z.glo 28) (Z.excK 27) (Z.excS 27) (Z.excT 27))) (c_nil))
theorem k_plain_list (Z : Zf fa fn K mg) : Ok P w K mg base 1 (He.ga K "plain_list") ["kinds"] s_plain_list := by
  have sc : FnScope ["kinds", "least", "w", "g", "plain", "shortest"] ["kinds"] dt_plain_list.scope := ⟨rfl, rfl, rfl, by decide +kernel, rfl, by decide +kernel, by decide +kernel⟩
  exact Ok.mk (i := 14) (d := dt_plain_list) Z rfl rfl rfl sc rfl (fun _ _ _ _ _ _ us hl => match us, hl with | [_], _ => rfl) fun cdv A outer s H E hr =>
    c_cons (c_set 1 (c_dnew) sc.nd) <|
    c_cons (c_for (passes_of rfl) rfl (c_iseq (c_vr 0)) (c_gtup rfl (c_gsc (c_gnm 2 sc.nd) (c_gsc (c_gnm 3 sc.nd) c_gsn))) (c_last (c_if (c_tcmp op_lt bin_lt (nomark _) (c_nm 3) (c_x (c_get2 (hu_of hr) (c_nm 1) (c_nm 2) (c_x (c_addI (c_x (c_gint (by rfl) (Z.int 30))) (c_x c_int)))))) (c_last (c_dput 1 (hu_of hr) (c_nm 1) (c_vr 2) (c_vr 3))) (c_nil)))) <|
    c_cons (c_set 4 (c_lst c_qn) sc.nd) <|
    c_cons (c_set 5 (c_sh (c_addI (c_x (c_gint (by rfl) (Z.int 30))) (c_x c_int))) sc.nd) <|
    c_cons (c_for (passes_of rfl) rfl (c_irng3 (Z.free 5) (c_pc (c_x (c_gint (by rfl) (Z.int 29))) (c_pc (c_x c_int) (c_pc (c_x (c_neg (c_x c_int))) c_pn)))) (c_gnm 2 sc.nd) (c_last (c_if (c_tcmp op_lt bin_lt (nomark _) (c_x (c_get2 (hu_of hr) (c_nm 1) (c_nm 2) (c_nm 5))) (c_nm 5)) (c_cons (c_set 5 (c_sh (c_sc (hu_of hr) (c_nm 1) (c_nm 2))) sc.nd) <|
    c_last (c_append 4 (c_nm 4) (c_qc (c_tup (c_qc (c_vr 2) (c_qc (c_vr 5) c_qn))) c_qn))) (c_nil)))) <|
    c_last (c_ret (k_rev (c_nm 4)))
theorem k_Climate__init (Z : Zf fa fn K mg) : Ok P w K mg base 2 (He.ma K (He.ga K "Climate") "__init__") ["self", "kinds"] s_Climate__init := by
  have sc : FnScope ["self", "kinds", "w", "g"] ["self", "kinds"] dt_Climate__init.scope := ⟨rfl, rfl, rfl, by decide +kernel, rfl, by decide +kernel, by decide +kernel⟩
  exact Ok.mk (i := 15) (d := dt_Climate__init) Z rfl rfl rfl sc rfl (fun _ _ _ _ _ _ us hl => match us, hl with | [_, _], _ => rfl) fun cdv A outer s H E hr =>
    c_cons (c_if (c_tcmp op_gt bin_gt (nomark _) (c_x (c_fz (c_len (by rfl) (Z.free 14) (c_pc (c_nm 1) c_pn)))) (c_x (c_gint (by rfl) (Z.int 26)))) (c_last (c_raise rfl (takes_of rfl rfl rfl rfl) (Z.excQ 27) (Z.glo 28) (Z.excK 27) (Z.excS 27) (Z.excT 27))) (c_nil)) <|
    c_cons (c_for (passes_of rfl) rfl (c_iseq (c_vr 1)) (c_gtup rfl (c_gsc (c_gnm 2 sc.nd) (c_gsc (c_gnm 3 sc.nd) c_gsn))) (c_last (c_expr (k_call (takes_of rfl rfl rfl rfl) (k_check_kind Z) (hr.mono (by first | decide | exact Nat.le_refl _ | omega)) (Z.glo 31) (c_pc (c_nm 2) (c_pc (c_nm 3) c_pn)))))) <|
    c_last (c_att (c := "Climate") 0 (Z.cls 34) (Z.noat 35) (c_nm 0) (c_fz (k_tuple (by rfl) (Z.free 33) (c_pc (c_x (c_fz (k_call (takes_of rfl rfl rfl rfl) (k_plain_list Z) (hr.mono (by first | decide | exact Nat.le_refl _ | omega)) (Z.glo 32) (c_pc (c_nm 1) c_pn)))) c_pn))))
theorem k_law_longest (Z : Zf fa fn K mg) : Ok P w K mg base 1 (He.ga K "_law_longest") ["kinds", "stretch"] s_law_longest := by
  have sc : FnScope ["kinds", "stretch", "best", "kind"] ["kinds", "stretch"] dt_law_longest.scope := ⟨rfl, rfl, rfl, by decide +kernel, rfl, by decide +kernel, by decide +kernel⟩
  exact Ok.mk (i := 16) (d := dt_law_longest) Z rfl rfl rfl sc rfl (fun _ _ _ _ _ _ us hl => match us, hl with | [_, _], _ => rfl) fun cdv A outer s H E hr =>
    c_cons (c_set 2 (c_sh c_int) sc.nd) <|
    c_cons (c_for (passes_of rfl) rfl (c_iseq (c_vr 0)) (c_gnm 3 sc.nd) (c_last (c_if ((c_and (c_tcmp op_le bin_le (nomark _) (c_x (c_idx (c_nm 3) (c_x c_int))) (c_nm 1)) (c_and1 (c_tcmp op_gt bin_gt (nomark _) (c_x (c_idx (c_nm 3) (c_x c_int))) (c_nm 2)))).pt) (c_last (c_set 2 (c_sh (c_idx (c_nm 3) (c_x c_int))) sc.nd)) (c_nil)))) <|
    c_last (c_retV 2)
def s_law_places_b1 : S :=
  mtS appD 3 [bin addI (.ex (bin addI (.ex (bin subI (.nm 2) (.nm 7))) (.ex (cst (.int 1))))) (.nm 8)]
def s_law_places_b2 : S :=
  seqS (setE 6 (sh (bin subI (.nm 4) (.nm 5)))) <|
  seqS (setE 7 (blt min3L [(.nm 2), (.ex (bin mulI (.nm 6) (.ex (bin idx (.nm 0) (.ex (cst (.int 0))))))), (.ex (bin subI (.ex (bin mulI (.nm 6) (.ex (bin idx (.nm 0) (.ex (cst (.int 1))))))) (.nm 1)))])) <|
  forS (rngI rng1D [(.ex (bin subI (.nm 7) (.ex (bin mulI (.ex (bin subI (.nm 6) (.ex (cst (.int 1))))) (.ex (bin idx (.nm 0) (.ex (cst (.int 0)))))))))]) (.nm 8) (s_law_places_b1)
def s_law_places : Fn := fnOf 6 <|
  seqS (setE 3 (lstP [])) <|
  seqS (setE 4 (callF s_law_up [(.nm 2), (.ex (bin idx (.nm 0) (.ex (cst (.int 0)))))])) <|
  seqS (forS (rngI rng1D [(.nm 4)]) (.nm 5) (s_law_places_b2)) <|
  retV 3
theorem k_law_places (Z : Zf fa fn K mg) : Ok P w K mg base 2 (He.ga K "_law_places") ["ab", "spell", "stretch"] s_law_places := by
  have sc : FnScope ["ab", "spell", "stretch", "places", "most", "back", "block", "high", "off"] ["ab", "spell", "stretch"] dt_law_places.scope := ⟨rfl, rfl, rfl, by decide +kernel, rfl, by decide +kernel, by decide +kernel⟩
  exact Ok.mk (i := 17) (d := dt_law_places) Z rfl rfl rfl sc rfl (fun _ _ _ _ _ _ us hl => match us, hl with | [_, _, _], _ => rfl) fun cdv A outer s H E hr =>
    c_cons (c_set 3 (c_lst c_qn) sc.nd) <|
    c_cons (c_set 4 (k_call (takes_of rfl rfl rfl rfl) (k_law_up Z) (hr.mono (by first | decide | exact Nat.le_refl _ | omega)) (Z.glo 8) (c_pc (c_nm 2) (c_pc (c_x (c_idx (c_nm 0) (c_x c_int))) c_pn))) sc.nd) <|
    c_cons (c_for (passes_of rfl) rfl (c_irng1 (Z.free 5) (c_pc (c_nm 4) c_pn)) (c_gnm 5 sc.nd) (c_cons (c_set 6 (c_sh (c_sub (c_nm 4) (c_nm 5))) sc.nd) <|
    c_cons (c_set 7 (k_min3 (by rfl) (by rfl) (Z.free 7) (c_pc (c_nm 2) (c_pc (c_x (c_mul (c_nm 6) (c_x (c_idx (c_nm 0) (c_x c_int))))) (c_pc (c_x (c_sub (c_x (c_mul (c_nm 6) (c_x (c_idx (c_nm 0) (c_x c_int))))) (c_nm 1))) c_pn)))) sc.nd) <|
    c_last (c_for (passes_of rfl) rfl (c_irng1 (Z.free 5) (c_pc (c_x (c_sub (c_nm 7) (c_x (c_mul (c_x (c_sub (c_nm 6) (c_x c_int))) (c_x (c_idx (c_nm 0) (c_x c_int))))))) c_pn)) (c_gnm 8 sc.nd) (c_last (c_append 3 (c_nm 3) (c_qc (c_addI (c_x (c_addI (c_x (c_sub (c_nm 2) (c_nm 7))) (c_x c_int))) (c_nm 8)) c_qn)))))) <|
    c_last (c_retV 3)
def s_law_walk_b1 : S :=
  ifS (tst (bin geD (.nm 5) (.nm 4))) (seqS (mtS appD 3 [vr 5]) <|
  setE 4 (sh (bin addI (.nm 5) (.nm 0)))) (passS)
def s_law_walk : Fn := fnOf 3 <|
  seqS (setE 3 (lstP [])) <|
  seqS (setE 4 (sh (vr 2))) <|
  seqS (forS (seqI (vr 1)) (.nm 5) (s_law_walk_b1)) <|
  retV 3
theorem k_law_walk (Z : Zf fa fn K mg) : Ok P w K mg base 1 (He.ga K "_law_walk") ["a", "places", "place"] s_law_walk := by
  have sc : FnScope ["a", "places", "place", "row", "least", "one"] ["a", "places", "place"] dt_law_walk.scope := ⟨rfl, rfl, rfl, by decide +kernel, rfl, by decide +kernel, by decide +kernel⟩
  exact Ok.mk (i := 18) (d := dt_law_walk) Z rfl rfl rfl sc rfl (fun _ _ _ _ _ _ us hl => match us, hl with | [_, _, _], _ => rfl) fun cdv A outer s H E hr =>
    c_cons (c_set 3 (c_lst c_qn) sc.nd) <|
    c_cons (c_set 4 (c_sh (c_vr 2)) sc.nd) <|
    c_cons (c_for (passes_of rfl) rfl (c_iseq (c_vr 1)) (c_gnm 5 sc.nd) (c_last (c_if (c_tcmp op_ge bin_ge (nomark _) (c_nm 5) (c_nm 4)) (c_cons (c_append 3 (c_nm 3) (c_qc (c_vr 5) c_qn)) <|
    c_last (c_set 4 (c_sh (c_addI (c_nm 5) (c_nm 0))) sc.nd)) (c_nil)))) <|
    c_last (c_retV 3)
theorem k_check (Z : Zf fa fn K mg) : Ok P w K mg base 1 (He.ga K "_check") ["least", "run"] s_check := by
  have sc : FnScope ["least", "run"] ["least", "run"] dt_check.scope := ⟨rfl, rfl, rfl, by decide +kernel, rfl, by decide +kernel, by decide +kernel⟩
  exact Ok.mk (i := 19) (d := dt_check) Z rfl rfl rfl sc rfl (fun _ _ _ _ _ _ us hl => match us, hl with | [_, _], _ => rfl) fun cdv A outer s H E hr =>
    c_last (c_if (c_not (c_tchain3 op_le op_le op_le bin_le bin_le bin_le (c_x c_int) (c_nm 0) (c_nm 1) (c_x (c_gint (by rfl) (Z.int 42))))) (c_last (c_raise rfl (takes_of rfl rfl rfl rfl) (Z.excQ 43) (Z.glo 44) (Z.excK 43) (Z.excS 43) (Z.excT 43))) (c_nil))
theorem k_Climate_longest (Z : Zf fa fn K mg) : Ok P w K mg base 1 (He.ma K (He.ga K "Climate") "longest") ["self", "run"] s_Climate_longest := by
  have sc : FnScope ["self", "run", "most", "w", "g"] ["self", "run"] dt_Climate_longest.scope := ⟨rfl, rfl, rfl, by decide +kernel, rfl, by decide +kernel, by decide +kernel⟩
  exact Ok.mk (i := 20) (d := dt_Climate_longest) Z rfl rfl rfl sc rfl (fun _ _ _ _ _ _ us hl => match us, hl with | [_, _], _ => rfl) fun cdv A outer s H E hr =>
    c_cons (c_set 2 (c_sh c_int) sc.nd) <|
    c_cons (c_for (passes_of rfl) rfl (c_iseq (c_fld (c := "Climate") ["kinds"] 0 (Z.cls 34) (Z.noat 35) (c_nm 0))) (c_gtup rfl (c_gsc (c_gnm 3 sc.nd) (c_gsc (c_gnm 4 sc.nd) c_gsn))) (c_last (c_if (c_tcmp op_le bin_le (nomark _) (c_nm 4) (c_nm 1)) (c_last (c_set 2 (c_sh (c_vr 3)) sc.nd)) (c_nil)))) <|
    c_last (c_retV 2)
theorem k_Lacquer_turns (Z : Zf fa fn K mg) : Ok P w K mg base 1 (He.ma K (He.ga K "Lacquer") "turns") ["self", "g"] s_Lacquer_turns := by
  have sc : FnScope ["self", "g"] ["self", "g"] dt_Lacquer_turns.scope := ⟨rfl, rfl, rfl, by decide +kernel, rfl, by decide +kernel, by decide +kernel⟩
  exact Ok.mk (i := 21) (d := dt_Lacquer_turns) Z rfl rfl rfl sc rfl (fun _ _ _ _ _ _ us hl => match us, hl with | [_, _], _ => rfl) fun cdv A outer s H E hr =>
    c_cons (c_if (c_tcmp op_lt bin_lt (nomark _) (c_nm 1) (c_x c_int)) (c_last (c_raise rfl (takes_of rfl rfl rfl rfl) (Z.excQ 43) (Z.glo 44) (Z.excK 43) (Z.excS 43) (Z.excT 43))) (c_nil)) <|
    c_last (c_ret (c_sh (c_neg (c_x (c_fdiv (c_x (c_neg (c_nm 1))) (c_x (c_fld (c := "Lacquer") ["a", "b"] 0 (Z.cls 22) (Z.noat 23) (c_nm 0))))))))
theorem k_enough (Z : Zf fa fn K mg) : Ok P w K mg base 2 (He.ga K "_enough") ["lacquer", "ahead", "spell"] s_enough := by
  have sc : FnScope ["lacquer", "ahead", "spell"] ["lacquer", "ahead", "spell"] dt_enough.scope := ⟨rfl, rfl, rfl, by decide +kernel, rfl, by decide +kernel, by decide +kernel⟩
  exact Ok.mk (i := 22) (d := dt_enough) Z rfl rfl rfl sc rfl (fun _ _ _ _ _ _ us hl => match us, hl with | [_, _, _], _ => rfl) fun cdv A outer s H E hr =>
    c_last (c_ret (c_sh (c_cmp op_ge bin_ge (nomark _) (c_x (c_mul (c_x (c_fz (k_meth (c := "Lacquer") (takes_of rfl rfl rfl rfl) (c_nm 0) (Z.cls 22) (Z.meth 47) (k_Lacquer_turns Z) (hr.mono (by first | decide | exact Nat.le_refl _ | omega)) (c_pc (c_nm 1) c_pn)))) (c_x (c_fld (c := "Lacquer") ["a", "b"] 1 (Z.cls 22) (Z.noat 24) (c_nm 0))))) (c_x (c_fz (c_add (c_nm 1) (c_nm 2)))))))
theorem k_good_places (Z : Zf fa fn K mg) : Ok P w K mg base 3 (He.ga K "good_places") ["lacquer", "climate", "run"] s_good_places := by
  have sc : FnScope ["lacquer", "climate", "run", "spell", "place"] ["lacquer", "climate", "run"] dt_good_places.scope := ⟨rfl, rfl, rfl, by decide +kernel, rfl, by decide +kernel, by decide +kernel⟩
  exact Ok.mk (i := 23) (d := dt_good_places) Z rfl rfl rfl sc rfl (fun _ _ _ _ _ _ us hl => match us, hl with | [_, _, _], _ => rfl) fun cdv A outer s H E hr =>
    c_cons (c_expr (k_call (takes_of rfl rfl rfl rfl) (k_check Z) (hr.mono (by first | decide | exact Nat.le_refl _ | omega)) (Z.glo 45) (c_pc (c_nm 2) (c_pc (c_nm 2) c_pn)))) <|
    c_cons (c_set 3 (k_meth (c := "Climate") (takes_of rfl rfl rfl rfl) (c_nm 1) (Z.cls 34) (Z.meth 46) (k_Climate_longest Z) (hr.mono (by first | decide | exact Nat.le_refl _ | omega)) (c_pc (c_nm 2) c_pn)) sc.nd) <|
    c_last (c_ret (c_lc [("place", 4)] rfl sc.nd (c_irng2 (Z.free 5) (c_pc (c_x c_int) (c_pc (c_x (c_addI (c_nm 2) (c_x c_int))) c_pn))) (blkOk_by (by kernel_rfl)) (fun s H C cl fp => c_gnm 4 sc.nd) (fun s H C cl fp => c_tone (c_tru (c_x (c_fz (k_call takes0 (k_enough Z) (hr.mono (by first | decide | exact Nat.le_refl _ | omega)) (Z.glo 48) (c_pc (c_nm 0) (c_pc (c_x (c_addI (c_x (c_sub (c_nm 2) (c_nm 4))) (c_x c_int))) (c_pc (c_nm 3) c_pn)))))))) (fun s H C cl fp => c_vr 4)))
theorem k_leg (Z : Zf fa fn K mg) : Ok P w K mg base 4 (He.ga K "leg") ["lacquer", "climate", "run", "place"] s_leg := by
  have sc : FnScope ["lacquer", "climate", "run", "place", "coats", "least", "good"] ["lacquer", "climate", "run", "place"] dt_leg.scope := ⟨rfl, rfl, rfl, by decide +kernel, rfl, by decide +kernel, by decide +kernel⟩
  exact Ok.mk (i := 24) (d := dt_leg) Z rfl rfl rfl sc rfl (fun _ _ _ _ _ _ us hl => match us, hl with | [_, _, _, _], _ => rfl) fun cdv A outer s H E hr =>
    c_cons (c_expr (k_call (takes_of rfl rfl rfl rfl) (k_check Z) (hr.mono (by first | decide | exact Nat.le_refl _ | omega)) (Z.glo 45) (c_pc (c_nm 3) (c_pc (c_nm 2) c_pn)))) <|
    c_cons (c_set 4 (c_lst c_qn) sc.nd) <|
    c_cons (c_set 5 (c_sh (c_vr 3)) sc.nd) <|
    c_cons (c_for (passes_of rfl) rfl (c_iseq (c_fz (k_call (takes_of rfl rfl rfl rfl) (k_good_places Z) (hr.mono (by first | decide | exact Nat.le_refl _ | omega)) (Z.glo 49) (c_pc (c_nm 0) (c_pc (c_nm 1) (c_pc (c_nm 2) c_pn)))))) (c_gnm 6 sc.nd) (c_last (c_if (c_tcmp op_ge bin_ge (nomark _) (c_nm 6) (c_nm 5)) (c_cons (c_append 4 (c_nm 4) (c_qc (c_vr 6) c_qn)) <|
    c_last (c_set 5 (c_add (c_nm 6) (c_x (c_fld (c := "Lacquer") ["a", "b"] 0 (Z.cls 22) (Z.noat 23) (c_nm 0)))) sc.nd)) (c_nil)))) <|
    c_last (c_retV 4)
theorem k_law_same (Z : Zf fa fn K mg) : ∀ n : Nat, Ok P w K mg base (1 + n) (He.ga K "_law_same") ["actual", "due"] (s_law_same n)
  | 0 => Ok.none (i := 25) (d := dt_law_same) Z rfl rfl rfl (fun _ _ _ _ _ _ us hl => match us, hl with | [_, _], _ => rfl)
  | n + 1 => by
    have ih := k_law_same Z n
    have sc : FnScope ["actual", "due", "k"] ["actual", "due"] dt_law_same.scope := ⟨rfl, rfl, rfl, by decide +kernel, rfl, by decide +kernel, by decide +kernel⟩
    exact Ok.mk (i := 25) (d := dt_law_same) Z rfl rfl rfl sc rfl (fun _ _ _ _ _ _ us hl => match us, hl with | [_, _], _ => rfl) fun cdv A outer s H E hr =>
    c_cons (c_if (c_tcmp op_isN bin_isN (nomark _) (c_nm 1) (c_x c_non)) (c_last (c_ret (c_sh (c_cmp op_isN bin_isN (nomark _) (c_nm 0) (c_x c_non))))) (c_nil)) <|
    c_cons (c_if (c_tru (c_x (k_isiB .bool (Z.free 51) (Z.free 52) PyProof.Rows.boot_bool (c_nm 1)))) (c_last (c_ret (c_sh (c_vand (k_isiB .bool (Z.free 51) (Z.free 52) PyProof.Rows.boot_bool (c_nm 0)) (c_one (c_cmp (op_eqD (u64 hr)) bin_eqD (nomark _) (c_nm 0) (c_nm 1))))))) (c_nil)) <|
    c_cons (c_if (c_tru (c_x (k_isiB .int (Z.free 51) (Z.free 1) PyProof.Rows.boot_int (c_nm 1)))) (c_last (c_ret (c_sh (c_vand (k_isiB .int (Z.free 51) (Z.free 1) PyProof.Rows.boot_int (c_nm 0)) (c_vand (c_vnot (k_isiB .bool (Z.free 51) (Z.free 52) PyProof.Rows.boot_bool (c_nm 0))) (c_one (c_cmp (op_eqD (u64 hr)) bin_eqD (nomark _) (c_nm 0) (c_nm 1)))))))) (c_nil)) <|
    c_cons (c_if (c_tru (c_x (k_isiB .str (Z.free 51) (Z.free 53) PyProof.Rows.boot_str (c_nm 1)))) (c_last (c_ret (c_sh (c_vand (k_isiB .str (Z.free 51) (Z.free 53) PyProof.Rows.boot_str (c_nm 0)) (c_one (c_cmp (op_eqD (u64 hr)) bin_eqD (nomark _) (c_nm 0) (c_nm 1))))))) (c_nil)) <|
    c_cons (c_if ((c_and (c_tru (c_x (k_isiB .tuple (Z.free 51) (Z.free 33) PyProof.Rows.boot_tuple (c_nm 1)))) (c_and1 (c_not (c_tru (c_x (k_isiB .tuple (Z.free 51) (Z.free 33) PyProof.Rows.boot_tuple (c_nm 0))))))).pt) (c_last (c_ret (c_sh c_bl))) (c_nil)) <|
    c_cons (c_if ((c_and (c_tru (c_x (k_isiB .list (Z.free 51) (Z.free 36) PyProof.Rows.boot_list (c_nm 1)))) (c_and1 (c_not (c_tru (c_x (k_isiB .list (Z.free 51) (Z.free 36) PyProof.Rows.boot_list (c_nm 0))))))).pt) (c_last (c_ret (c_sh c_bl))) (c_nil)) <|
    c_cons (c_if (c_tcmp (op_neD (u64 hr)) bin_neD (nomark _) (c_x (c_fz (c_len (by rfl) (Z.free 14) (c_pc (c_nm 0) c_pn)))) (c_x (c_fz (c_len (by rfl) (Z.free 14) (c_pc (c_nm 1) c_pn))))) (c_last (c_ret (c_sh c_bl))) (c_nil)) <|
    c_cons (c_for (passes_of rfl) rfl (c_irng1 (Z.free 5) (c_pc (c_x (c_fz (c_len (by rfl) (Z.free 14) (c_pc (c_nm 1) c_pn)))) c_pn)) (c_gnm 2 sc.nd) (c_last (c_if (c_not (c_tru (c_x (c_fz (k_call (takes_of rfl rfl rfl rfl) ih (hr.mono (by first | decide | exact Nat.le_refl _ | omega)) (Z.glo 54) (c_pc (c_x (c_idx (c_nm 0) (c_nm 2))) (c_pc (c_x (c_idx (c_nm 1) (c_nm 2))) c_pn))))))) (c_last (c_ret (c_sh c_bl))) (c_nil)))) <|
    c_last (c_ret (c_sh c_bl))
def s_law_lists_i1 : S :=
  ifS (orT (notT (truT (.ex (fz (callF (s_law_same 4) [(.nm 6), (.nm 3)]))))) (notT (truT (.ex (fz (callF (s_law_same 4) [(.nm 7), (.nm 4)])))))) (retE (sh (cst (.bl false)))) (passS)
def s_law_lists_i2 : S :=
  ifS (notT (truT (.ex (fz (callF (s_law_same 4) [(.ex (fz (callF s_good_places [(.nm 0), (.nm 1), (.nm 5)]))), (.nm 3)]))))) (retE (sh (cst (.bl false)))) (passS)
def s_law_lists : Fn := fnOf 3 <|
  seqS (setE 5 (sh (bin idx (.nm 2) (.ex (cst (.int 2)))))) <|
  seqS (setE 6 (callF s_good_places [(.nm 0), (.nm 1), (.nm 5)])) <|
  seqS (setE 7 (callF s_leg [(.nm 0), (.nm 1), (.nm 5), (.ex (bin idx (.nm 2) (.ex (cst (.int 3)))))])) <|
  seqS s_law_lists_i1 <|
  seqS (mtS appD 6 [bin addI (.nm 5) (.ex (cst (.int 1)))]) <|
  seqS (putS lput 6 (cst (.int 0)) (cst (.int 0))) <|
  seqS (mtS appD 7 [bin addI (.nm 5) (.ex (cst (.int 1)))]) <|
  seqS (putS lput 7 (cst (.int 0)) (cst (.int 0))) <|
  seqS s_law_lists_i2 <|
  retE (callF (s_law_same 4) [(.ex (fz (callF s_leg [(.nm 0), (.nm 1), (.nm 5), (.ex (bin idx (.nm 2) (.ex (cst (.int 3)))))]))), (.nm 4)])
theorem k_law_lists (Z : Zf fa fn K mg) : Ok P w K mg base 6 (He.ga K "_law_lists") ["lacquer", "climate", "deal", "places", "row"] s_law_lists := by
  have sc : FnScope ["lacquer", "climate", "deal", "places", "row", "stretch", "told", "coats"] ["lacquer", "climate", "deal", "places", "row"] dt_law_lists.scope := ⟨rfl, rfl, rfl, by decide +kernel, rfl, by decide +kernel, by decide +kernel⟩
  exact Ok.mk (i := 26) (d := dt_law_lists) Z rfl rfl rfl sc rfl (fun _ _ _ _ _ _ us hl => match us, hl with | [_, _, _, _, _], _ => rfl) fun cdv A outer s H E hr =>
    c_cons (c_set 5 (c_sh (c_idx (c_nm 2) (c_x c_int))) sc.nd) <|
    c_cons (c_set 6 (k_call (takes_of rfl rfl rfl rfl) (k_good_places Z) (hr.mono (by first | decide | exact Nat.le_refl _ | omega)) (Z.glo 49) (c_pc (c_nm 0) (c_pc (c_nm 1) (c_pc (c_nm 5) c_pn)))) sc.nd) <|
    c_cons (c_set 7 (k_call (takes_of rfl rfl rfl rfl) (k_leg Z) (hr.mono (by first | decide | exact Nat.le_refl _ | omega)) (Z.glo 50) (c_pc (c_nm 0) (c_pc (c_nm 1) (c_pc (c_nm 5) (c_pc (c_x (c_idx (c_nm 2) (c_x c_int))) c_pn))))) sc.nd) <|
    c_cons (c_if ((c_or (c_not (c_tru (c_x (c_fz (k_call (takes_of rfl rfl rfl rfl) (k_law_same Z 4) (hr.mono (by first | decide | exact Nat.le_refl _ | omega)) (Z.glo 54) (c_pc (c_nm 6) (c_pc (c_nm 3) c_pn))))))) (c_or1 (c_not (c_tru (c_x (c_fz (k_call (takes_of rfl rfl rfl rfl) (k_law_same Z 4) (hr.mono (by first | decide | exact Nat.le_refl _ | omega)) (Z.glo 54) (c_pc (c_nm 7) (c_pc (c_nm 4) c_pn))))))))).pt) (c_last (c_ret (c_sh c_bl))) (c_nil)) <|
    c_cons (c_append 6 (c_nm 6) (c_qc (c_addI (c_nm 5) (c_x c_int)) c_qn)) <|
    c_cons (c_lput 6 (c_nm 6) (c_int) (c_int)) <|
    c_cons (c_append 7 (c_nm 7) (c_qc (c_addI (c_nm 5) (c_x c_int)) c_qn)) <|
    c_cons (c_lput 7 (c_nm 7) (c_int) (c_int)) <|
    c_cons (c_if (c_not (c_tru (c_x (c_fz (k_call (takes_of rfl rfl rfl rfl) (k_law_same Z 4) (hr.mono (by first | decide | exact Nat.le_refl _ | omega)) (Z.glo 54) (c_pc (c_x (c_fz (k_call (takes_of rfl rfl rfl rfl) (k_good_places Z) (hr.mono (by first | decide | exact Nat.le_refl _ | omega)) (Z.glo 49) (c_pc (c_nm 0) (c_pc (c_nm 1) (c_pc (c_nm 5) c_pn)))))) (c_pc (c_nm 3) c_pn))))))) (c_last (c_ret (c_sh c_bl))) (c_nil)) <|
    c_last (c_ret (k_call (takes_of rfl rfl rfl rfl) (k_law_same Z 4) (hr.mono (by first | decide | exact Nat.le_refl _ | omega)) (Z.glo 54) (c_pc (c_x (c_fz (k_call (takes_of rfl rfl rfl rfl) (k_leg Z) (hr.mono (by first | decide | exact Nat.le_refl _ | omega)) (Z.glo 50) (c_pc (c_nm 0) (c_pc (c_nm 1) (c_pc (c_nm 5) (c_pc (c_x (c_idx (c_nm 2) (c_x c_int))) c_pn))))))) (c_pc (c_nm 4) c_pn))))
theorem k_is_good (Z : Zf fa fn K mg) : Ok P w K mg base 3 (He.ga K "is_good") ["lacquer", "climate", "run", "ahead"] s_is_good := by
  have sc : FnScope ["lacquer", "climate", "run", "ahead"] ["lacquer", "climate", "run", "ahead"] dt_is_good.scope := ⟨rfl, rfl, rfl, by decide +kernel, rfl, by decide +kernel, by decide +kernel⟩
  exact Ok.mk (i := 27) (d := dt_is_good) Z rfl rfl rfl sc rfl (fun _ _ _ _ _ _ us hl => match us, hl with | [_, _, _, _], _ => rfl) fun cdv A outer s H E hr =>
    c_cons (c_expr (k_call (takes_of rfl rfl rfl rfl) (k_check Z) (hr.mono (by first | decide | exact Nat.le_refl _ | omega)) (Z.glo 45) (c_pc (c_nm 3) (c_pc (c_nm 2) c_pn)))) <|
    c_last (c_ret (k_call (takes_of rfl rfl rfl rfl) (k_enough Z) (hr.mono (by first | decide | exact Nat.le_refl _ | omega)) (Z.glo 48) (c_pc (c_nm 0) (c_pc (c_nm 3) (c_pc (c_x (c_fz (k_meth (c := "Climate") (takes_of rfl rfl rfl rfl) (c_nm 1) (Z.cls 34) (Z.meth 46) (k_Climate_longest Z) (hr.mono (by first | decide | exact Nat.le_refl _ | omega)) (c_pc (c_nm 2) c_pn)))) c_pn)))))
def s_law_closed_b1 : S :=
  mtS appD 6 [bin addI (.ex (bin addI (.nm 3) (.ex (bin mulI (.nm 7) (.ex (bin idx (.nm 0) (.ex (cst (.int 0))))))))) (.ex (fz (blt max2L [(.ex (cst (.int 0))), (.ex (bin subI (.ex (bin subI (.nm 1) (.nm 5))) (.ex (bin mulI (.ex (bin subI (.nm 4) (.nm 7))) (.ex (bin subI (.ex (bin idx (.nm 0) (.ex (cst (.int 1))))) (.ex (bin idx (.nm 0) (.ex (cst (.int 0)))))))))))])))]
def s_law_closed : Fn := fnOf 4 <|
  seqS (setE 4 (callF s_law_up [(.ex (bin addI (.ex (bin subI (.nm 2) (.nm 3))) (.ex (cst (.int 1))))), (.ex (bin idx (.nm 0) (.ex (cst (.int 0)))))])) <|
  seqS (setE 5 (sh (bin subI (.ex (bin mulI (.nm 4) (.ex (bin idx (.nm 0) (.ex (cst (.int 0))))))) (.ex (bin addI (.ex (bin subI (.nm 2) (.nm 3))) (.ex (cst (.int 1)))))))) <|
  seqS (setE 6 (lstP [])) <|
  seqS (forS (rngI rng1D [(.nm 4)]) (.nm 7) (s_law_closed_b1)) <|
  retV 6
theorem k_law_closed (Z : Zf fa fn K mg) : Ok P w K mg base 2 (He.ga K "_law_closed") ["ab", "spell", "stretch", "place"] s_law_closed := by
  have sc : FnScope ["ab", "spell", "stretch", "place", "turns", "rest", "row", "j"] ["ab", "spell", "stretch", "place"] dt_law_closed.scope := ⟨rfl, rfl, rfl, by decide +kernel, rfl, by decide +kernel, by decide +kernel⟩
  exact Ok.mk (i := 28) (d := dt_law_closed) Z rfl rfl rfl sc rfl (fun _ _ _ _ _ _ us hl => match us, hl with | [_, _, _, _], _ => rfl) fun cdv A outer s H E hr =>
    c_cons (c_set 4 (k_call (takes_of rfl rfl rfl rfl) (k_law_up Z) (hr.mono (by first | decide | exact Nat.le_refl _ | omega)) (Z.glo 8) (c_pc (c_x (c_addI (c_x (c_sub (c_nm 2) (c_nm 3))) (c_x c_int))) (c_pc (c_x (c_idx (c_nm 0) (c_x c_int))) c_pn))) sc.nd) <|
    c_cons (c_set 5 (c_sh (c_sub (c_x (c_mul (c_nm 4) (c_x (c_idx (c_nm 0) (c_x c_int))))) (c_x (c_addI (c_x (c_sub (c_nm 2) (c_nm 3))) (c_x c_int))))) sc.nd) <|
    c_cons (c_set 6 (c_lst c_qn) sc.nd) <|
    c_cons (c_for (passes_of rfl) rfl (c_irng1 (Z.free 5) (c_pc (c_nm 4) c_pn)) (c_gnm 7 sc.nd) (c_last (c_append 6 (c_nm 6) (c_qc (c_addI (c_x (c_addI (c_nm 3) (c_x (c_mul (c_nm 7) (c_x (c_idx (c_nm 0) (c_x c_int))))))) (c_x (c_fz (k_max2 (by rfl) (by rfl) (Z.free 11) (c_pc (c_x c_int) (c_pc (c_x (c_sub (c_x (c_sub (c_nm 1) (c_nm 5))) (c_x (c_mul (c_x (c_sub (c_nm 4) (c_nm 7))) (c_x (c_sub (c_x (c_idx (c_nm 0) (c_x c_int))) (c_x (c_idx (c_nm 0) (c_x c_int))))))))) c_pn)))))) c_qn)))) <|
    c_last (c_retV 6)
def s_law_row_b1 : S :=
  ifS (orT (tst (bin ltD (.ex (bin subI (.ex (bin idx (.nm 1) (.nm 4))) (.ex (bin idx (.nm 1) (.ex (bin subI (.nm 4) (.ex (cst (.int 1))))))))) (.ex (bin idx (.nm 0) (.ex (cst (.int 0))))))) (tst (bin gtD (.ex (bin subI (.ex (bin idx (.nm 1) (.nm 4))) (.ex (bin idx (.nm 1) (.ex (bin subI (.nm 4) (.ex (cst (.int 1))))))))) (.ex (bin idx (.nm 0) (.ex (cst (.int 1)))))))) (retE (sh (cst (.bl false)))) (passS)
def s_law_row : Fn := fnOf 1 <|
  seqS (forS (rngI rng2D [(.ex (cst (.int 1))), (.ex (fz (blt lenL [(.nm 1)])))]) (.nm 4) (s_law_row_b1)) <|
  retE (sh (bin gtD (.ex (fz (binE addD (.ex (bin idx (.nm 1) (.ex (una negI (.ex (cst (.int 1))))))) (.ex (bin idx (.nm 0) (.ex (cst (.int 1)))))))) (.ex (fz (binE addD (.nm 3) (.nm 2))))))
theorem k_law_row (Z : Zf fa fn K mg) : Ok P w K mg base 1 (He.ga K "_law_row") ["ab", "row", "spell", "stretch"] s_law_row := by
  have sc : FnScope ["ab", "row", "spell", "stretch", "j"] ["ab", "row", "spell", "stretch"] dt_law_row.scope := ⟨rfl, rfl, rfl, by decide +kernel, rfl, by decide +kernel, by decide +kernel⟩
  exact Ok.mk (i := 29) (d := dt_law_row) Z rfl rfl rfl sc rfl (fun _ _ _ _ _ _ us hl => match us, hl with | [_, _, _, _], _ => rfl) fun cdv A outer s H E hr =>
    c_cons (c_for (passes_of rfl) rfl (c_irng2 (Z.free 5) (c_pc (c_x c_int) (c_pc (c_x (c_fz (c_len (by rfl) (Z.free 14) (c_pc (c_nm 1) c_pn)))) c_pn))) (c_gnm 4 sc.nd) (c_last (c_if ((c_or (c_tcmp op_lt bin_lt (nomark _) (c_x (c_sub (c_x (c_idx (c_nm 1) (c_nm 4))) (c_x (c_idx (c_nm 1) (c_x (c_sub (c_nm 4) (c_x c_int))))))) (c_x (c_idx (c_nm 0) (c_x c_int)))) (c_or1 (c_tcmp op_gt bin_gt (nomark _) (c_x (c_sub (c_x (c_idx (c_nm 1) (c_nm 4))) (c_x (c_idx (c_nm 1) (c_x (c_sub (c_nm 4) (c_x c_int))))))) (c_x (c_idx (c_nm 0) (c_x c_int)))))).pt) (c_last (c_ret (c_sh c_bl))) (c_nil)))) <|
    c_last (c_ret (c_sh (c_cmp op_gt bin_gt (nomark _) (c_x (c_fz (c_add (c_x (c_idx (c_nm 1) (c_x (c_neg (c_x c_int))))) (c_x (c_idx (c_nm 0) (c_x c_int)))))) (c_x (c_fz (c_add (c_nm 3) (c_nm 2)))))))
def s_law_wait_b1 : S :=
  ifS (tst (bin ltD (.ex (bin mulI (.nm 3) (.ex (bin subI (.ex (bin idx (.nm 0) (.ex (cst (.int 1))))) (.ex (bin idx (.nm 0) (.ex (cst (.int 0))))))))) (.nm 1))) (setE 2 (sh (vr 3))) (passS)
def s_law_wait : Fn := fnOf 2 <|
  seqS (setE 2 (sh (cst (.int 0)))) <|
  seqS (forS (rngI rng1D [(.nm 1)]) (.nm 3) (s_law_wait_b1)) <|
  retE (sh (bin mulI (.nm 2) (.ex (bin idx (.nm 0) (.ex (cst (.int 0)))))))
theorem k_law_wait (Z : Zf fa fn K mg) : Ok P w K mg base 1 (He.ga K "_law_wait") ["ab", "w"] s_law_wait := by
  have sc : FnScope ["ab", "w", "steps", "k"] ["ab", "w"] dt_law_wait.scope := ⟨rfl, rfl, rfl, by decide +kernel, rfl, by decide +kernel, by decide +kernel⟩
  exact Ok.mk (i := 30) (d := dt_law_wait) Z rfl rfl rfl sc rfl (fun _ _ _ _ _ _ us hl => match us, hl with | [_, _], _ => rfl) fun cdv A outer s H E hr =>
    c_cons (c_set 2 (c_sh c_int) sc.nd) <|
    c_cons (c_for (passes_of rfl) rfl (c_irng1 (Z.free 5) (c_pc (c_nm 1) c_pn)) (c_gnm 3 sc.nd) (c_last (c_if (c_tcmp op_lt bin_lt (nomark _) (c_x (c_mul (c_nm 3) (c_x (c_sub (c_x (c_idx (c_nm 0) (c_x c_int))) (c_x (c_idx (c_nm 0) (c_x c_int))))))) (c_nm 1)) (c_last (c_set 2 (c_sh (c_vr 3)) sc.nd)) (c_nil)))) <|
    c_last (c_ret (c_sh (c_mul (c_nm 2) (c_x (c_idx (c_nm 0) (c_x c_int))))))
def s_law_refused : Fn := fnOf 3 <|
  seqS (setE 4 (sh (cst (.bl false)))) <|
  seqS (setE 5 (sh (cst (.bl false)))) <|
  seqS (tryS tab ["BadNumber"] ["DampError", "BadLacquer", "BadKind", "TooLarge"] 6 (ifS (tst (bin eqD (.nm 2) (.ex (cst (.str "good"))))) (dropE (callF s_is_good [(.nm 0), (.nm 1), (.ex (bin idx (.nm 3) (.ex (cst (.int 0))))), (.ex (bin idx (.nm 3) (.ex (cst (.int 1)))))])) (ifS (tst (bin eqD (.nm 2) (.ex (cst (.str "places"))))) (dropE (callF s_good_places [(.nm 0), (.nm 1), (.ex (bin idx (.nm 3) (.ex (cst (.int 0)))))])) (dropE (callF s_leg [(.nm 0), (.nm 1), (.ex (bin idx (.nm 3) (.ex (cst (.int 0))))), (.ex (bin idx (.nm 3) (.ex (cst (.int 1)))))])))) [(4, .cst (.bl true)), (5, .both (.isi "DampError") (.both (.isv "ValueError") (.neg (.isi "TooLarge"))))]) <|
  retE (sh (andP (vr 4) (vr 5)))
theorem k_law_refused (Z : Zf fa fn K mg) : Ok P w K mg base 5 (He.ga K "_law_refused") ["lacquer", "climate", "name", "pair"] s_law_refused := by
  have sc : FnScope ["lacquer", "climate", "name", "pair", "refused", "kin", "e"] ["lacquer", "climate", "name", "pair"] dt_law_refused.scope := ⟨rfl, rfl, rfl, by decide +kernel, rfl, by decide +kernel, by decide +kernel⟩
  exact Ok.mk (i := 31) (d := dt_law_refused) Z rfl rfl rfl sc rfl (fun _ _ _ _ _ _ us hl => match us, hl with | [_, _, _, _], _ => rfl) fun cdv A outer s H E hr =>
    c_cons (c_set 4 (c_sh c_bl) sc.nd) <|
    c_cons (c_set 5 (c_sh c_bl) sc.nd) <|
    c_cons ((by
    have F : ∀ c ∈ (["BadNumber"] : List Str), ExI K tab c ["DampError", "TooLarge"] ["ValueError"] := (fun c hc => by
      simp only [List.mem_cons, List.not_mem_nil, or_false] at hc
      rcases hc with rfl
      · exact exi_mk (Z.exi 70) (fun d hd => by
          simp only [List.mem_cons, List.not_mem_nil, or_false] at hd
          rcases hd with rfl | rfl
          · exact tab_ok (Z.kit 68) (by decide +kernel)
          · exact tab_ok (Z.kit 69) (by decide +kernel)) (fun t ht => by obtain rfl := List.mem_singleton.mp ht; exact tab_ok (Z.kityp 71) (by decide +kernel)))
    exact c_try (tab := tab) (cs := ["BadNumber"]) (ds := ["DampError", "BadLacquer", "BadKind", "TooLarge"]) (takes_of rfl rfl rfl rfl) sc.nd (Z.glo 44) (fun c hc => by
      simp only [List.mem_cons, List.not_mem_nil, or_false] at hc
      rcases hc with rfl
      · exact (Z.exm 63)) (fun c hc => by
      simp only [List.mem_cons, List.not_mem_nil, or_false] at hc
      rcases hc with rfl | rfl | rfl | rfl
      · exact (Z.exm 64)
      · exact (Z.exm 65)
      · exact (Z.exm 66)
      · exact (Z.exm 67)) (fun W0 pn0 xe0 tk0 hp0 => c_last (c_if (c_tcmp (op_eqD (u64 hr)) bin_eqD (nomark _) (c_nm 2) (c_x c_str)) (c_last (c_expr (k_call tk0 (k_is_good Z) (hr.mono (by first | decide | exact Nat.le_refl _ | omega)) (Z.glo 56) (c_pc (c_nm 0) (c_pc (c_nm 1) (c_pc (c_x (c_idx (c_nm 3) (c_x c_int))) (c_pc (c_x (c_idx (c_nm 3) (c_x c_int))) c_pn))))))) (c_last (c_if (c_tcmp (op_eqD (u64 hr)) bin_eqD (nomark _) (c_nm 2) (c_x c_str)) (c_last (c_expr (k_call tk0 (k_good_places Z) (hr.mono (by first | decide | exact Nat.le_refl _ | omega)) (Z.glo 49) (c_pc (c_nm 0) (c_pc (c_nm 1) (c_pc (c_x (c_idx (c_nm 3) (c_x c_int))) c_pn)))))) (c_last (c_expr (k_call tk0 (k_leg Z) (hr.mono (by first | decide | exact Nat.le_refl _ | omega)) (Z.glo 50) (c_pc (c_nm 0) (c_pc (c_nm 1) (c_pc (c_x (c_idx (c_nm 3) (c_x c_int))) (c_pc (c_x (c_idx (c_nm 3) (c_x c_int))) c_pn))))))))))) (fun x a oe pn hx hz hf => (su_cons (h_cst pe_bl fun _ => rfl) (su_cons ((h_both (h_isi (F x.c hx) hz hf (by simp) (Z.free 51) (Z.glo 60)) (h_both (h_isv (F x.c hx) hz hf (by simp) (Z.free 51) (Z.free 61) boot_ValueError) (h_one (h_neg (h_isi (F x.c hx) hz hf (by simp) (Z.free 51) (Z.glo 62))))))) su_nil sc.nd) sc.nd)))) <|
    c_last (c_ret (c_sh (c_vand (c_vr 4) (c_one (c_vr 5)))))
def s_law_odd_refused_i1 : S :=
  ifS (orT (notT (truT (.ex (fz (callF s_law_refused [(.nm 0), (.nm 1), (.ex (cst (.str "good"))), (.nm 2)]))))) (notT (truT (.ex (fz (callF s_law_refused [(.nm 0), (.nm 1), (.ex (cst (.str "leg"))), (.nm 2)])))))) (retE (sh (cst (.bl false)))) (passS)
def s_law_odd_refused : Fn := fnOf 0 <|
  seqS s_law_odd_refused_i1 <|
  retE (sh (orP (chainP leD leD (.ex (cst (.int 1))) (.ex (bin idx (.nm 2) (.ex (cst (.int 0))))) (.ex (cst (.int 400)))) (fz (callF s_law_refused [(.nm 0), (.nm 1), (.ex (cst (.str "places"))), (.nm 2)]))))
theorem k_law_odd_refused (Z : Zf fa fn K mg) : Ok P w K mg base 6 (He.ga K "_law_odd_refused") ["lacquer", "climate", "pair"] s_law_odd_refused := by
  have sc : FnScope ["lacquer", "climate", "pair"] ["lacquer", "climate", "pair"] dt_law_odd_refused.scope := ⟨rfl, rfl, rfl, by decide +kernel, rfl, by decide +kernel, by decide +kernel⟩
  exact Ok.mk (i := 32) (d := dt_law_odd_refused) Z rfl rfl rfl sc rfl (fun _ _ _ _ _ _ us hl => match us, hl with | [_, _, _], _ => rfl) fun cdv A outer s H E hr =>
    c_cons (c_if ((c_or (c_not (c_tru (c_x (c_fz (k_call (takes_of rfl rfl rfl rfl) (k_law_refused Z) (hr.mono (by first | decide | exact Nat.le_refl _ | omega)) (Z.glo 72) (c_pc (c_nm 0) (c_pc (c_nm 1) (c_pc (c_x c_str) (c_pc (c_nm 2) c_pn))))))))) (c_or1 (c_not (c_tru (c_x (c_fz (k_call (takes_of rfl rfl rfl rfl) (k_law_refused Z) (hr.mono (by first | decide | exact Nat.le_refl _ | omega)) (Z.glo 72) (c_pc (c_nm 0) (c_pc (c_nm 1) (c_pc (c_x c_str) (c_pc (c_nm 2) c_pn))))))))))).pt) (c_last (c_ret (c_sh c_bl))) (c_nil)) <|
    c_last (c_ret (c_sh (c_vor (c_chain op_le op_le bin_le bin_le (c_x c_int) (c_x (c_idx (c_nm 2) (c_x c_int))) (c_x c_int)) (c_one (c_fz (k_call (takes_of rfl rfl rfl rfl) (k_law_refused Z) (hr.mono (by first | decide | exact Nat.le_refl _ | omega)) (Z.glo 72) (c_pc (c_nm 0) (c_pc (c_nm 1) (c_pc (c_x c_str) (c_pc (c_nm 2) c_pn))))))))))
def s_law_asked_i1 : S :=
  ifS (notT (truT (.ex (fz (callF s_law_lists [(.nm 3), (.nm 4), (.nm 0), (.nm 6), (.nm 7)]))))) (retE (sh (cst (.bl false)))) (passS)
def s_law_asked_i2 : S :=
  ifS (notT (truT (.ex (fz (callF (s_law_same 4) [(.ex (fz (callF s_is_good [(.nm 3), (.nm 4), (.nm 2), (.ex (bin idx (.nm 0) (.ex (cst (.int 4)))))]))), (.nm 8)]))))) (retE (sh (cst (.bl false)))) (passS)
def s_law_asked_i3 : S :=
  ifS (orT (tst (bin neD (.nm 7) (.ex (fz (callF s_law_closed [(.nm 1), (.nm 5), (.nm 2), (.ex (bin idx (.nm 0) (.ex (cst (.int 3)))))]))))) (notT (truT (.ex (fz (callF s_law_row [(.nm 1), (.nm 7), (.nm 5), (.nm 2)])))))) (retE (sh (cst (.bl false)))) (passS)
def s_law_asked_i4 : S :=
  ifS (tst (bin ltD (.nm 5) (.ex (bin idx (.nm 1) (.ex (cst (.int 1))))))) (s_law_asked_i3) (passS)
def s_law_asked_t5 : T :=
  orT (tst (bin geD (.ex (bin idx (.nm 10) (.ex (cst (.int 0))))) (.ex (bin idx (.nm 1) (.ex (cst (.int 1))))))) (tst (bin leD (.ex (bin idx (.nm 10) (.ex (cst (.int 1))))) (.ex (fz (callF s_law_wait [(.nm 1), (.ex (bin idx (.nm 10) (.ex (cst (.int 0)))))])))))
def s_law_asked_i6 : S :=
  ifS (andT (truT (.nm 9)) (notT (truT (.ex (fz (callF (s_law_same 4) [(.ex (fz (callF s_is_good [(.nm 3), (.nm 4), (.nm 2), (.nm 2)]))), (.ex (cst (.bl true)))])))))) (retE (sh (cst (.bl false)))) (passS)
def s_law_asked : Fn := fnOf 10 <|
  seqS (setE 1 (sh (bin idx (.nm 0) (.ex (cst (.int 0)))))) <|
  seqS (setE 2 (sh (bin idx (.nm 0) (.ex (cst (.int 2)))))) <|
  seqS (setE 3 (mkE "Lacquer" s_Lacquer__init [(.ex (bin idx (.nm 1) (.ex (cst (.int 0))))), (.ex (bin idx (.nm 1) (.ex (cst (.int 1)))))])) <|
  seqS (setE 4 (mkE "Climate" s_Climate__init [(.ex (fz (blt listL [(.ex (bin idx (.nm 0) (.ex (cst (.int 1)))))])))])) <|
  seqS (setE 5 (callF s_law_longest [(.ex (bin idx (.nm 0) (.ex (cst (.int 1))))), (.nm 2)])) <|
  seqS (setE 6 (callF s_law_places [(.nm 1), (.nm 5), (.nm 2)])) <|
  seqS (setE 7 (callF s_law_walk [(.ex (bin idx (.nm 1) (.ex (cst (.int 0))))), (.nm 6), (.ex (bin idx (.nm 0) (.ex (cst (.int 3)))))])) <|
  seqS s_law_asked_i1 <|
  seqS (setE 8 (sh (bin inD (.ex (bin addI (.ex (bin subI (.nm 2) (.ex (bin idx (.nm 0) (.ex (cst (.int 4))))))) (.ex (cst (.int 1))))) (.nm 6)))) <|
  seqS s_law_asked_i2 <|
  seqS s_law_asked_i4 <|
  seqS (setE 9 (sh (bin eqD (.ex (fz (blt lenL [(.ex (fz (lcE (seqI (bin idx (.nm 0) (.ex (cst (.int 1))))) (.nm 10) [10] s_law_asked_t5 (vr 10))))]))) (.ex (cst (.int 0)))))) <|
  seqS s_law_asked_i6 <|
  retE (callF s_law_odd_refused [(.nm 3), (.nm 4), (.ex (bin idx (.nm 0) (.ex (cst (.int 5)))))])
theorem k_law_asked (Z : Zf fa fn K mg) : Ok P w K mg base 7 (He.ga K "_law_asked") ["deal"] s_law_asked := by
  have sc : FnScope ["deal", "ab", "stretch", "lacquer", "climate", "spell", "places", "row", "due", "sound", "kind"] ["deal"] dt_law_asked.scope := ⟨rfl, rfl, rfl, by decide +kernel, rfl, by decide +kernel, by decide +kernel⟩
  exact Ok.mk (i := 33) (d := dt_law_asked) Z rfl rfl rfl sc rfl (fun _ _ _ _ _ _ us hl => match us, hl with | [_], _ => rfl) fun cdv A outer s H E hr =>
    c_cons (c_set 1 (c_sh (c_idx (c_nm 0) (c_x c_int))) sc.nd) <|
    c_cons (c_set 2 (c_sh (c_idx (c_nm 0) (c_x c_int))) sc.nd) <|
    c_cons (c_set 3 (k_make (takes_of rfl rfl rfl rfl) (Z.mkr 25) (k_Lacquer__init Z) (hr.mono (by first | decide | exact Nat.le_refl _ | omega)) (Z.glo 18) (c_pc (c_x (c_idx (c_nm 1) (c_x c_int))) (c_pc (c_x (c_idx (c_nm 1) (c_x c_int))) c_pn))) sc.nd) <|
    c_cons (c_set 4 (k_make (takes_of rfl rfl rfl rfl) (Z.mkr 37) (k_Climate__init Z) (hr.mono (by first | decide | exact Nat.le_refl _ | omega)) (Z.glo 38) (c_pc (c_x (c_fz (k_list (by rfl) (Z.free 36) (c_pc (c_x (c_idx (c_nm 0) (c_x c_int))) c_pn)))) c_pn)) sc.nd) <|
    c_cons (c_set 5 (k_call (takes_of rfl rfl rfl rfl) (k_law_longest Z) (hr.mono (by first | decide | exact Nat.le_refl _ | omega)) (Z.glo 39) (c_pc (c_x (c_idx (c_nm 0) (c_x c_int))) (c_pc (c_nm 2) c_pn))) sc.nd) <|
    c_cons (c_set 6 (k_call (takes_of rfl rfl rfl rfl) (k_law_places Z) (hr.mono (by first | decide | exact Nat.le_refl _ | omega)) (Z.glo 40) (c_pc (c_nm 1) (c_pc (c_nm 5) (c_pc (c_nm 2) c_pn)))) sc.nd) <|
    c_cons (c_set 7 (k_call (takes_of rfl rfl rfl rfl) (k_law_walk Z) (hr.mono (by first | decide | exact Nat.le_refl _ | omega)) (Z.glo 41) (c_pc (c_x (c_idx (c_nm 1) (c_x c_int))) (c_pc (c_nm 6) (c_pc (c_x (c_idx (c_nm 0) (c_x c_int))) c_pn)))) sc.nd) <|
    c_cons (c_if (c_not (c_tru (c_x (c_fz (k_call (takes_of rfl rfl rfl rfl) (k_law_lists Z) (hr.mono (by first | decide | exact Nat.le_refl _ | omega)) (Z.glo 55) (c_pc (c_nm 3) (c_pc (c_nm 4) (c_pc (c_nm 0) (c_pc (c_nm 6) (c_pc (c_nm 7) c_pn)))))))))) (c_last (c_ret (c_sh c_bl))) (c_nil)) <|
    c_cons (c_set 8 (c_sh (c_cmp (o_in hr) bin_inD (by with_unfolding_all rfl) (c_x (c_addI (c_x (c_sub (c_nm 2) (c_x (c_idx (c_nm 0) (c_x c_int))))) (c_x c_int))) (c_nm 6))) sc.nd) <|
    c_cons (c_if (c_not (c_tru (c_x (c_fz (k_call (takes_of rfl rfl rfl rfl) (k_law_same Z 4) (hr.mono (by first | decide | exact Nat.le_refl _ | omega)) (Z.glo 54) (c_pc (c_x (c_fz (k_call (takes_of rfl rfl rfl rfl) (k_is_good Z) (hr.mono (by first | decide | exact Nat.le_refl _ | omega)) (Z.glo 56) (c_pc (c_nm 3) (c_pc (c_nm 4) (c_pc (c_nm 2) (c_pc (c_x (c_idx (c_nm 0) (c_x c_int))) c_pn))))))) (c_pc (c_nm 8) c_pn))))))) (c_last (c_ret (c_sh c_bl))) (c_nil)) <|
    c_cons (c_if (c_tcmp op_lt bin_lt (nomark _) (c_nm 5) (c_x (c_idx (c_nm 1) (c_x c_int)))) (c_last (c_if ((c_or (c_tcmp (op_neD (u64 hr)) bin_neD (nomark _) (c_nm 7) (c_x (c_fz (k_call (takes_of rfl rfl rfl rfl) (k_law_closed Z) (hr.mono (by first | decide | exact Nat.le_refl _ | omega)) (Z.glo 57) (c_pc (c_nm 1) (c_pc (c_nm 5) (c_pc (c_nm 2) (c_pc (c_x (c_idx (c_nm 0) (c_x c_int))) c_pn)))))))) (c_or1 (c_not (c_tru (c_x (c_fz (k_call (takes_of rfl rfl rfl rfl) (k_law_row Z) (hr.mono (by first | decide | exact Nat.le_refl _ | omega)) (Z.glo 58) (c_pc (c_nm 1) (c_pc (c_nm 7) (c_pc (c_nm 5) (c_pc (c_nm 2) c_pn))))))))))).pt) (c_last (c_ret (c_sh c_bl))) (c_nil))) (c_nil)) <|
    c_cons (c_set 9 (c_sh (c_cmp (op_eqD (u64 hr)) bin_eqD (nomark _) (c_x (c_fz (c_len (by rfl) (Z.free 14) (c_pc (c_x (c_fz (c_lc [("kind", 10)] rfl sc.nd (c_iseq (c_idx (c_nm 0) (c_x c_int))) (blkOk_by (by kernel_rfl)) (fun s H C cl fp => c_gnm 10 sc.nd) (fun s H C cl fp => c_tone ((c_or (c_tcmp op_ge bin_ge (nomark _) (c_x (c_idx (c_nm 10) (c_x c_int))) (c_x (c_idx (c_nm 1) (c_x c_int)))) (c_or1 (c_tcmp op_le bin_le (nomark _) (c_x (c_idx (c_nm 10) (c_x c_int))) (c_x (c_fz (k_call takes0 (k_law_wait Z) (hr.mono (by first | decide | exact Nat.le_refl _ | omega)) (Z.glo 59) (c_pc (c_nm 1) (c_pc (c_x (c_idx (c_nm 10) (c_x c_int))) c_pn)))))))).pt)) (fun s H C cl fp => c_vr 10)))) c_pn)))) (c_x c_int))) sc.nd) <|
    c_cons (c_if ((c_and (c_tru (c_nm 9)) (c_and1 (c_not (c_tru (c_x (c_fz (k_call (takes_of rfl rfl rfl rfl) (k_law_same Z 4) (hr.mono (by first | decide | exact Nat.le_refl _ | omega)) (Z.glo 54) (c_pc (c_x (c_fz (k_call (takes_of rfl rfl rfl rfl) (k_is_good Z) (hr.mono (by first | decide | exact Nat.le_refl _ | omega)) (Z.glo 56) (c_pc (c_nm 3) (c_pc (c_nm 4) (c_pc (c_nm 2) (c_pc (c_nm 2) c_pn))))))) (c_pc (c_x c_bl) c_pn))))))))).pt) (c_last (c_ret (c_sh c_bl))) (c_nil)) <|
    c_last (c_ret (k_call (takes_of rfl rfl rfl rfl) (k_law_odd_refused Z) (hr.mono (by first | decide | exact Nat.le_refl _ | omega)) (Z.glo 73) (c_pc (c_nm 3) (c_pc (c_nm 4) (c_pc (c_x (c_idx (c_nm 0) (c_x c_int))) c_pn)))))
def s_law : Fn := fnOf 1 <|
  seqS (setE 1 (callF s_law_deal [(.ex (fz (callF s_law_cell [(.nm 0), (.ex (cst (.int 0)))])))])) <|
  seqS (ifS (orT (notT (truT (.ex (fz (callF s_law_asked [(.nm 1)]))))) (notT (truT (.ex (fz (callF s_law_asked [(.ex (fz (callF s_law_deal [(.ex (fz (callF s_law_cell [(.nm 0), (.ex (cst (.int 1)))])))])))])))))) (retE (sh (cst (.bl false)))) (passS)) <|
  retE (callF s_law_asked [(.nm 1)])
theorem k_law (Z : Zf fa fn K mg) : Ok P w K mg base 8 (He.ga K "law") ["script"] s_law := by
  have sc : FnScope ["script", "first"] ["script"] dt_law.scope := ⟨rfl, rfl, rfl, by decide +kernel, rfl, by decide +kernel, by decide +kernel⟩
  exact Ok.mk (i := 34) (d := dt_law) Z rfl rfl rfl sc rfl (fun _ _ _ _ _ _ us hl => match us, hl with | [_], _ => rfl) fun cdv A outer s H E hr =>
    c_cons (c_set 1 (k_call (takes_of rfl rfl rfl rfl) (k_law_deal Z) (hr.mono (by first | decide | exact Nat.le_refl _ | omega)) (Z.glo 17) (c_pc (c_x (c_fz (k_call (takes_of rfl rfl rfl rfl) (k_law_cell Z) (hr.mono (by first | decide | exact Nat.le_refl _ | omega)) (Z.glo 16) (c_pc (c_nm 0) (c_pc (c_x c_int) c_pn))))) c_pn)) sc.nd) <|
    c_cons (c_if ((c_or (c_not (c_tru (c_x (c_fz (k_call (takes_of rfl rfl rfl rfl) (k_law_asked Z) (hr.mono (by first | decide | exact Nat.le_refl _ | omega)) (Z.glo 74) (c_pc (c_nm 1) c_pn)))))) (c_or1 (c_not (c_tru (c_x (c_fz (k_call (takes_of rfl rfl rfl rfl) (k_law_asked Z) (hr.mono (by first | decide | exact Nat.le_refl _ | omega)) (Z.glo 74) (c_pc (c_x (c_fz (k_call (takes_of rfl rfl rfl rfl) (k_law_deal Z) (hr.mono (by first | decide | exact Nat.le_refl _ | omega)) (Z.glo 17) (c_pc (c_x (c_fz (k_call (takes_of rfl rfl rfl rfl) (k_law_cell Z) (hr.mono (by first | decide | exact Nat.le_refl _ | omega)) (Z.glo 16) (c_pc (c_nm 0) (c_pc (c_x c_int) c_pn))))) c_pn)))) c_pn)))))))).pt) (c_last (c_ret (c_sh c_bl))) (c_nil)) <|
    c_last (c_ret (k_call (takes_of rfl rfl rfl rfl) (k_law_asked Z) (hr.mono (by first | decide | exact Nat.le_refl _ | omega)) (Z.glo 74) (c_pc (c_nm 1) c_pn)))
end
end Z20
end PL

namespace PL
open PySem L2 PL
namespace Z20
abbrev R : PySem.W.OpenRow := PySem.W.OpenLaw.row PySem.Challenge.rw_damphouse_k20_good_places_and_legs
abbrev hk : PySem.W.Hook := hookM 5 fa fn
def ob (s : PySem.W.SharedT) : He.AlD := obsMG 5 fa fn (HandSHeadRun.getT s)
theorem ob_eq (s : PySem.W.SharedT) : ob s = hk.obs s.abs := obsMG_eq (HandSHeadRun.getT_eq s)
def names0 : List PySem.Str := ["__name__", "_wall", "DampError", "BadLacquer", "BadKind", "BadNumber", "TooLarge", "MOST_RUN", "_check", "_enough", "is_good", "good_places", "leg", "Lacquer", "LONGEST_SPELL", "LONGEST_RUN", "check_kind", "plain_list", "MOST_KINDS", "Climate", "_law_cell", "_law_pool", "_law_take", "_law_up", "_law_same", "_law_ab", "_law_kinds", "_law_lead", "_law_sound_kinds", "_law_longest"]
def names1 : List PySem.Str := ["_law_wait", "_law_tight", "_law_drawn", "_law_odd", "_law_deal", "_law_places", "_law_walk", "_law_closed", "_law_refused", "_law_odd_refused", "_law_row", "_law_lists", "_law_asked"]
theorem run (w : World) : HandSHeadRun.RunEq R (PySem.W.view R.prog [48]) hk ob 5000 (names0 ++ names1) w := by
  intro os
  kernel_rfl
def loose : List PySem.Str := (names0 ++ names1)
end Z20
end PL

namespace PL
open PySem L2
namespace Z20
/-! ### k20: the law's own lists -/
theorem min3_ok {x y z : Int} : min3L [.int x, .int y, .int z] = some (.shr (.int (min (min x y) z))) := o_min3
theorem rng_asc {lo : Int} {n : Nat} : (rngI' lo n).Pairwise (· < ·) := by
  unfold rngI'
  rw [List.pairwise_map]
  exact List.pairwise_lt_range.imp fun h => by omega
theorem places_inner {a b W st high : Int} {s4 s5 s6 : Sl} {R : List Int} {n : Nat} {s8 : Sl} (h8 : loB s8 = true) (hl : R.length + n ≤ 100000) : ∃ s8' : Sl, loopS (.nm 8) s_law_places_b1 (rngL 0 n) [.shr (kD (a, b)), .shr (.int W), .shr (.int st), .own (.lst (R.map .int)), s4, s5, s6, .shr (.int high), s8] = .nx [.shr (kD (a, b)), .shr (.int W), .shr (.int st), .own (.lst ((R ++ rngI' (st - high + 1) n).map .int)), s4, s5, s6, .shr (.int high), s8'] ∧ loB s8' = true := by
  obtain ⟨e', g1, s8', rfl, g2⟩ := loop_rng (tg := .nm 8) (body := s_law_places_b1) 0 n
    (fun k e => ∃ s8, e = [.shr (kD (a, b)), .shr (.int W), .shr (.int st), .own (.lst ((R ++ rngI' (st - high + 1) k).map .int)), s4, s5, s6, .shr (.int high), s8] ∧ loB s8 = true)
    [.shr (kD (a, b)), .shr (.int W), .shr (.int st), .own (.lst ((R ++ rngI' (st - high + 1) 0).map .int)), s4, s5, s6, .shr (.int high), s8] ⟨s8, rfl, h8⟩ (fun j env hj hi => by
      obtain ⟨s8, rfl, h8⟩ := hi
      have e : R ++ rngI' (st - high + 1) (j + 1) = (R ++ rngI' (st - high + 1) j) ++ [st - high + 1 + (j : Int)] := by
        unfold rngI'
        rw [List.range_succ, List.map_append, List.append_assoc]; rfl
      have ll : (R ++ rngI' (st - high + 1) j).length = R.length + j := by rw [List.length_append, rngI_len]
      have ap := app_ints (X := R ++ rngI' (st - high + 1) j) (x := st - high + 1 + (j : Int)) (by omega)
      rw [e]
      generalize R ++ rngI' (st - high + 1) j = Q at *
      exact ⟨_, [.shr (kD (a, b)), .shr (.int W), .shr (.int st), .own (.lst ((Q ++ [st - high + 1 + (j : Int)]).map .int)), s4, s5, s6, .shr (.int high), .shr (.int (j : Int))], by simp only [q_tgn, setOk_lo]; simp [h8]; rfl, .inl (by simp [s_law_places_b1, ap, -List.map_append]), _, rfl, rfl⟩)
  have z : R ++ rngI' (st - high + 1) 0 = R := by simp [rngI']
  rw [z] at g1
  exact ⟨s8', g1, g2⟩
theorem law_places_ok {a b W st : Int} (h0 : 1 ≤ a) (h1 : a < b) (h2 : b ≤ 1000) (hW : 0 ≤ W) (hW2 : W ≤ 1000) (hs : 1 ≤ st) (hs2 : st ≤ 400) : s_law_places [.shr (kD (a, b)), .shr (.int W), .shr (.int st)] = .ok (.own (.lst ((gpL a b W st).map .int))) [.no, .no, .no] := by
  have e1 := up_up (x := st) (y := a) (by omega) (by omega)
  obtain ⟨u1, u2⟩ := upZ_spec (h := st) h0
  have gl := gp_len (a := a) (b := b) (W := W) (run := st)
  obtain ⟨M, hM⟩ : ∃ M, M = upZ st a := ⟨_, rfl⟩
  rw [← hM] at e1 u1 u2
  have M0 : 0 ≤ M := by
    by_cases c : 0 ≤ M
    · exact c
    · have := Int.mul_nonpos_of_nonpos_of_nonneg (a := M) (b := a) (by omega) (by omega)
      omega
  have M1 : M ≤ 400 := by
    have := Int.mul_le_mul_of_nonneg_left (a := 1) (b := a) (c := M - 1) (by omega) (by
      by_cases c : 1 ≤ M
      · omega
      · have : M = 0 := by omega
        rw [this, Int.zero_mul] at u2; omega)
    omega
  have r := rng1_a (i := M) (by omega) (by omega)
  have hf : ∀ c : Int, ((gpL a b W st).filter fun y => decide (c * a < st - y + 1)).Pairwise (· < ·) := fun c => gp_asc.filter _
  have hlen : ∀ c : Int, ((gpL a b W st).filter fun y => decide (c * a < st - y + 1)).length ≤ 400 := fun c => by
    have := List.length_filter_le (fun y => decide (c * a < st - y + 1)) (gpL a b W st)
    omega
  obtain ⟨e', g1, s5, s6, s7, s8, rfl, _⟩ := loop_rng (tg := .nm 5) (body := s_law_places_b2) 0 M.toNat
    (fun k e => ∃ s5 s6 s7 s8, e = [.shr (kD (a, b)), .shr (.int W), .shr (.int st), .own (.lst (((gpL a b W st).filter fun y => decide ((M - k) * a < st - y + 1)).map .int)), .shr (.int M), s5, s6, s7, s8] ∧ loB s5 = true ∧ loB s6 = true ∧ loB s7 = true ∧ loB s8 = true)
    [.shr (kD (a, b)), .shr (.int W), .shr (.int st), .own (.lst []), .shr (.int M), .no, .no, .no, .no] ⟨.no, .no, .no, .no, by
      have : (gpL a b W st).filter (fun y => decide ((M - (0 : Nat)) * a < st - y + 1)) = [] := by
        rw [List.filter_eq_nil_iff]
        intro y hy
        have := (mem_gp.mp hy).1
        rw [Int.natCast_zero, Int.sub_zero, decide_eq_true_eq]
        omega
      rw [this]; rfl, rfl, rfl, rfl, rfl⟩ (fun j env hj hi => by
      obtain ⟨s5, s6, s7, s8, rfl, h5, h6, h7, h8⟩ := hi
      obtain ⟨B, hB⟩ : ∃ B, B = M - (j : Int) := ⟨_, rfl⟩
      have hB1 : M - ((j + 1 : Nat) : Int) = B - 1 := by omega
      rw [hB1]
      have m1 := o_mulR (x := B) (y := a) (by omega) (by omega)
      have m2 := o_mulR (x := B) (y := b) (by omega) (by omega)
      have m3 := o_mulR (x := B - 1) (y := a) (by omega) (by omega)
      have e3 : (B - 1) * a = B * a - a := by rw [Int.sub_mul, Int.one_mul]
      have mn := min3_ok (x := st) (y := B * a) (z := B * b - W)
      have bb : 0 ≤ (B - 1) * a := Int.mul_nonneg (by omega) (by omega)
      have b2 : (B - 1) * a ≤ (B - 1) * 1000 := Int.mul_le_mul_of_nonneg_left (by omega) (by omega)
      have b3 : 0 ≤ B * b := Int.mul_nonneg (by omega) (by omega)
      have mem : ∀ (high : Int), high = min (min st (B * a)) (B * b - W) → ∀ n : Nat, n = (high - (B - 1) * a).toNat → ((gpL a b W st).filter fun y => decide (B * a < st - y + 1)) ++ rngI' (st - high + 1) n = (gpL a b W st).filter fun y => decide ((B - 1) * a < st - y + 1) := fun high hh n hn => by
        have key : ∀ y, B * a < st - y + 1 ∨ ((B - 1) * a < st - y + 1 ∧ st - y + 1 ≤ B * a) ∨ st - y + 1 ≤ (B - 1) * a := fun y => by omega
        refine asc_ext ?_ (hf _) fun y => ?_
        · rw [List.pairwise_append]
          refine ⟨hf _, rng_asc, fun x hx y hy => ?_⟩
          have h3 := (List.mem_filter.mp hx).2
          rw [decide_eq_true_eq] at h3
          have h4 := mem_rngI.mp hy
          omega
        · rw [List.mem_append, List.mem_filter, List.mem_filter, mem_gp, mem_rngI, decide_eq_true_eq, decide_eq_true_eq]
          have eu : (B - 1) * a < st - y + 1 → st - y + 1 ≤ B * a → (enB a b W (st - y + 1) = true ↔ st - y + 1 + W ≤ B * b) := fun z1 z2 => by
            unfold enB
            rw [upZ_uniq h0 z1 z2, decide_eq_true_eq]
          constructor
          · rintro (⟨z1, z2⟩ | z)
            · exact ⟨z1, by omega⟩
            · have z1 : (B - 1) * a < st - y + 1 := by omega
              have z2 : st - y + 1 ≤ B * a := by omega
              exact ⟨⟨by omega, by omega, (eu z1 z2).mpr (by omega)⟩, z1⟩
          · rintro ⟨⟨z1, z2, z3⟩, z4⟩
            by_cases c : B * a < st - y + 1
            · exact .inl ⟨⟨z1, z2, z3⟩, c⟩
            · have := (eu z4 (by omega)).mp z3
              exact .inr (by omega)
      have hRl := hlen B
      rw [← hB]
      obtain ⟨high, hh⟩ : ∃ high, high = min (min st (B * a)) (B * b - W) := ⟨_, rfl⟩
      rw [← hh] at mn
      have sub : M - (0 + (j : Int)) = B := by omega
      have sub' : M - (j : Int) = B := by omega
      have rr : rng1D [.int (high - (B - 1) * a)] = some (rngL 0 (high - (B - 1) * a).toNat) := rng1_a (by omega) (by omega)
      have mm := mem high hh _ rfl
      generalize hN : (high - (B - 1) * a).toNat = N at *
      generalize hR : (gpL a b W st).filter (fun y => decide (B * a < st - y + 1)) = R at *
      rw [← mm]
      obtain ⟨t8, i1, i2⟩ := places_inner (a := a) (b := b) (W := W) (st := st) (high := high) (s4 := .shr (.int M)) (s5 := .shr (.int (0 + (j : Int)))) (s6 := .shr (.int B)) (R := R) (n := N) h8 (by omega)
      generalize B * a = BA at *
      generalize B * b = BB at *
      generalize (B - 1) * a = BC at *
      refine ⟨[.shr (kD (a, b)), .shr (.int W), .shr (.int st), .own (.lst (R.map .int)), .shr (.int M), .shr (.int (0 + (j : Int))), s6, s7, s8], [.shr (kD (a, b)), .shr (.int W), .shr (.int st), .own (.lst ((R ++ rngI' (st - high + 1) N).map .int)), .shr (.int M), .shr (.int (0 + (j : Int))), .shr (.int B), .shr (.int high), t8], by simp [setOk_lo, h5], .inl ?_, _, _, _, _, rfl, rfl, rfl, rfl, i2⟩
      simp only [Int.zero_add] at i1 ⊢
      simp [s_law_places_b2, sub', setOk_lo, h6, h7, kD_0, kD_1, m1, m2, m3, mn, rr, i1, -List.map_append])
  have fin : (gpL a b W st).filter (fun y => decide ((M - (M.toNat : Int)) * a < st - y + 1)) = gpL a b W st := by
    rw [List.filter_eq_self]
    intro y hy
    have := (mem_gp.mp hy).2.1
    rw [show M - (M.toNat : Int) = 0 by omega, Int.zero_mul, decide_eq_true_eq]
    omega
  rw [fin] at g1
  generalize M.toNat = N at *
  generalize (gpL a b W st).map D.int = Y at *
  simp [s_law_places, lstL, setOk_lo, kD_0, e1, r, g1]

theorem eqvAll_self : ∀ X : List Int, PyData.eqvAll ((X.map D.int).map toPy) ((X.map D.int).map toPy) = true
  | [] => by simp [PyData.eqvAll]
  | x :: X => by
    have := eqvAll_self X
    simp only [List.map_cons, PyData.eqvAll, toPy, PyData.eqv, this]
    simp
theorem neD_self {X : List Int} : neD (.lst (X.map D.int)) (.lst (X.map D.int)) = some (.bl false) := by
  have e : eqAble (.lst (X.map D.int)) = true := by simp [eqAble, eqAbles_int]
  have s1 := shaped_ints X
  unfold neD eqq
  rw [e, s1]
  simp [toPy, PyData.eqv, eqvAll_self, -List.map_map]
theorem law_walk_loop {a : Int} {s1 s2 : Sl} : ∀ (L R : List Int) (least : Int) (s5 : Sl), loB s5 = true → R.length + L.length ≤ 100000 → ∃ (least' : Int) (s5' : Sl), loopS (.nm 5) s_law_walk_b1 (L.map .int) [.shr (.int a), s1, s2, .own (.lst (R.map .int)), .shr (.int least), s5] = .nx [.shr (.int a), s1, s2, .own (.lst ((R ++ walkL a L least).map .int)), .shr (.int least'), s5'] ∧ loB s5' = true
  | [], R, least, s5, h5, _ => ⟨least, s5, by simp [loopS, walkL], h5⟩
  | p :: L, R, least, s5, h5, hl => by
    rw [List.length_cons] at hl
    by_cases c : least ≤ p
    · obtain ⟨l', t6, g, gl⟩ := law_walk_loop L (R ++ [p]) (p + a) (.shr (.int p)) rfl (by rw [List.length_append, List.length_singleton]; omega)
      have ap := app_ints (X := R) (x := p) (by omega)
      refine ⟨l', t6, ?_, gl⟩
      rw [List.append_assoc] at g
      simp only [List.singleton_append] at g
      unfold walkL
      rw [if_pos c, List.map_cons, ← g]
      conv => lhs; unfold loopS
      simp [setOk_lo, h5, s_law_walk_b1, c, ap, -List.map_append]
    · obtain ⟨l', t6, g, gl⟩ := law_walk_loop L R least (.shr (.int p)) rfl (by omega)
      refine ⟨l', t6, ?_, gl⟩
      unfold walkL
      rw [if_neg c, List.map_cons, ← g]
      conv => lhs; unfold loopS
      simp [setOk_lo, h5, s_law_walk_b1, c, -List.map_append]
theorem law_walk_ok {a place : Int} {L : List Int} (hl : L.length ≤ 10000) : s_law_walk [.shr (.int a), .shr (.lst (L.map .int)), .shr (.int place)] = .ok (.own (.lst ((walkL a L place).map .int))) [.no, .no, .no] := by
  obtain ⟨l', t6, g, _⟩ := law_walk_loop (a := a) (s1 := .shr (.lst (L.map .int))) (s2 := .shr (.int place)) L [] place .no rfl (by simp; omega)
  simp only [List.map_nil, List.nil_append] at g
  simp [s_law_walk, lstL, setOk_lo, g]
/-- the closed row -/
def clsL (a b W place T rest : Int) : List Int := (List.range T.toNat).map fun (i : Nat) => clsC a b W place T rest (i : Int)
theorem law_closed_ok {a b W st place : Int} (h0 : 1 ≤ a) (h1 : a < b) (h2 : b ≤ 1000) (hs2 : st ≤ 400) (hp : 1 ≤ place) (hp2 : place ≤ st) : s_law_closed [.shr (kD (a, b)), .shr (.int W), .shr (.int st), .shr (.int place)] = .ok (.own (.lst ((clsL a b W place (upZ (st - place + 1) a) (upZ (st - place + 1) a * a - (st - place + 1))).map .int))) [.no, .no, .no, .no] := by
  have e1 := up_up (x := st - place + 1) (y := a) (by omega) (by omega)
  obtain ⟨u1, u2⟩ := upZ_spec (h := st - place + 1) h0
  have e3 : (upZ (st - place + 1) a - 1) * a = upZ (st - place + 1) a * a - a := by rw [Int.sub_mul, Int.one_mul]
  generalize hT : upZ (st - place + 1) a = T at *
  have T0 : 1 ≤ T := by
    by_cases c : 1 ≤ T
    · exact c
    · have := Int.mul_nonpos_of_nonpos_of_nonneg (a := T) (b := a) (by omega) (by omega)
      omega
  have T1 : T ≤ 400 := by
    have := Int.mul_le_mul_of_nonneg_left (a := 1) (b := a) (c := T - 1) (by omega) (by omega)
    omega
  have r := rng1_a (i := T) (by omega) (by omega)
  have m0 := o_mulR (x := T) (y := a) (by omega) (by omega)
  generalize hrest : T * a - (st - place + 1) = rest at *
  obtain ⟨e', g1, s7, rfl, _⟩ := loop_rng (tg := .nm 7) (body := s_law_closed_b1) 0 T.toNat
    (fun k e => ∃ s7, e = [.shr (kD (a, b)), .shr (.int W), .shr (.int st), .shr (.int place), .shr (.int T), .shr (.int rest), .own (.lst (((List.range k).map fun (i : Nat) => clsC a b W place T rest (i : Int)).map .int)), s7] ∧ loB s7 = true)
    [.shr (kD (a, b)), .shr (.int W), .shr (.int st), .shr (.int place), .shr (.int T), .shr (.int rest), .own (.lst []), .no] ⟨.no, rfl, rfl⟩ (fun j env hj hi => by
      obtain ⟨s7, rfl, h7⟩ := hi
      have m1 := o_mulR (x := (j : Int)) (y := a) (by omega) (by omega)
      have m2 := o_mulR (x := T - (j : Int)) (y := b - a) (by omega) (by omega)
      have ap := app_ints (X := (List.range j).map fun (i : Nat) => clsC a b W place T rest (i : Int)) (x := clsC a b W place T rest (j : Int)) (by simp; omega)
      have e : (List.range (j + 1)).map (fun (i : Nat) => clsC a b W place T rest (i : Int)) = (List.range j).map (fun (i : Nat) => clsC a b W place T rest (i : Int)) ++ [clsC a b W place T rest (j : Int)] := by rw [List.range_succ, List.map_append]; rfl
      rw [e]
      generalize (List.range j).map (fun (i : Nat) => clsC a b W place T rest (i : Int)) = Q at *
      have ec : clsC a b W place T rest (j : Int) = place + (j : Int) * a + max 0 (W - rest - (T - (j : Int)) * (b - a)) := rfl
      rw [ec] at ap ⊢
      clear ec e
      generalize (j : Int) * a = JA at *
      generalize (T - (j : Int)) * (b - a) = JD at *
      exact ⟨_, [.shr (kD (a, b)), .shr (.int W), .shr (.int st), .shr (.int place), .shr (.int T), .shr (.int rest), .own (.lst ((Q ++ [place + JA + max 0 (W - rest - JD)]).map .int)), .shr (.int (j : Int))], by simp only [q_tgn, setOk_lo]; simp [h7]; rfl, .inl (by simp [s_law_closed_b1, kD_0, kD_1, m1, m2, ap, -List.map_append]), _, rfl, rfl⟩)
  unfold clsL
  generalize ((List.range T.toNat).map fun (i : Nat) => clsC a b W place T rest (i : Int)).map D.int = Y at *
  generalize T.toNat = N at *
  simp [s_law_closed, kD_0, e1, m0, hrest, setOk_lo, lstL, r, g1]
theorem law_row_ok {a b W st place T rest : Int} (h0 : 1 ≤ a) (h1 : a < b) (hT0 : 1 ≤ T) (hT1 : T ≤ 400) (hW : 0 ≤ W) (hWb : W < b) (hT : T * a - rest = st - place + 1) (hr : 0 ≤ rest) (hr2 : rest < a) : s_law_row [.shr (kD (a, b)), .shr (.lst ((clsL a b W place T rest).map .int)), .shr (.int W), .shr (.int st)] = .ok (.shr (.bl true)) [.no, .no, .no, .no] := by
  have ll : (clsL a b W place T rest).length = T.toNat := by simp [clsL]
  have lz : lenL [.lst ((clsL a b W place T rest).map .int)] = some (.shr (.int T)) := by
    rw [o_len]; congr 3; simp; omega
  have r := rng2_a (i := 1) (j := T) (by omega) (by omega) (by omega) (by omega)
  rw [show (T - 1).toNat = T.toNat - 1 by omega] at r
  have gk : ∀ k : Nat, k < T.toNat → gI (clsL a b W place T rest) k = clsC a b W place T rest (k : Int) := fun k hk => by
    unfold gI clsL
    rw [List.getD_eq_getElem?_getD, List.getElem?_map, List.getElem?_range hk]; rfl
  obtain ⟨e', g1, s4, rfl, _⟩ := loop_rng (tg := .nm 4) (body := s_law_row_b1) 1 (T.toNat - 1)
    (fun k e => ∃ s4, e = [.shr (kD (a, b)), .shr (.lst ((clsL a b W place T rest).map .int)), .shr (.int W), .shr (.int st), s4] ∧ loB s4 = true)
    [.shr (kD (a, b)), .shr (.lst ((clsL a b W place T rest).map .int)), .shr (.int W), .shr (.int st), .no] ⟨.no, rfl, rfl⟩ (fun j env hj hi => by
      obtain ⟨s4, rfl, h4⟩ := hi
      have i1 := idxN (H := clsL a b W place T rest) (k := j + 1) (by omega)
      have i2 := idxP (H := clsL a b W place T rest) (k := j + 1) (by omega) (by omega)
      rw [Nat.add_sub_cancel] at i2
      rw [gk _ (by omega)] at i1 i2
      obtain ⟨st1, st2⟩ := cls_step (W := W) (place := place) (T := T) (rest := rest) h0 h1 (j := (j : Int))
      rw [show ((j + 1 : Nat) : Int) = (j : Int) + 1 by omega] at i1 i2
      rw [show (1 + (j : Int)) = (j : Int) + 1 by omega]
      generalize clsC a b W place T rest ((j : Int) + 1) = C1 at *
      generalize clsC a b W place T rest (j : Int) = C0 at *
      generalize hK : (j : Int) + 1 = K at *
      have d1 : ¬ C1 - C0 < a := by omega
      have d2 : ¬ b < C1 - C0 := by omega
      exact ⟨[.shr (kD (a, b)), .shr (.lst ((clsL a b W place T rest).map .int)), .shr (.int W), .shr (.int st), .shr (.int K)], _, by simp [setOk_lo, h4], .inl (by simp [s_law_row_b1, i1, i2, kD_0, kD_1, d1, d2]; rfl), _, rfl, rfl⟩)
  have il := idxL (H := clsL a b W place T rest) (by omega)
  have lI' : lI (clsL a b W place T rest) = clsC a b W place T rest (T - 1) := by
    unfold lI
    rw [ll, gk _ (by omega)]
    congr 1; omega
  obtain ⟨c1, c2, c3, c4, c5, c6⟩ := cls_at h0 h1 hW hWb hT hr hr2 (j := T - 1) (by omega) (by omega)
  rw [show T - (T - 1) = 1 by omega, Int.one_mul] at c4
  rw [lI'] at il
  generalize clsC a b W place T rest (T - 1) = C at *
  generalize (clsL a b W place T rest).map D.int = Y at *
  have d : st + W < C + b := by omega
  generalize T.toNat - 1 = N at *
  simp [s_law_row, lz, r, g1, il, kD_1, d]
/-! ### waiting -/
def waitK (d w : Int) : Nat → Int
  | 0 => 0
  | k + 1 => if (k : Int) * d < w then k else waitK d w k
theorem waitK_ok {d w : Int} (hd : 1 ≤ d) : ∀ k : Nat, 0 ≤ waitK d w k ∧ waitK d w k ≤ k ∧ (1 ≤ k → waitK d w k = (k : Int) - 1 ∨ w ≤ (waitK d w k + 1) * d)
  | 0 => by simp [waitK]
  | k + 1 => by
    obtain ⟨h1, h2, h3⟩ := waitK_ok (w := w) hd k
    unfold waitK
    by_cases c : (k : Int) * d < w
    · rw [if_pos c]; exact ⟨by omega, by omega, fun _ => .inl (by omega)⟩
    · rw [if_neg c]
      refine ⟨h1, by omega, fun _ => .inr ?_⟩
      by_cases k1 : 1 ≤ k
      · rcases h3 k1 with z | z
        · rw [z, show (k : Int) - 1 + 1 = k by omega]; omega
        · exact z
      · have : k = 0 := by omega
        subst this
        simp [waitK]
        have : (0 : Int) * d = 0 := Int.zero_mul d
        omega
theorem wait_le {d w : Int} (hd : 1 ≤ d) (hw : 1 ≤ w) : w ≤ (waitK d w w.toNat + 1) * d := by
  obtain ⟨h1, h2, h3⟩ := waitK_ok (w := w) hd w.toNat
  rcases h3 (by omega) with z | z
  · rw [z, show ((w.toNat : Nat) : Int) - 1 + 1 = w by omega]
    have := Int.mul_le_mul_of_nonneg_left (a := 1) (b := d) (c := w) hd (by omega)
    omega
  · exact z
theorem law_wait_ok {a b w : Int} (h0 : 1 ≤ a) (h1 : a < b) (h2 : b ≤ 1000) (hw : w ≤ 1000) (hw0 : 0 ≤ w) : s_law_wait [.shr (kD (a, b)), .shr (.int w)] = .ok (.shr (.int (waitK (b - a) w w.toNat * a))) [.no, .no] := by
  have r := rng1_a (i := w) (by omega) (by omega)
  obtain ⟨e', g1, s3, rfl, _⟩ := loop_rng (tg := .nm 3) (body := s_law_wait_b1) 0 w.toNat
    (fun k e => ∃ s3, e = [.shr (kD (a, b)), .shr (.int w), .shr (.int (waitK (b - a) w k)), s3] ∧ loB s3 = true)
    [.shr (kD (a, b)), .shr (.int w), .shr (.int 0), .no] ⟨.no, rfl, rfl⟩ (fun j env hj hi => by
      obtain ⟨s3, rfl, h3⟩ := hi
      have m1 := o_mulR (x := (j : Int)) (y := b - a) (by omega) (by omega)
      by_cases c : (j : Int) * (b - a) < w
      · have e : waitK (b - a) w (j + 1) = j := by rw [waitK, if_pos c]
        rw [e]
        generalize waitK (b - a) w j = V at *
        generalize (j : Int) * (b - a) = Q at *
        exact ⟨_, [.shr (kD (a, b)), .shr (.int w), .shr (.int j), .shr (.int j)], by simp only [q_tgn, setOk_lo]; simp [h3]; rfl, .inl (by simp [s_law_wait_b1, kD_0, kD_1, m1, c, setOk_lo]), _, rfl, rfl⟩
      · have e : waitK (b - a) w (j + 1) = waitK (b - a) w j := by rw [waitK, if_neg c]
        rw [e]
        generalize waitK (b - a) w j = V at *
        generalize (j : Int) * (b - a) = Q at *
        exact ⟨_, [.shr (kD (a, b)), .shr (.int w), .shr (.int V), .shr (.int j)], by simp only [q_tgn, setOk_lo]; simp [h3]; rfl, .inl (by simp [s_law_wait_b1, kD_0, kD_1, m1, c]), _, rfl, rfl⟩)
  have m2 := o_mulR (x := waitK (b - a) w w.toNat) (y := a) (by omega) (by omega)
  generalize w.toNat = N at *
  generalize waitK (b - a) w N = V at *
  simp [s_law_wait, setOk_lo, r, g1, kD_0, m2]

/-! ### k20: draws -/
theorem snd_loop {a b m pk nd top : Int} (h0 : 1 ≤ a) (h1 : a < b) (h2 : b ≤ 12) (t1 : 1 ≤ top) (t2 : top ≤ 16) (t3 : top ≤ ((nd - 1) / a + 1) * (b - a)) (n1 : 1 ≤ nd) (n2 : nd ≤ 120) (n : Nat) (hn : n ≤ 100) (p : Pool) :
    ∃ (l : List (Int × Int)) (q : Pool) (s9 s10 s11 : Sl), loopS (.nm 9) s_law_sound_kinds_b1 (rngL 0 n) [.io (poolD p), .shr (kD (a, b)), .shr (.int m), .shr (.int pk), .shr (.int nd), .shr (.int a), .shr (.int b), .shr (.int top), .own (.lst []), .no, .no, .no] = .nx [.io (poolD q), .shr (kD (a, b)), .shr (.int m), .shr (.int pk), .shr (.int nd), .shr (.int a), .shr (.int b), .shr (.int top), .own (.lst (l.map kD)), s9, s10, s11] ∧ Kin 16 120 l ∧ l.length = n := by
  obtain ⟨e', g1, l, q, s9, s10, s11, rfl, g2, g3, _⟩ := loop_rng (tg := .nm 9) (body := s_law_sound_kinds_b1) 0 n
    (fun k e => ∃ (l : List (Int × Int)) (q : Pool) (s9 s10 s11 : Sl), e = [.io (poolD q), .shr (kD (a, b)), .shr (.int m), .shr (.int pk), .shr (.int nd), .shr (.int a), .shr (.int b), .shr (.int top), .own (.lst (l.map kD)), s9, s10, s11] ∧ Kin 16 120 l ∧ l.length = k ∧ loB s9 = true ∧ loB s10 = true ∧ loB s11 = true)
    [.io (poolD p), .shr (kD (a, b)), .shr (.int m), .shr (.int pk), .shr (.int nd), .shr (.int a), .shr (.int b), .shr (.int top), .own (.lst []), .no, .no, .no] ⟨[], p, .no, .no, .no, rfl, fun x hx => by simp at hx, rfl, rfl, rfl, rfl⟩ (fun j env hj hi => by
      obtain ⟨l, q, s9, s10, s11, rfl, g2, g3, h9, h10, h11⟩ := hi
      have e1 := take_ok (p := q) (s := top) (by omega) (by omega)
      have b1 := tv_b q (s := top) (by omega)
      obtain ⟨w, hw⟩ : ∃ w, w = 1 + tv q top := ⟨_, rfl⟩
      have e2 := lead_ok (w := w) h0 h1 h2
      obtain ⟨u1, u2⟩ := upZ_spec (h := w) (a := b - a) (by omega)
      obtain ⟨ld, hld⟩ : ∃ ld, ld = leadZ a b w := ⟨_, rfl⟩
      have hu : leadZ a b w = (upZ w (b - a) - 1) * a := rfl
      have u3 : 1 ≤ upZ w (b - a) := by
        by_cases c : 1 ≤ upZ w (b - a)
        · exact c
        · have := Int.mul_nonpos_of_nonpos_of_nonneg (a := upZ w (b - a)) (b := b - a) (by omega) (by omega)
          omega
      have u4 : upZ w (b - a) - 1 ≤ (nd - 1) / a := by
        have : (upZ w (b - a) - 1) * (b - a) < ((nd - 1) / a + 1) * (b - a) := by omega
        have := Int.lt_of_mul_lt_mul_right this (by omega)
        omega
      have u5 : (upZ w (b - a) - 1) * a ≤ (nd - 1) / a * a := Int.mul_le_mul_of_nonneg_right u4 (by omega)
      have u6 := Int.ediv_mul_le (nd - 1) (b := a) (by omega)
      have u7 : 0 ≤ (upZ w (b - a) - 1) * a := Int.mul_nonneg (by omega) (by omega)
      rw [← hld] at e2 hu
      have lb : 0 ≤ ld ∧ ld ≤ nd - 1 := by omega
      have e3 := take_ok (p := tp q top) (s := nd - ld) (by omega) (by omega)
      have b3 := tv_b (tp q top) (s := nd - ld) (by omega)
      have ap := o_app (ds := l.map kD) (d := kD (w, ld + 1 + tv (tp q top) (nd - ld))) (by simp; omega)
      have mp : l.map kD ++ [kD (w, ld + 1 + tv (tp q top) (nd - ld))] = (l ++ [(w, ld + 1 + tv (tp q top) (nd - ld))]).map kD := by simp
      rw [mp] at ap
      have kn := g2.snoc (a := w) (b := ld + 1 + tv (tp q top) (nd - ld)) (by omega) (by omega) (by omega) (by omega)
      have ln : (l ++ [(w, ld + 1 + tv (tp q top) (nd - ld))]).length = j + 1 := by simp [g3]
      clear hu u1 u2 u3 u4 u5 u6 u7 hld mp
      generalize tv (tp q top) (nd - ld) = G at *
      generalize tp (tp q top) (nd - ld) = q3 at *
      generalize tp q top = q2 at *
      generalize l ++ [(w, ld + 1 + G)] = l' at *
      have kd : (D.tup [.int w, .int (ld + 1 + G)]) = kD (w, ld + 1 + G) := rfl
      exact ⟨_, [.io (poolD q3), .shr (kD (a, b)), .shr (.int m), .shr (.int pk), .shr (.int nd), .shr (.int a), .shr (.int b), .shr (.int top), .own (.lst (l'.map kD)), .shr (.int j), .shr (.int w), .shr (.int ld)], by simp only [q_tgn, setOk_lo]; simp [h9]; rfl, .inl (by simp [s_law_sound_kinds_b1, e1, ← hw, setOk_lo, h10, h11, e2, e3, kd, ap]), l', q3, _, _, _, rfl, kn, ln, rfl, rfl, rfl⟩)
  exact ⟨l, q, s9, s10, s11, g1, g2, g3⟩
theorem sound_kinds_ok {p : Pool} {a b m pk nd : Int} (h0 : 1 ≤ a) (h1 : a < b) (h2 : b ≤ 12) (m0 : 0 ≤ m) (m1 : m ≤ 16) (k1 : 1 ≤ pk) (k2 : pk ≤ 16) (n1 : 1 ≤ nd) (n2 : nd ≤ 120) : ∃ (l : List (Int × Int)) (q : Pool), s_law_sound_kinds [.io (poolD p), .shr (kD (a, b)), .shr (.int m), .shr (.int pk), .shr (.int nd)] = .ok (.own (.lst (l.map kD))) [.io (poolD q), .no, .no, .no, .no] ∧ Kin 16 120 l ∧ (l.length : Int) ≤ m := by
  have e0 := take_ok (p := p) (s := m + 1) (by omega) (by omega)
  have b0 := tv_b p (s := m + 1) (by omega)
  have d0 : 0 ≤ (nd - 1) / a := Int.ediv_nonneg (by omega) (by omega)
  have mu := o_mulR (x := (nd - 1) / a + 1) (y := b - a) (by omega) (by omega)
  have mb := Int.mul_le_mul_of_nonneg_right (a := 1) (b := (nd - 1) / a + 1) (c := b - a) (by omega) (by omega)
  have fd : fdivI (.int (nd - 1)) (.int a) = some (.int ((nd - 1) / a)) := by simp [fdivI, show 0 < a by omega, show a.natAbs < 1073741824 by omega]
  obtain ⟨l, q, s9, s10, s11, g1, g2, g3⟩ := snd_loop (m := m) (pk := pk) (nd := nd) (top := min pk (min (b - 1) (((nd - 1) / a + 1) * (b - a)))) h0 h1 h2 (by omega) (by omega) (by omega) n1 n2 (tv p (m + 1)).toNat (by omega) (tp p (m + 1))
  have r := rng1_a (i := tv p (m + 1)) (by omega) (by omega)
  refine ⟨l, q, ?_, g2, by omega⟩
  generalize ((nd - 1) / a + 1) * (b - a) = Q at *
  generalize (tv p (m + 1)).toNat = N at *
  simp [s_law_sound_kinds, kD_0, kD_1, setOk_lo, fd, mu, lstL, e0, r, g1]
theorem tight_ok {p : Pool} {a b : Int} (h0 : 1 ≤ a) (h1 : a < b) (h2 : b ≤ 12) : ∃ (l : List (Int × Int)) (q : Pool), s_law_tight [.io (poolD p), .shr (kD (a, b))] = .ok (.own (.lst (l.map kD))) [.io (poolD q), .no] ∧ Kin 16 120 l ∧ (l.length : Int) ≤ 4 := by
  have e0 := take_ok (p := p) (s := 5) (by omega) (by omega)
  have b0 := tv_b p (s := 5) (by omega)
  have r := rng1_a (i := tv p 5) (by omega) (by omega)
  obtain ⟨e', g1, l, q, s3, s4, s5, rfl, g2, g3, _⟩ := loop_rng (tg := .nm 3) (body := s_law_tight_b1) 0 (tv p 5).toNat
    (fun k e => ∃ (l : List (Int × Int)) (q : Pool) (s3 s4 s5 : Sl), e = [.io (poolD q), .shr (kD (a, b)), .own (.lst (l.map kD)), s3, s4, s5] ∧ Kin 16 120 l ∧ l.length = k ∧ loB s3 = true ∧ loB s4 = true ∧ loB s5 = true)
    [.io (poolD (tp p 5)), .shr (kD (a, b)), .own (.lst []), .no, .no, .no] ⟨[], _, .no, .no, .no, rfl, fun x hx => by simp at hx, rfl, rfl, rfl, rfl⟩ (fun j env hj hi => by
      obtain ⟨l, q, s3, s4, s5, rfl, g2, g3, h3, h4, h5⟩ := hi
      have e1 := take_ok (p := q) (s := 5) (by omega) (by omega)
      have b1 := tv_b q (s := 5) (by omega)
      obtain ⟨t, ht⟩ : ∃ t, t = 1 + tv q 5 := ⟨_, rfl⟩
      have e2 := take_ok (p := tp q 5) (s := 2) (by omega) (by omega)
      have b2 := tv_b (tp q 5) (s := 2) (by omega)
      have e3 := take_ok (p := tp (tp q 5) 2) (s := a) (by omega) (by omega)
      have b3 := tv_b (tp (tp q 5) 2) (s := a) (by omega)
      have m1 := o_mulR (x := t) (y := b - a) (by omega) (by omega)
      have m2 := o_mulR (x := t - 1) (y := a) (by omega) (by omega)
      have mb : 0 ≤ t * (b - a) := Int.mul_nonneg (by omega) (by omega)
      have mc : 0 ≤ (t - 1) * a := Int.mul_nonneg (by omega) (by omega)
      have md : (t - 1) * a ≤ 4 * 11 := Int.mul_le_mul (by omega) (by omega) (by omega) (by omega)
      generalize t * (b - a) = Q at *
      generalize (t - 1) * a = U at *
      obtain ⟨w, hw⟩ : ∃ w, w = max 1 (min (b - 1) Q - tv (tp q 5) 2) := ⟨_, rfl⟩
      have ap := o_app (ds := l.map kD) (d := kD (w, U + 1 + tv (tp (tp q 5) 2) a)) (by simp; omega)
      have mp : l.map kD ++ [kD (w, U + 1 + tv (tp (tp q 5) 2) a)] = (l ++ [(w, U + 1 + tv (tp (tp q 5) 2) a)]).map kD := by simp
      rw [mp] at ap
      have kn := g2.snoc (a := w) (b := U + 1 + tv (tp (tp q 5) 2) a) (by omega) (by omega) (by omega) (by omega)
      have ln : (l ++ [(w, U + 1 + tv (tp (tp q 5) 2) a)]).length = j + 1 := by simp [g3]
      clear mp
      generalize tv (tp (tp q 5) 2) a = G at *
      generalize l ++ [(w, U + 1 + G)] = l' at *
      have kd : (D.tup [.int w, .int (U + 1 + G)]) = kD (w, U + 1 + G) := rfl
      exact ⟨_, [.io (poolD (tp (tp (tp q 5) 2) a)), .shr (kD (a, b)), .own (.lst (l'.map kD)), .shr (.int j), .shr (.int t), .shr (.int w)], by simp only [q_tgn, setOk_lo]; simp [h3]; rfl, .inl (by simp [s_law_tight_b1, e1, ← ht, setOk_lo, h4, h5, kD_0, kD_1, m1, m2, e2, ← hw, e3, kd, ap]), l', _, _, _, _, rfl, kn, ln, rfl, rfl, rfl⟩)
  refine ⟨l, q, ?_, g2, by omega⟩
  generalize (tv p 5).toNat = N at *
  simp [s_law_tight, setOk_lo, lstL, e0, r, g1]

theorem drawn_ok {p : Pool} {a b : Int} (h0 : 1 ≤ a) (h1 : a < b) (h2 : b ≤ 12) : ∃ (l : List (Int × Int)) (q : Pool), s_law_drawn [.io (poolD p), .shr (kD (a, b))] = .ok (.own (.lst (l.map kD))) [.io (poolD q), .no] ∧ Kin 16 120 l ∧ (l.length : Int) ≤ 4 := by
  have e0 := take_ok (p := p) (s := 6) (by omega) (by omega)
  have b0 := tv_b p (s := 6) (by omega)
  generalize tv p 6 = w at *
  generalize tp p 6 = q at *
  have kk : ∀ nd : Int, nd = 12 ∨ nd = 120 → s_law_kinds [.io (poolD q), .shr (.int 4), .shr (.int 16), .shr (.int nd)] = .ok (.own (.lst ((kindsV q 4 16 nd).map kD))) [.io (poolD (kindsP q 4 16 nd)), .no, .no, .no] := fun nd hn => kinds_ok (by omega) (by omega) (by omega) (by omega) (by omega) (by omega)
  have kin : ∀ nd : Int, nd = 12 ∨ nd = 120 → Kin 16 120 (kindsV q 4 16 nd) := fun nd hn => (kindsV_in (by omega) (by omega)).up (by omega) (by omega)
  have i0 : ∀ x y : Int, idx (.lst [.int x, .int y]) (.int 0) = some (.int x) := fun x y => by rw [o_idx (by omega)]; rfl
  have i1 : ∀ x y : Int, idx (.lst [.int x, .int y]) (.int 1) = some (.int y) := fun x y => by rw [o_idx (by omega)]; rfl
  by_cases w0 : w = 0
  · subst w0
    have z := kk 12 (.inl rfl)
    exact ⟨_, kindsP q 4 16 12, by simp [s_law_drawn, s_law_drawn_i1, e0, setOk_lo, lstL, i0, z], kin 12 (.inl rfl), kindsV_len (by omega)⟩
  by_cases w1 : w = 1
  · subst w1
    have z := kk 120 (.inr rfl)
    exact ⟨_, kindsP q 4 16 120, by simp [s_law_drawn, s_law_drawn_i1, e0, setOk_lo, lstL, i1, z], kin 120 (.inr rfl), kindsV_len (by omega)⟩
  have n2 : ¬ w < 2 := by omega
  by_cases w2 : w = 2
  · subst w2
    obtain ⟨l, q', z, g1, g2⟩ := sound_kinds_ok (p := q) (m := 4) (pk := 16) (nd := 40) h0 h1 h2 (by omega) (by omega) (by omega) (by omega) (by omega) (by omega)
    exact ⟨l, q', by simp [s_law_drawn, s_law_drawn_i1, s_law_drawn_i2, e0, setOk_lo, lstL, i0, z], g1, g2⟩
  by_cases w3 : w = 3
  · subst w3
    obtain ⟨l, q', z, g1, g2⟩ := sound_kinds_ok (p := q) (m := 4) (pk := 16) (nd := 120) h0 h1 h2 (by omega) (by omega) (by omega) (by omega) (by omega) (by omega)
    exact ⟨l, q', by simp [s_law_drawn, s_law_drawn_i1, s_law_drawn_i2, e0, setOk_lo, lstL, i1, z], g1, g2⟩
  have n4 : ¬ w < 4 := by omega
  obtain ⟨l, q', z, g1, g2⟩ := tight_ok (p := q) h0 h1 h2
  exact ⟨l, q', by simp [s_law_drawn, s_law_drawn_i1, s_law_drawn_i2, e0, setOk_lo, n2, n4, z], g1, g2⟩
/-- a pair of a run and a place of which one is out of range -/
def Odd2 (x y : Int) : Prop := ¬ (1 ≤ y ∧ y ≤ x ∧ x ≤ 400)
theorem odd_ok {p : Pool} {st : Int} (h1 : 1 ≤ st) (h2 : st ≤ 400) : ∃ (x y : Int) (q : Pool), s_law_odd [.io (poolD p), .shr (.int st)] = .ok (.shr (kD (x, y))) [.io (poolD q), .no] ∧ Odd2 x y := by
  have e0 := take_ok (p := p) (s := 5) (by omega) (by omega)
  have b0 := tv_b p (s := 5) (by omega)
  generalize tv p 5 = w at *
  generalize tp p 5 = q at *
  have i0 : ∀ x y : Int, idx (.lst [.int x, .int y]) (.int 0) = some (.int x) := fun x y => by rw [o_idx (by omega)]; rfl
  have i1 : ∀ x y : Int, idx (.lst [.int x, .int y]) (.int 1) = some (.int y) := fun x y => by rw [o_idx (by omega)]; rfl
  by_cases w0 : w = 0
  · subst w0
    exact ⟨st, 0, q, by simp [s_law_odd, s_law_odd_i1, e0, setOk_lo, kD], fun z => by omega⟩
  have n0 : (w == 0) = false := beq_eq_false_iff_ne.mpr w0
  by_cases w1 : w = 1
  · subst w1
    have e1 := take_ok (p := q) (s := 5) (by omega) (by omega)
    have b1 := tv_b q (s := 5) (by omega)
    exact ⟨st, st + 1 + tv q 5, tp q 5, by simp [s_law_odd, s_law_odd_i1, s_law_odd_i2, e0, setOk_lo, e1, kD], fun z => by omega⟩
  have n1 : (w == 1) = false := beq_eq_false_iff_ne.mpr w1
  by_cases w2 : w = 2
  · subst w2
    have e1 := take_ok (p := q) (s := 9) (by omega) (by omega)
    have b1 := tv_b q (s := 9) (by omega)
    have e2 := take_ok (p := tp q 9) (s := 2) (by omega) (by omega)
    have b2 := tv_b (tp q 9) (s := 2) (by omega)
    have e3 := take_ok (p := tp (tp q 9) 2) (s := 401) (by omega) (by omega)
    by_cases c : tv (tp q 9) 2 = 0
    · exact ⟨401 + tv q 9, 1 + tv (tp (tp q 9) 2) 401, tp (tp (tp q 9) 2) 401, by simp [s_law_odd, s_law_odd_i1, s_law_odd_i2, s_law_odd_i3, e0, setOk_lo, e1, e2, e3, c, lstL, i0, kD], fun z => by omega⟩
    · have c1 : tv (tp q 9) 2 = 1 := by omega
      exact ⟨100000, 1 + tv (tp (tp q 9) 2) 401, tp (tp (tp q 9) 2) 401, by simp [s_law_odd, s_law_odd_i1, s_law_odd_i2, s_law_odd_i3, e0, setOk_lo, e1, e2, e3, c1, lstL, i1, kD], fun z => by omega⟩
  have n2 : (w == 2) = false := beq_eq_false_iff_ne.mpr w2
  by_cases w3 : w = 3
  · subst w3
    have e1 := take_ok (p := q) (s := 3) (by omega) (by omega)
    have b1 := tv_b q (s := 3) (by omega)
    refine ⟨0 - tv q 3, 1, tp q 3, ?_, fun z => by omega⟩
    generalize tv q 3 = t at *
    simp [s_law_odd, s_law_odd_i1, s_law_odd_i2, s_law_odd_i3, s_law_odd_i4, e0, setOk_lo, e1, kD]
  have n3 : (w == 3) = false := beq_eq_false_iff_ne.mpr w3
  have e1 := take_ok (p := q) (s := 4) (by omega) (by omega)
  have b1 := tv_b q (s := 4) (by omega)
  refine ⟨st, 0 - 1 - tv q 4, tp q 4, ?_, fun z => by omega⟩
  generalize tv q 4 = t at *
  simp [s_law_odd, s_law_odd_i1, s_law_odd_i2, s_law_odd_i3, s_law_odd_i4, e0, setOk_lo, e1, n0, n1, n2, n3, kD]
theorem deal_i2_ok {p : Pool} {c : Sl} {a b st w : Int} {l : List (Int × Int)} (hk : Kin 16 120 l) (hl : l.length ≤ 4) (h1 : 1 ≤ st) (h2 : st ≤ 400) : ∃ (st' : Int) (q : Pool), 1 ≤ st' ∧ st' ≤ 400 ∧
    s_law_deal_i2 [c, .own (poolD p), .shr (kD (a, b)), .own (.lst (l.map kD)), .shr (.int st), .shr (.int w), .no] = .nx [c, .own (poolD q), .shr (kD (a, b)), .own (.lst (l.map kD)), .shr (.int st'), .shr (.int w), .no] := by
  by_cases w7 : w = 7
  · subst w7
    have e1 := take_ok (p := p) (s := 341) (by omega) (by omega)
    have b1 := tv_b p (s := 341) (by omega)
    exact ⟨60 + tv p 341, tp p 341, by omega, by omega, by simp [s_law_deal_i2, e1, setOk_lo]⟩
  have n7 : (w == 7) = false := beq_eq_false_iff_ne.mpr w7
  by_cases c : 7 < w ∧ 0 < l.length
  · have e1 := take_ok (p := p) (s := (l.length : Int)) (by omega) (by omega)
    have b1 := tv_b p (s := (l.length : Int)) (by omega)
    have e2 := take_ok (p := tp p (l.length : Int)) (s := 20) (by omega) (by omega)
    have b2 := tv_b (tp p (l.length : Int)) (s := 20) (by omega)
    obtain ⟨x, hx⟩ : ∃ x, l[(tv p (l.length : Int)).toNat]? = some x := ⟨_, List.getElem?_eq_getElem (by omega)⟩
    have ix : idx (.lst (l.map kD)) (.int (tv p (l.length : Int))) = some (kD x) := by rw [o_idx b1.1, List.getElem?_map, hx]; rfl
    have xb := hk x (List.mem_of_getElem? hx)
    refine ⟨x.2 + tv (tp p (l.length : Int)) 20, tp (tp p (l.length : Int)) 20, by omega, by omega, ?_⟩
    generalize tv p (l.length : Int) = v at *
    simp [s_law_deal_i2, s_law_deal_i1, n7, c.1, c.2, e1, ix, e2, setOk_lo]
  · refine ⟨st, p, h1, h2, ?_⟩
    by_cases c1 : 7 < w
    · have c2 : ¬ 0 < l.length := fun z => c ⟨c1, z⟩
      simp [s_law_deal_i2, s_law_deal_i1, n7, c1, c2]
    · simp [s_law_deal_i2, s_law_deal_i1, n7, c1]
theorem deal_i34_ok {p : Pool} {c c3 c5 : Sl} {a b st pl : Int} (h0 : 1 ≤ a) (h1 : 1 ≤ st) (h2 : st ≤ 400) (p1 : 1 ≤ pl) (p2 : pl ≤ st) : ∃ (pl' pl2 : Int) (q q2 : Pool), 1 ≤ pl2 ∧ pl2 ≤ st ∧
    s_law_deal_i3 [c, .own (poolD p), .shr (kD (a, b)), c3, .shr (.int st), c5, .shr (.int pl)] = .nx [c, .own (poolD q), .shr (kD (a, b)), c3, .shr (.int st), c5, .shr (.int pl')] ∧
    s_law_deal_i4 [c, .own (poolD q), .shr (kD (a, b)), c3, .shr (.int st), c5, .shr (.int pl')] = .nx [c, .own (poolD q2), .shr (kD (a, b)), c3, .shr (.int st), c5, .shr (.int pl2)] := by
  have s3 : ∃ (pl' : Int) (q : Pool), 1 ≤ pl' ∧ pl' ≤ st ∧ s_law_deal_i3 [c, .own (poolD p), .shr (kD (a, b)), c3, .shr (.int st), c5, .shr (.int pl)] = .nx [c, .own (poolD q), .shr (kD (a, b)), c3, .shr (.int st), c5, .shr (.int pl')] := by
    have e0 := take_ok (p := p) (s := 3) (by omega) (by omega)
    by_cases z : tv p 3 = 0
    · have e1 := take_ok (p := tp p 3) (s := min st a) (by omega) (by omega)
      have b1 := tv_b (tp p 3) (s := min st a) (by omega)
      refine ⟨1 + tv (tp p 3) (min st a), tp (tp p 3) (min st a), by omega, by omega, ?_⟩
      simp [s_law_deal_i3, e0, z, e1, kD_0, setOk_lo]
    · have z' : (tv p 3 == 0) = false := beq_eq_false_iff_ne.mpr z
      exact ⟨pl, tp p 3, p1, p2, by simp [s_law_deal_i3, e0, z']⟩
  obtain ⟨pl', q, g1, g2, g3⟩ := s3
  have e0 := take_ok (p := q) (s := 4) (by omega) (by omega)
  by_cases z : tv q 4 = 0
  · exact ⟨pl', 1, q, tp q 4, by omega, by omega, g3, by simp [s_law_deal_i4, e0, z, setOk_lo]⟩
  · have z' : (tv q 4 == 0) = false := beq_eq_false_iff_ne.mpr z
    exact ⟨pl', pl', q, tp q 4, g1, g2, g3, by simp [s_law_deal_i4, e0, z']⟩
def dealD (a b : Int) (l : List (Int × Int)) (st pl dd x y : Int) : D := .tup [kD (a, b), .lst (l.map kD), .int st, .int pl, .int dd, kD (x, y)]
theorem deal_ok (c : Int) : ∃ (a b : Int) (l : List (Int × Int)) (st pl dd x y : Int), 1 ≤ a ∧ a < b ∧ b ≤ 12 ∧ Kin 16 120 l ∧ l.length ≤ 4 ∧ 1 ≤ st ∧ st ≤ 400 ∧ 1 ≤ pl ∧ pl ≤ st ∧ 1 ≤ dd ∧ dd ≤ st ∧ Odd2 x y ∧
    s_law_deal [.shr (.int c)] = .ok (.shr (dealD a b l st pl dd x y)) [.no] := by
  have p0 := pool_ok (c := c)
  generalize poolV c = q0 at *
  have e1 := ab_ok (p := q0) (m := 12) (by omega) (by omega)
  have b1 := ab_b q0 (m := 12) (by omega)
  generalize abP q0 12 = q1 at *
  generalize abV q0 12 = v at *
  obtain ⟨a, b⟩ := v
  simp only at b1
  obtain ⟨l, q2, e2, k1, k2⟩ := drawn_ok (p := q1) (a := a) (b := b) (by omega) (by omega) (by omega)
  have e3 := take_ok (p := q2) (s := 60) (by omega) (by omega)
  have b3 := tv_b q2 (s := 60) (by omega)
  have e4 := take_ok (p := tp q2 60) (s := 16) (by omega) (by omega)
  obtain ⟨st, q3, s1, s2, e5⟩ := deal_i2_ok (p := tp (tp q2 60) 16) (c := .shr (.int c)) (a := a) (b := b) (st := 1 + tv q2 60) (w := tv (tp q2 60) 16) k1 (by omega) (by omega) (by omega)
  have e6 := take_ok (p := q3) (s := st) (by omega) (by omega)
  have b6 := tv_b q3 (s := st) (by omega)
  obtain ⟨pl', pl, q4, q5, g1, g2, e7, e8⟩ := deal_i34_ok (p := tp q3 st) (c := .shr (.int c)) (c3 := .own (.lst (l.map kD))) (c5 := .shr (.int (tv (tp q2 60) 16))) (a := a) (b := b) (st := st) (pl := 1 + tv q3 st) (by omega) s1 s2 (by omega) (by omega)
  have e9 := take_ok (p := q5) (s := st) (by omega) (by omega)
  have b9 := tv_b q5 (s := st) (by omega)
  obtain ⟨x, y, q6, e10, od⟩ := odd_ok (p := tp q5 st) s1 s2
  refine ⟨a, b, l, st, pl, 1 + tv q5 st, x, y, by omega, by omega, by omega, k1, by omega, s1, s2, g1, g2, by omega, by omega, od, ?_⟩
  simp [s_law_deal, p0, e1, e2, e3, e4, e5, e6, e7, e8, e9, e10, setOk_lo, dealD]

/-! ### k20: refusals -/
theorem check_bad {x y : Int} (h : ¬ (1 ≤ x ∧ x ≤ y ∧ y ≤ 400)) : s_check [.shr (.int x), .shr (.int y)] = .exc ⟨"BadNumber", [], []⟩ [.no, .no] := by
  by_cases h1 : 1 ≤ x
  · by_cases h2 : x ≤ y
    · have h3 : ¬ y ≤ 400 := fun z => h ⟨h1, h2, z⟩
      simp [s_check, h1, h2, h3]
    · simp [s_check, h1, h2]
  · simp [s_check, h1]
theorem refused_good {a b x y : Int} {P : List (Int × Int)} (h : Odd2 x y) : s_law_refused [.shr (lacD a b), .shr (cliD P), .shr (.str "good"), .shr (kD (x, y))] = .ok (.shr (.bl true)) [.no, .no, .no, .no] := by
  have e := check_bad (x := y) (y := x) h
  have h1 : ∀ env, hev tab ⟨Str.ofString "BadNumber", [], []⟩ env (.cst (.bl true)) = some (.bl true) := fun env => by kernel_rfl
  have h2 : ∀ env, hev tab ⟨Str.ofString "BadNumber", [], []⟩ env (.both (.isi (Str.ofString "DampError")) (.both (.isv "ValueError") (.neg (.isi (Str.ofString "TooLarge"))))) = some (.bl true) := fun env => by kernel_rfl
  have eq : eqD (.str "good") (.str "good") = some (.bl true) := by rw [eqD_str _ _ (by decide +kernel) (by decide +kernel), (by decide +kernel : (Str.ofString "good" == Str.ofString "good") = true)]
  simp [s_law_refused, s_is_good, eq, kD_0, kD_1, e, setOk_lo, suS, h1, h2]
theorem refused_leg {a b x y : Int} {P : List (Int × Int)} (h : Odd2 x y) : s_law_refused [.shr (lacD a b), .shr (cliD P), .shr (.str "leg"), .shr (kD (x, y))] = .ok (.shr (.bl true)) [.no, .no, .no, .no] := by
  have e := check_bad (x := y) (y := x) h
  have h1 : ∀ env, hev tab ⟨Str.ofString "BadNumber", [], []⟩ env (.cst (.bl true)) = some (.bl true) := fun env => by kernel_rfl
  have h2 : ∀ env, hev tab ⟨Str.ofString "BadNumber", [], []⟩ env (.both (.isi (Str.ofString "DampError")) (.both (.isv "ValueError") (.neg (.isi (Str.ofString "TooLarge"))))) = some (.bl true) := fun env => by kernel_rfl
  have eq : eqD (.str "leg") (.str "good") = some (.bl false) := by rw [eqD_str _ _ (by decide +kernel) (by decide +kernel), (by decide +kernel : (Str.ofString "leg" == Str.ofString "good") = false)]
  have eq2 : eqD (.str "leg") (.str "places") = some (.bl false) := by rw [eqD_str _ _ (by decide +kernel) (by decide +kernel), (by decide +kernel : (Str.ofString "leg" == Str.ofString "places") = false)]
  simp [s_law_refused, s_leg, eq, eq2, kD_0, kD_1, e, setOk_lo, suS, h1, h2]
theorem refused_places {a b x y : Int} {P : List (Int × Int)} (h : ¬ (1 ≤ x ∧ x ≤ 400)) : s_law_refused [.shr (lacD a b), .shr (cliD P), .shr (.str "places"), .shr (kD (x, y))] = .ok (.shr (.bl true)) [.no, .no, .no, .no] := by
  have e := check_bad (x := x) (y := x) fun z => h ⟨z.1, z.2.2⟩
  have h1 : ∀ env, hev tab ⟨Str.ofString "BadNumber", [], []⟩ env (.cst (.bl true)) = some (.bl true) := fun env => by kernel_rfl
  have h2 : ∀ env, hev tab ⟨Str.ofString "BadNumber", [], []⟩ env (.both (.isi (Str.ofString "DampError")) (.both (.isv "ValueError") (.neg (.isi (Str.ofString "TooLarge"))))) = some (.bl true) := fun env => by kernel_rfl
  have eq : eqD (.str "places") (.str "good") = some (.bl false) := by rw [eqD_str _ _ (by decide +kernel) (by decide +kernel), (by decide +kernel : (Str.ofString "places" == Str.ofString "good") = false)]
  have eq2 : eqD (.str "places") (.str "places") = some (.bl true) := by rw [eqD_str _ _ (by decide +kernel) (by decide +kernel), (by decide +kernel : (Str.ofString "places" == Str.ofString "places") = true)]
  simp [s_law_refused, s_good_places, eq, eq2, kD_0, kD_1, e, setOk_lo, suS, h1, h2]
theorem odd_refused_ok {a b x y : Int} {P : List (Int × Int)} (h : Odd2 x y) : s_law_odd_refused [.shr (lacD a b), .shr (cliD P), .shr (kD (x, y))] = .ok (.shr (.bl true)) [.no, .no, .no] := by
  have e1 := refused_good (a := a) (b := b) (P := P) h
  have e2 := refused_leg (a := a) (b := b) (P := P) h
  by_cases c : 1 ≤ x
  · by_cases c2 : x ≤ 400
    · simp [s_law_odd_refused, s_law_odd_refused_i1, e1, e2, kD_0, c, c2]
    · have e3 := refused_places (a := a) (b := b) (P := P) (x := x) (y := y) fun z => c2 z.2
      simp [s_law_odd_refused, s_law_odd_refused_i1, e1, e2, e3, kD_0, c, c2]
  · have e3 := refused_places (a := a) (b := b) (P := P) (x := x) (y := y) fun z => c z.1
    simp [s_law_odd_refused, s_law_odd_refused_i1, e1, e2, e3, kD_0, c]

/-! ### k20: the questions -/
@[simp] theorem deal0 {a b st pl dd x y : Int} {l : List (Int × Int)} : idx (dealD a b l st pl dd x y) (.int 0) = some (kD (a, b)) := by unfold dealD; rw [o_idxt (by omega)]; rfl
@[simp] theorem deal1 {a b st pl dd x y : Int} {l : List (Int × Int)} : idx (dealD a b l st pl dd x y) (.int 1) = some (.lst (l.map kD)) := by unfold dealD; rw [o_idxt (by omega)]; rfl
@[simp] theorem deal2 {a b st pl dd x y : Int} {l : List (Int × Int)} : idx (dealD a b l st pl dd x y) (.int 2) = some (.int st) := by unfold dealD; rw [o_idxt (by omega)]; rfl
@[simp] theorem deal3 {a b st pl dd x y : Int} {l : List (Int × Int)} : idx (dealD a b l st pl dd x y) (.int 3) = some (.int pl) := by unfold dealD; rw [o_idxt (by omega)]; rfl
@[simp] theorem deal4 {a b st pl dd x y : Int} {l : List (Int × Int)} : idx (dealD a b l st pl dd x y) (.int 4) = some (.int dd) := by unfold dealD; rw [o_idxt (by omega)]; rfl
@[simp] theorem deal5 {a b st pl dd x y : Int} {l : List (Int × Int)} : idx (dealD a b l st pl dd x y) (.int 5) = some (kD (x, y)) := by unfold dealD; rw [o_idxt (by omega)]; rfl
theorem lists_ok {a b st pl dd x y : Int} {l : List (Int × Int)} (h0 : 1 ≤ a) (h1 : a < b) (h2 : b ≤ 1000) (hk : Kin 16 120 l) (s1 : 1 ≤ st) (s2 : st ≤ 400) (p1 : 1 ≤ pl) (p2 : pl ≤ st) :
    s_law_lists [.shr (lacD a b), .shr (cliD (plainP l)), .shr (dealD a b l st pl dd x y), .shr (.lst ((gpL a b (lonL l st) st).map .int)), .shr (.lst ((walkL a (gpL a b (lonL l st) st) pl).map .int))] = .ok (.shr (.bl true)) [.no, .no, .no, .no, .no] := by
  have e1 := good_places_ok h0 h1 h2 hk s1 s2
  have e2 := leg_ok h0 h1 h2 hk p1 p2 s2
  have gl := gp_len (a := a) (b := b) (W := lonL l st) (run := st)
  have wl := walk_len (a := a) (L := gpL a b (lonL l st) st) (least := pl)
  generalize walkL a (gpL a b (lonL l st) st) pl = V at *
  generalize gpL a b (lonL l st) st = G at *
  have q1 := same_ok (d := .lst (G.map .int)) (okS_intl (by omega))
  have q2 := same_ok (d := .lst (V.map .int)) (okS_intl (by omega))
  have a1 := app_ints (X := G) (x := st + 1) (by omega)
  have a2 := app_ints (X := V) (x := st + 1) (by omega)
  have ix1 : ixN (G.length + 1) 0 = some 0 := by rw [ixN_nn (by omega) (by omega)]; rfl
  have ix2 : ixN (V.length + 1) 0 = some 0 := by rw [ixN_nn (by omega) (by omega)]; rfl
  simp [s_law_lists, s_law_lists_i1, s_law_lists_i2, setOk_lo, e1, e2, q1, q2, a1, a2, lput, ix1, ix2, -List.map_append]
theorem sound_good {a b st : Int} {l : List (Int × Int)} (h0 : 1 ≤ a) (h1 : a < b) (hk : Kin 16 120 l) (s1 : 1 ≤ st) (h : ∀ k ∈ l, ¬ (b ≤ k.1) ∧ ¬ (k.2 ≤ waitK (b - a) k.1 k.1.toNat * a)) : enB a b (lonL l st) st = true := by
  unfold enB
  rw [decide_eq_true_eq]
  obtain ⟨u1, u2⟩ := upZ_spec (h := st) h0
  have e : upZ st a * b = upZ st a * a + upZ st a * (b - a) := by rw [Int.mul_sub]; omega
  rcases lon_mem (l := l) (s := st) with z | ⟨k, k1, k2, z⟩
  · have T0 : 0 ≤ upZ st a := Int.ediv_nonneg (by omega) (by omega)
    have := Int.mul_nonneg T0 (by omega : 0 ≤ b - a)
    omega
  · obtain ⟨h3, h4⟩ := h k k1
    have kb := hk k k1
    have w1 := wait_le (d := b - a) (w := k.1) (by omega) (by omega)
    obtain ⟨w2, _, _⟩ := waitK_ok (d := b - a) (w := k.1) (by omega) k.1.toNat
    generalize waitK (b - a) k.1 k.1.toNat = s at *
    have lt : s < upZ st a := by
      have : s * a < upZ st a * a := by omega
      exact Int.lt_of_mul_lt_mul_right this (by omega)
    have := Int.mul_le_mul_of_nonneg_right (a := s + 1) (b := upZ st a) (c := b - a) (by omega) (by omega)
    omega
theorem asked_ok {a b st pl dd x y : Int} {l : List (Int × Int)} (h0 : 1 ≤ a) (h1 : a < b) (h2 : b ≤ 12) (hk : Kin 16 120 l) (hl : l.length ≤ 4) (s1 : 1 ≤ st) (s2 : st ≤ 400) (p1 : 1 ≤ pl) (p2 : pl ≤ st) (d1 : 1 ≤ dd) (d2 : dd ≤ st) (od : Odd2 x y) :
    s_law_asked [.shr (dealD a b l st pl dd x y)] = .ok (.shr (.bl true)) [.no] := by
  have e1 := lac_init h0 h1 h2
  have e2 := cli_init hk (by omega)
  have e3 := law_longest_ok (l := l) (s := st)
  have W0 := lon_nn (l := l) (s := st)
  have W1 := lon_le (s := st) hk (by omega)
  have e4 := law_places_ok (W := lonL l st) h0 h1 (by omega) W0 (by omega) s1 s2
  have gl := gp_len (a := a) (b := b) (W := lonL l st) (run := st)
  have e5 := law_walk_ok (a := a) (place := pl) (L := gpL a b (lonL l st) st) (by omega)
  have e6 := lists_ok (dd := dd) (x := x) (y := y) h0 h1 (by omega) hk s1 s2 p1 p2
  have e7 := is_good_ok h0 h1 (by omega) hk d1 d2 s2
  have e8 := is_good_ok h0 h1 (by omega) hk s1 (Int.le_refl st) s2
  have e9 := odd_refused_ok (a := a) (b := b) (P := plainP l) od
  have dm : inD (.int (st - dd + 1)) (.lst ((gpL a b (lonL l st) st).map .int)) = some (.bl (enB a b (lonL l st) dd)) := by
    rw [inD_int]
    congr 2
    by_cases c : enB a b (lonL l st) dd = true
    · rw [c, decide_eq_true]
      exact mem_gp.mpr ⟨by omega, by omega, by rw [show st - (st - dd + 1) + 1 = dd by omega]; exact c⟩
    · rw [Bool.not_eq_true] at c
      rw [c, decide_eq_false]
      intro z
      have := (mem_gp.mp z).2.2
      rw [show st - (st - dd + 1) + 1 = dd by omega, c] at this
      cases this
  have q1 := same_ok (d := .bl (enB a b (lonL l st) dd)) (by simp)
  have q2 := same_ok (d := .bl true) (by simp)
  -- the closed row
  have cl : lonL l st < b → ∃ R : List Int, walkL a (gpL a b (lonL l st) st) pl = R ∧ s_law_closed [.shr (kD (a, b)), .shr (.int (lonL l st)), .shr (.int st), .shr (.int pl)] = .ok (.own (.lst (R.map .int))) [.no, .no, .no, .no] ∧ s_law_row [.shr (kD (a, b)), .shr (.lst (R.map .int)), .shr (.int (lonL l st)), .shr (.int st)] = .ok (.shr (.bl true)) [.no, .no, .no, .no] := fun hWb => by
    obtain ⟨u1, u2⟩ := upZ_spec (h := st - pl + 1) h0
    have c1 := law_closed_ok (W := lonL l st) h0 h1 (by omega) s2 p1 p2
    have u3 : (upZ (st - pl + 1) a - 1) * a = upZ (st - pl + 1) a * a - a := by rw [Int.sub_mul, Int.one_mul]
    have T0 : 1 ≤ upZ (st - pl + 1) a := by
      by_cases c : 1 ≤ upZ (st - pl + 1) a
      · exact c
      · have := Int.mul_nonpos_of_nonpos_of_nonneg (a := upZ (st - pl + 1) a) (b := a) (by omega) (by omega)
        omega
    have T1 : upZ (st - pl + 1) a ≤ 400 := by
      have := Int.mul_le_mul_of_nonneg_left (a := 1) (b := a) (c := upZ (st - pl + 1) a - 1) (by omega) (by omega)
      omega
    generalize upZ (st - pl + 1) a = T at *
    have hT : T * a - (T * a - (st - pl + 1)) = st - pl + 1 := by omega
    have w := walk_cls (W := lonL l st) (run := st) (place := pl) (T := T) (rest := T * a - (st - pl + 1)) h0 h1 W0 hWb hT (by omega) (by omega) p1 T.toNat 0 pl (by omega) (by omega) (cls_at h0 h1 W0 hWb hT (by omega) (by omega) (j := 0) (by omega) (by omega)).2.2.2.2.2 (by rw [Int.sub_zero]; omega)
    have w' : walkL a (gpL a b (lonL l st) st) pl = clsL a b (lonL l st) pl T (T * a - (st - pl + 1)) := by
      rw [w]
      unfold clsL
      exact List.map_congr_left fun i _ => by rw [Int.zero_add]
    exact ⟨_, w', c1, law_row_ok h0 h1 T0 T1 W0 hWb hT (by omega) (by omega)⟩
  -- the sound kinds
  have cs := fun (s5 s6 s7 s8 : Sl) => lcL_sel (tg := .nm 10) (vs := [10]) (test := s_law_asked_t5) (elt := vr 10) (env0 := [.shr (dealD a b l st pl dd x y), .shr (kD (a, b)), .shr (.int st), .own (lacD a b), .own (cliD (plainP l)), s5, s6, s7, s8, .no, .no]) kD kD (fun k => decide (b ≤ k.1) || decide (k.2 ≤ waitK (b - a) k.1 k.1.toNat * a)) l 0 (by omega) (fun k hkl => by
    have kb := hk k hkl
    have wt := law_wait_ok (w := k.1) h0 h1 (by omega) (by omega) (by omega)
    refine ⟨[.shr (dealD a b l st pl dd x y), .shr (kD (a, b)), .shr (.int st), .own (lacD a b), .own (cliD (plainP l)), s5, s6, s7, s8, .no, .shr (kD k)], [.shr (dealD a b l st pl dd x y), .shr (kD (a, b)), .shr (.int st), .own (lacD a b), .own (cliD (plainP l)), s5, s6, s7, s8, .no, .shr (kD k)], by simp [setOk_lo], ?_, by simp, by simp, fun _ => ⟨[.shr (dealD a b l st pl dd x y), .shr (kD (a, b)), .shr (.int st), .own (lacD a b), .own (cliD (plainP l)), s5, s6, s7, s8, .no, .shr (kD k)], by simp, by simp, by simp⟩⟩
    generalize waitK (b - a) k.1 k.1.toNat * a = Q at *
    by_cases c : b ≤ k.1
    · simp [s_law_asked_t5, kD_0, kD_1, c]
    · simp [s_law_asked_t5, kD_0, kD_1, c, wt])
  have sg := fun hh => sound_good (st := st) h0 h1 hk s1 hh
  have hF : (l.filter fun k => decide (b ≤ k.1) || decide (k.2 ≤ waitK (b - a) k.1 k.1.toNat * a)).length = 0 → enB a b (lonL l st) st = true := fun hz => by
    refine sg fun k hkl => ?_
    have hn := List.filter_eq_nil_iff.mp (List.eq_nil_of_length_eq_zero hz) k hkl
    simp only [Bool.or_eq_true, decide_eq_true_eq, not_or] at hn
    exact hn
  generalize (l.filter fun k => decide (b ≤ k.1) || decide (k.2 ≤ waitK (b - a) k.1 k.1.toNat * a)) = F at *
  have wl := walk_len (a := a) (L := gpL a b (lonL l st) st) (least := pl)
  generalize walkL a (gpL a b (lonL l st) st) pl = V at *
  generalize gpL a b (lonL l st) st = G at *
  have ns := neD_self (X := V)
  by_cases cb : lonL l st < b
  · obtain ⟨R, rfl, c1, c2⟩ := cl cb
    by_cases cF : F.length = 0
    · have eg := hF cF
      rw [eg] at e8
      simp [s_law_asked, s_law_asked_i1, s_law_asked_i2, s_law_asked_i3, s_law_asked_i4, s_law_asked_i6, setOk_lo, kD_0, kD_1, e1, e2, e3, e4, e5, e6, e7, e8, e9, dm, q1, q2, listL, cb, c1, c2, ns, cs, cF]
    · have cF' : ((F.length : Int) == 0) = false := beq_eq_false_iff_ne.mpr (by omega)
      simp [s_law_asked, s_law_asked_i1, s_law_asked_i2, s_law_asked_i3, s_law_asked_i4, s_law_asked_i6, setOk_lo, kD_0, kD_1, e1, e2, e3, e4, e5, e6, e7, e8, e9, dm, q1, q2, listL, cb, c1, c2, ns, cs, cF']
  · by_cases cF : F.length = 0
    · have eg := hF cF
      rw [eg] at e8
      simp [s_law_asked, s_law_asked_i1, s_law_asked_i2, s_law_asked_i4, s_law_asked_i6, setOk_lo, kD_0, kD_1, e1, e2, e3, e4, e5, e6, e7, e8, e9, dm, q1, q2, listL, cb, cs, cF]
    · have cF' : ((F.length : Int) == 0) = false := beq_eq_false_iff_ne.mpr (by omega)
      simp [s_law_asked, s_law_asked_i1, s_law_asked_i2, s_law_asked_i4, s_law_asked_i6, setOk_lo, kD_0, kD_1, e1, e2, e3, e4, e5, e6, e7, e8, e9, dm, q1, q2, listL, cb, cs, cF']
theorem plain (ns : List Int) (_hn : ns.length ≤ 63) : ∃ outs, s_law [.shr (.scr ns)] = .ok (.shr (.bl true)) outs := by
  have k0 := cell_ok (ns := ns) (k := 0) (by omega) (by omega)
  have k1 := cell_ok (ns := ns) (k := 1) (by omega) (by omega)
  obtain ⟨a, b, l, st, pl, dd, x, y, g1, g2, g3, g4, g5, g6, g7, g8, g9, g10, g11, g12, e1⟩ := deal_ok (cellV ns 0)
  obtain ⟨a', b', l', st', pl', dd', x', y', f1, f2, f3, f4, f5, f6, f7, f8, f9, f10, f11, f12, e2⟩ := deal_ok (cellV ns 1)
  have q1 := asked_ok g1 g2 g3 g4 g5 g6 g7 g8 g9 g10 g11 g12
  have q2 := asked_ok f1 f2 f3 f4 f5 f6 f7 f8 f9 f10 f11 f12
  exact ⟨[.no], by simp [s_law, k0, k1, e1, e2, q1, q2, setOk_lo]⟩

end Z20
end PL
open PySem PySem.W PySem.Calls PyProof.Rows
theorem PySem.Challenge.cw_damphouse_k20_good_places_and_legs_holds : PySem.Challenge.rw_damphouse_k20_good_places_and_legs.Holds := by
  w_on; o_law
  refine HandSHeadRun.head_any (r := OpenLaw.row PySem.Challenge.rw_damphouse_k20_good_places_and_legs) (q := view (OpenLaw.row PySem.Challenge.rw_damphouse_k20_good_places_and_legs).prog [48]) (H := PL.Z20.hk) (ob := PL.Z20.ob) (M := 5000) (loose := PL.Z20.loose) (d := HandSHeadRun.topDef (OpenLaw.row PySem.Challenge.rw_damphouse_k20_good_places_and_legs).prog 48) (kwd := []) PL.Z20.ob_eq
    (by kernel_rfl) (fun s => by kernel_rfl) PL.Z20.run (by kernel_rfl) (by kernel_rfl) (by kernel_rfl) (by rfl) (by first | assumption | decide +kernel) (by decide +kernel) ⟨rfl, rfl, rfl, rfl, rfl, by decide +kernel⟩ ?hw ?hc
  case hw => w_witness2
  case hc =>
    exact PL.walk_ofM (l := PySem.Challenge.rw_damphouse_k20_good_places_and_legs) (n := 63) (k := 8) (i := 34) (fa := PL.Z20.fa) (fn := PL.Z20.fn) (dl := PL.Z20.dt_law) (s := PL.Z20.s_law) rfl (by decide) (by kernel_rfl) ⟨rfl, by decide, by decide⟩ (fun _ _ y => y) (by kernel_rfl) (fun _ => rfl) rfl rfl rfl rfl
      (fun _ _ _ _ _ _ us hl => match us, hl with | [_], _ => rfl) (fun w K mg base Z => PL.Z20.k_law Z) PL.Z20.plain
