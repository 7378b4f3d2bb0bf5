import PyProof.Rows.All
import Wide.All
import OpenK.AllK
import Wide.FinOn
import HandS.ForMost
import HandS.ForExc
import HandS.Lambda
import HandS.CallSlots
import HandS.IsInst
import HandS.Flow
import KE.DataEq
import HandS.Style
import HandS.TupMul
import HandS.TupAny
import HandS.ExcIs
import HandS.WordsDict
import HandS.SortInts
import HandS.More
import HandS.Rev
import HandS.Zip
import KE.GoesMore
import HandS.Strs
import HandS.SetBool
import HandS.Conv
import KE.KIndexOf
import HandS.Nested
import HandS.ExcField
import HandS.ExcInit
import HandS.WordsExc
import KE.KExcSuper
import HandS.EndTab
import HandS.EndOwn
import PySem.Challenge.RW_tricklestore_k64_tables_of_changes
set_option Elab.async false
set_option linter.all false
set_option maxRecDepth 100000
set_option maxHeartbeats 4000000
/-! Za: values without addresses, cells, and how the layer's heap bears them. -/
namespace Zw
open PySem PySem.Spec PyProof.Rows L2

/-- a value by content; lists, dicts are cells -/
inductive D where
  | non | bl (b : Bool) | int (i : Int) | str (s : Str) | ty (n : String)
  | ref (i : Nat) | fn (k : Nat) | lam (k : Nat) | exc (c : Nat) (p : List D) | tup (ds : List D) | rol (ds : List D) | tux (ds : List D)

inductive Cell where
  | lst (xs : List D) | ro (xs : List D) | dct (kvs : List (Key × D))

abbrev AH := List Cell
abbrev DSt := List (Option D)
abbrev DK := D → AH → Prop
abbrev DX := Nat → List D → AH → Prop
abbrev DSp := List D → AH → DK → DX → Prop

/-- a lambda without captured names: its qualified name, parameters, body, scope -/
structure LamI where
  qual : Str
  params : Arguments
  body : Expr
  scope : Scope
/-- the function at a that it made, its code at c' -/
def LamO (L : LamI) (a c' : Addr) : HO := .ext fun h => ∃ (pm ctv : Value), h.get? a = some (PySem.W.kla_obj "<lambda>" L.qual L.params L.body L.scope [] pm c' ctv)
/-- what is fixed through a law's proof -/
structure GE where
  P : Program
  w : World
  K : PySem.W.Frag
  mg : Str → Option Value
  base : Heap
  /-- where the globals stand -/
  T : Nat → Addr
  /-- the code tables -/
  tabs : List (Addr × Str)
  /-- the attribute of an exception's class -/
  xn : Nat → Str
  /-- the lambdas of the text that are handed on -/
  lam : Nat → LamI

/-- an exception that was caught -/
def ExT (cls : Value) (d : Option Addr) (a : Addr) : HO := .ext fun h => ∃ (oe : Obj) (vs : Array Value), h.get? a = some oe ∧ Zc cls d oe ∧ oe.data = .fields vs

/-- a list that nothing writes -/
def SqI (K : PySem.W.Frag) (H : Hp) (a : Addr) (xs : List V) : Prop := (∃ o, H a = some (.frz o (.lst xs))) ∨
  ∃ (o : Obj) (its : Array Value) (n : Nat), K.lookup a = some o ∧ o.cls = .type "list" ∧ o.dict = none ∧ o.data = .seq its n ∧ its.size ≤ sizeLine ∧ Vals xs its.toList
theorem SqI.l {K : PySem.W.Frag} {H : Hp} {a : Addr} {xs : List V} (h : SqI K H a xs) : SqL K H a xs := h.elim (fun h => .inl (.inr h)) .inr
section
variable (G : GE)
mutual
def VR (ι : List Addr) (H : Hp) : D → V → Prop
  | .non, v => v = .non
  | .bl b, v => v = .bl b
  | .int i, v => v = .int i
  | .str s, v => v = .str s
  | .ty n, v => v = .ty n
  | .ref i, v => ∃ a, v = .ref a ∧ ι[i]? = some a
  | .fn k, v => v = .ref (G.T k)
  | .lam k, v => ∃ a c', v = .ref a ∧ H a = some (LamO (G.lam k) a c') ∧ H c' = some (LamX.CodeO c' (G.lam k).qual)
  | .exc c p, v => ∃ a d, v = .ref a ∧ H a = some (ExT (.ref (G.T c)) d a) ∧ ∃ vs, VRs ι H p vs ∧
      ((vs = [] ∧ d = none) ∨ ∃ dd x, vs = [x] ∧ d = some dd ∧ H dd = some (.xd [(G.xn c, x)]))
  | .tup ds, v => ∃ a vs, v = .ref a ∧ SqT G.K H a vs ∧ VRs ι H ds vs
  | .rol ds, v => ∃ a vs, v = .ref a ∧ SqI G.K H a vs ∧ VRs ι H ds vs
  | .tux ds, v => ∃ a vs o, v = .ref a ∧ H a = some (.frz o (.tup vs)) ∧ o.cls = .type "tuple" ∧ o.dict = none ∧ VRs ι H ds vs
def VRs (ι : List Addr) (H : Hp) : List D → List V → Prop
  | [], vs => vs = []
  | d :: ds, vs => ∃ v r, vs = v :: r ∧ VR ι H d v ∧ VRs ι H ds r
end
/-- a flying exception -/
def XR (ι : List Addr) (H : Hp) (c : Nat) (p : List D) (cls : Value) (d : Option Addr) : Prop :=
  cls = .ref (G.T c) ∧ ∃ vs, VRs G ι H p vs ∧ ((vs = [] ∧ d = none) ∨ ∃ dd x, vs = [x] ∧ d = some dd ∧ H dd = some (.xd [(G.xn c, x)]))

def KRs (ι : List Addr) (H : Hp) : List (Key × D) → List (Key × V) → Prop
  | [], vs => vs = []
  | (k, d) :: ds, vs => ∃ v r, vs = (k, v) :: r ∧ VR G ι H d v ∧ KRs ι H ds r

def CRep (ι : List Addr) (H : Hp) (c : Cell) (a : Addr) : Prop :=
  match c with
  | .lst xs => ∃ vs, H a = some (.lst vs) ∧ VRs G ι H xs vs
  | .ro xs => (∃ o u, H a = some (.frz o u)) ∧ ∃ vs, SqL G.K H a vs ∧ VRs G ι H xs vs
  | .dct kvs => ∃ ws, H a = some (.dK ws) ∧ KRs G ι H kvs ws

structure Rep (ι : List Addr) (A : AH) (H : Hp) : Prop where
  len : ι.length = A.length
  nd : ι.Nodup
  at_ : ∀ (i : Nat) (c : Cell), A[i]? = some c → ∃ a, ι[i]? = some a ∧ CRep G ι H c a
  tabs : LamX.Tabs G.tabs H

/-- a reading of the heap that some heap without sets bears: it tells of no set -/
def noSet (o : Obj) : Prop := match o.data with
  | .set .. => False
  | .freed => False
  | _ => True
def NotSet (φ : Heap → Prop) : Prop := ∃ h : Heap, φ h ∧ ∀ a o, h.get? a = some o → noSet o
/-- what never changes where it stands -/
def Imm : HO → Prop
  | .tup _ | .frz _ _ | .own _ | .xd _ | .met _ _ | .rng _ _ => True
  | .ext φ => NotSet φ
  | _ => False
theorem heap_of (o : Obj) (n : noSet o) (a : Addr) : ∃ h : Heap, h.get? a = some o ∧ ∀ b u, h.get? b = some u → noSet u := by
  refine ⟨⟨Array.replicate (a + 1) o, {}⟩, ?_, fun b u e => ?_⟩
  · obtain ⟨oc, od, oda, osl⟩ := o
    unfold Heap.get?
    have e : (Array.replicate (a + 1) (⟨oc, od, oda, osl⟩ : Obj))[a]? = some ⟨oc, od, oda, osl⟩ := by simp
    rw [e]
    cases oda <;> first | rfl | exact (show False from n).elim
  · unfold Heap.get? at e
    by_cases hb : b < a + 1
    · have e1 : (Array.replicate (a + 1) o)[b]? = some o := by simp [hb]
      obtain ⟨oc, od, oda, osl⟩ := o
      simp only [e1] at e
      cases oda <;> first | (cases e; exact n) | cases e
    · have e1 : (Array.replicate (a + 1) o)[b]? = none := Array.getElem?_eq_none (by rw [Array.size_replicate]; exact Nat.le_of_not_lt hb)
      simp only [e1] at e
      cases e
theorem imm_lam {L : LamI} {a c' : Addr} : Imm (LamO L a c') := by
  obtain ⟨h, e, k⟩ := heap_of (PySem.W.kla_obj "<lambda>" L.qual L.params L.body L.scope [] .none c' .none) True.intro a
  exact ⟨h, ⟨.none, .none, e⟩, k⟩
theorem imm_exc {cls : Value} {d : Option Addr} {a : Addr} : Imm (ExT cls d a) := by
  obtain ⟨h, e, k⟩ := heap_of { cls := cls, dict := d, data := .fields #[] } True.intro a
  exact ⟨h, ⟨_, #[], e, ⟨rfl, rfl⟩, rfl⟩, k⟩
theorem imm_code {c : Addr} {q : Str} : Imm (LamX.CodeO c q) := by
  obtain ⟨h, e, k⟩ := heap_of { cls := .none, dict := none, data := .fields #[.none, .str q 0] } True.intro c
  exact ⟨h, ⟨_, _, 0, e, rfl, rfl⟩, k⟩
def isTbl : HO → Prop
  | .tbl _ => True
  | _ => False

structure Stp (ι : List Addr) (H : Hp) (ι' : List Addr) (H' : Hp) : Prop where
  pre : ι <+: ι'
  new : ∀ a, a ∈ ι' → a ∈ ι ∨ ∀ o, H a = some o → isTbl o
  fr : ∀ a o, H a = some o → (Imm o ∨ (a ∉ ι ∧ ¬ isTbl o)) → H' a = some o
  there : ∀ a o, H a = some o → ¬ isTbl o → ∃ o', H' a = some o' ∧ ¬ isTbl o'

def SR (ι : List Addr) (H : Hp) (δ : DSt) (σ : L2.St) : Prop :=
  δ.length = σ.length ∧ ∀ (i : Nat) (d : D), δ[i]? = some (some d) → ∃ v, σ[i]? = some (some v) ∧ VR G ι H d v
end

section
variable {G : GE} {ι ι1 ι' : List Addr} {H H1 H' : Hp} {A A' : AH}

theorem Stp.refl : Stp ι H ι H := ⟨List.prefix_refl _, fun _ h => .inl h, fun _ _ h _ => h, fun _ o h t => ⟨o, h, t⟩⟩
theorem Stp.trans (s : Stp ι H ι1 H1) (t : Stp ι1 H1 ι' H') : Stp ι H ι' H' := by
  refine ⟨s.pre.trans t.pre, fun a h => ?_, fun a o h q => ?_, fun a o h n => ?_⟩
  · rcases t.new a h with h1 | h1
    · exact s.new a h1
    · right
      intro o e
      by_cases ho : isTbl o
      · exact ho
      · obtain ⟨o', e', n'⟩ := s.there a o e ho
        exact absurd (h1 o' e') n'
  · have h1 := s.fr a o h q
    refine t.fr a o h1 (q.imp id fun z => ⟨fun hm => ?_, z.2⟩)
    rcases s.new a hm with y | y
    · exact z.1 y
    · exact z.2 (y o h)
  · obtain ⟨o', e, n'⟩ := s.there a o h n
    exact t.there a o' e n'
/-- what values lean on -/
structure Mn (ι : List Addr) (H : Hp) (ι' : List Addr) (H' : Hp) : Prop where
  pre : ι <+: ι'
  imm : ∀ a o, H a = some o → Imm o → H' a = some o
theorem Stp.mn (s : Stp ι H ι' H') : Mn ι H ι' H' := ⟨s.pre, fun a o h i => s.fr a o h (.inl i)⟩
theorem Mn.ix (s : Mn ι H ι' H') {i : Nat} {a : Addr} (h : ι[i]? = some a) : ι'[i]? = some a := by
  obtain ⟨r, e⟩ := s.pre
  have hl : i < ι.length := (List.getElem?_eq_some_iff.mp h).1
  rw [← e, List.getElem?_append_left hl]; exact h
theorem Stp.ix (s : Stp ι H ι' H') {i : Nat} {a : Addr} (h : ι[i]? = some a) : ι'[i]? = some a := s.mn.ix h
theorem Mn.rdT (s : Mn ι H ι' H') {a : Addr} {vs : List V} (h : SqT G.K H a vs) : SqT G.K H' a vs := by
  rcases h with (h | ⟨o, h⟩) | h
  · exact .inl (.inl (s.imm _ _ h True.intro))
  · exact .inl (.inr ⟨o, s.imm _ _ h True.intro⟩)
  · exact .inr h
theorem Mn.rdI (s : Mn ι H ι' H') {a : Addr} {vs : List V} (h : SqI G.K H a vs) : SqI G.K H' a vs := by
  rcases h with ⟨o, h⟩ | h
  · exact .inl ⟨o, s.imm _ _ h True.intro⟩
  · exact .inr h
mutual
theorem VR.monoM (s : Mn ι H ι' H') : ∀ (d : D) (v : V), VR G ι H d v → VR G ι' H' d v
  | .non, _, h => h
  | .bl _, _, h => h
  | .int _, _, h => h
  | .str _, _, h => h
  | .ty _, _, h => h
  | .fn _, _, h => h
  | .ref i, v, h => by
    unfold VR at h ⊢
    obtain ⟨a, e, h⟩ := h
    exact ⟨a, e, s.ix h⟩
  | .lam k, v, h => by
    unfold VR at h ⊢
    obtain ⟨a, c', e, h, h'⟩ := h
    exact ⟨a, c', e, s.imm _ _ h imm_lam, s.imm _ _ h' imm_code⟩
  | .exc c p, v, h => by
    unfold VR at h ⊢
    obtain ⟨a, d, e, h, vs, hv, z⟩ := h
    refine ⟨a, d, e, s.imm _ _ h imm_exc, vs, VRs.monoM s p vs hv, z.imp id ?_⟩
    rintro ⟨dd, x, e1, e2, h2⟩
    exact ⟨dd, x, e1, e2, s.imm _ _ h2 True.intro⟩
  | .tup ds, v, h => by
    unfold VR at h ⊢
    obtain ⟨a, vs, e, h, hv⟩ := h
    exact ⟨a, vs, e, s.rdT h, VRs.monoM s ds vs hv⟩
  | .rol ds, v, h => by
    unfold VR at h ⊢
    obtain ⟨a, vs, e, h, hv⟩ := h
    exact ⟨a, vs, e, s.rdI h, VRs.monoM s ds vs hv⟩
  | .tux ds, v, h => by
    unfold VR at h ⊢
    obtain ⟨a, vs, o, e, h, h1, h2, hv⟩ := h
    exact ⟨a, vs, o, e, s.imm _ _ h True.intro, h1, h2, VRs.monoM s ds vs hv⟩
theorem VRs.monoM (s : Mn ι H ι' H') : ∀ (ds : List D) (vs : List V), VRs G ι H ds vs → VRs G ι' H' ds vs
  | [], _, h => by
    unfold VRs at h ⊢
    exact h
  | d :: ds, _, h => by
    unfold VRs at h ⊢
    obtain ⟨v, r, e, h1, h2⟩ := h
    exact ⟨v, r, e, VR.monoM s d v h1, VRs.monoM s ds r h2⟩
end
theorem VR.mono (s : Stp ι H ι' H') (d : D) (v : V) (h : VR G ι H d v) : VR G ι' H' d v := VR.monoM s.mn d v h
theorem VRs.mono (s : Stp ι H ι' H') (d : List D) (v : List V) (h : VRs G ι H d v) : VRs G ι' H' d v := VRs.monoM s.mn d v h
theorem KRs.monoM (s : Mn ι H ι' H') : ∀ (ds : List (Key × D)) (vs : List (Key × V)), KRs G ι H ds vs → KRs G ι' H' ds vs
  | [], _, h => h
  | (k, d) :: ds, _, h => by
    obtain ⟨v, r, e, h1, h2⟩ := h
    exact ⟨v, r, e, VR.monoM s d v h1, KRs.monoM s ds r h2⟩
theorem KRs.mono (s : Stp ι H ι' H') (d : List (Key × D)) (v : List (Key × V)) (h : KRs G ι H d v) : KRs G ι' H' d v := KRs.monoM s.mn d v h
theorem SR.mono {δ : DSt} {σ : L2.St} (s : Stp ι H ι' H') (h : SR G ι H δ σ) : SR G ι' H' δ σ := ⟨h.1, fun i d e => by
  obtain ⟨v, e1, e2⟩ := h.2 i d e
  exact ⟨v, e1, VR.mono s d v e2⟩⟩
theorem XR.mono {c : Nat} {p : List D} {cls : Value} {d : Option Addr} (s : Stp ι H ι' H') (h : XR G ι H c p cls d) : XR G ι' H' c p cls d := by
  obtain ⟨e, vs, hv, z⟩ := h
  refine ⟨e, vs, VRs.mono s p vs hv, z.imp id ?_⟩
  rintro ⟨dd, x, e1, e2, h2⟩
  exact ⟨dd, x, e1, e2, s.mn.imm _ _ h2 True.intro⟩

theorem VRs.len : ∀ {ds : List D} {vs : List V}, VRs G ι H ds vs → ds.length = vs.length
  | [], vs, h => by unfold VRs at h; subst h; rfl
  | d :: ds, vs, h => by
    unfold VRs at h
    obtain ⟨v, r, e, _, h2⟩ := h
    rw [e, List.length_cons, List.length_cons, VRs.len h2]
theorem VRs.get : ∀ {ds : List D} {vs : List V} {i : Nat} {d : D}, VRs G ι H ds vs → ds[i]? = some d → ∃ v, vs[i]? = some v ∧ VR G ι H d v
  | [], _, _, _, _, e => by simp at e
  | d :: ds, vs, i, d', h, e => by
    unfold VRs at h
    obtain ⟨v, r, e1, h1, h2⟩ := h
    subst e1
    cases i with
    | zero => simp at e; subst e; exact ⟨v, rfl, h1⟩
    | succ i => simp at e; obtain ⟨u, q1, q2⟩ := VRs.get (i := i) h2 e; exact ⟨u, by simpa using q1, q2⟩
theorem VRs.nil : VRs G ι H [] [] := by unfold VRs; rfl
theorem VRs.cons {d : D} {ds : List D} {v : V} {vs : List V} (h1 : VR G ι H d v) (h2 : VRs G ι H ds vs) : VRs G ι H (d :: ds) (v :: vs) := by unfold VRs; exact ⟨v, vs, rfl, h1, h2⟩
theorem VRs.append : ∀ {ds es : List D} {vs us : List V}, VRs G ι H ds vs → VRs G ι H es us → VRs G ι H (ds ++ es) (vs ++ us)
  | [], _, _, _, h, h' => by unfold VRs at h; subst h; exact h'
  | d :: ds, es, vs, us, h, h' => by
    unfold VRs at h
    obtain ⟨v, r, e1, h1, h2⟩ := h
    subst e1
    exact VRs.cons h1 (VRs.append h2 h')
theorem VRs.take : ∀ {ds : List D} {vs : List V} (n : Nat), VRs G ι H ds vs → VRs G ι H (ds.take n) (vs.take n)
  | _, _, 0, _ => VRs.nil
  | [], vs, n + 1, h => by unfold VRs at h; subst h; exact VRs.nil
  | d :: ds, vs, n + 1, h => by
    unfold VRs at h
    obtain ⟨v, r, e1, h1, h2⟩ := h
    subst e1
    exact VRs.cons h1 (VRs.take n h2)
theorem VRs.drop : ∀ {ds : List D} {vs : List V} (n : Nat), VRs G ι H ds vs → VRs G ι H (ds.drop n) (vs.drop n)
  | _, _, 0, h => h
  | [], vs, n + 1, h => by unfold VRs at h; subst h; exact VRs.nil
  | d :: ds, vs, n + 1, h => by
    unfold VRs at h
    obtain ⟨v, r, e1, h1, h2⟩ := h
    subst e1
    exact VRs.drop n h2
theorem VRs.rev {ds : List D} {vs : List V} (h : VRs G ι H ds vs) : VRs G ι H ds.reverse vs.reverse := by
  induction ds generalizing vs with
  | nil => unfold VRs at h; subst h; exact VRs.nil
  | cons d ds ih =>
    unfold VRs at h
    obtain ⟨v, r, e1, h1, h2⟩ := h
    subst e1
    rw [List.reverse_cons, List.reverse_cons]
    exact VRs.append (ih h2) (VRs.cons h1 VRs.nil)
theorem VRs.set : ∀ {ds : List D} {vs : List V} (i : Nat) {d : D} {v : V}, VRs G ι H ds vs → VR G ι H d v → VRs G ι H (ds.set i d) (vs.set i v)
  | [], vs, _, _, _, h, _ => by unfold VRs at h; subst h; exact VRs.nil
  | d :: ds, vs, i, d', v', h, h' => by
    unfold VRs at h
    obtain ⟨v, r, e1, h1, h2⟩ := h
    subst e1
    cases i with
    | zero => exact VRs.cons h' h2
    | succ i => exact VRs.cons h1 (VRs.set i h2 h')
theorem VRs.erase : ∀ {ds : List D} {vs : List V} (i : Nat), VRs G ι H ds vs → VRs G ι H (ds.eraseIdx i) (vs.eraseIdx i)
  | [], vs, _, h => by unfold VRs at h; subst h; exact VRs.nil
  | d :: ds, vs, i, h => by
    unfold VRs at h
    obtain ⟨v, r, e1, h1, h2⟩ := h
    subst e1
    cases i with
    | zero => exact h2
    | succ i => exact VRs.cons h1 (VRs.erase i h2)
theorem KRs.len : ∀ {ds : List (Key × D)} {vs : List (Key × V)}, KRs G ι H ds vs → ds.length = vs.length
  | [], vs, h => by have h : vs = [] := h; subst h; rfl
  | (k, d) :: ds, vs, h => by
    obtain ⟨v, r, e, _, h2⟩ := h
    rw [e, List.length_cons, List.length_cons, KRs.len h2]

/-! ### cells -/
theorem CRep.some {c : Cell} {a : Addr} (h : CRep G ι H c a) : ∃ o, H a = some o := by
  cases c with
  | lst xs => obtain ⟨vs, e, _⟩ := h; exact ⟨_, e⟩
  | ro xs => obtain ⟨⟨o, u, e⟩, _⟩ := h; exact ⟨_, e⟩
  | dct kvs => obtain ⟨vs, e, _⟩ := h; exact ⟨_, e⟩
/-- the cell at a stays, what values lean on stays -/
theorem CRep.stepM {c : Cell} {a : Addr} (h : CRep G ι H c a) (s : Mn ι H ι' H') (e : H' a = H a) : CRep G ι' H' c a := by
  cases c with
  | lst xs => obtain ⟨vs, q, r⟩ := h; exact ⟨vs, e.trans q, VRs.monoM s _ _ r⟩
  | ro xs =>
    obtain ⟨⟨o, u, q⟩, vs, r1, r2⟩ := h
    refine ⟨⟨o, u, e.trans q⟩, vs, ?_, VRs.monoM s _ _ r2⟩
    rcases r1 with (r1 | ⟨o, r1⟩) | r1
    · exact .inl (.inl (e.trans r1))
    · exact .inl (.inr ⟨o, e.trans r1⟩)
    · exact .inr r1
  | dct kvs => obtain ⟨vs, q, r⟩ := h; exact ⟨vs, e.trans q, KRs.monoM s _ _ r⟩
theorem CRep.step {c : Cell} {a : Addr} (h : CRep G ι H c a) (s : Stp ι H ι' H') (e : H' a = H a) : CRep G ι' H' c a := h.stepM s.mn e
theorem Rep.mem (R : Rep G ι A H) {a : Addr} (h : a ∈ ι) : ∃ o, H a = some o := by
  obtain ⟨i, hi, e⟩ := List.mem_iff_getElem.mp h
  have hA : i < A.length := by rw [← R.len]; exact hi
  obtain ⟨b, e1, c⟩ := R.at_ i A[i] (List.getElem?_eq_getElem hA)
  rw [List.getElem?_eq_getElem hi] at e1
  cases e1
  rw [← e]; exact c.some
theorem Rep.fresh (R : Rep G ι A H) {p : Addr} (h : H p = none) : p ∉ ι := fun hm => by
  obtain ⟨o, e⟩ := R.mem hm
  rw [h] at e; cases e
theorem Rep.inj (R : Rep G ι A H) {i j : Nat} {a : Addr} (h1 : ι[i]? = some a) (h2 : ι[j]? = some a) : i = j := by
  have hi := (List.getElem?_eq_some_iff.mp h1).1
  exact (List.getElem?_inj hi R.nd).mp (h1.trans h2.symm)

/-- something new that is no cell -/
theorem stp_new {p : Addr} {o : HO} (hp : H p = none) : Stp ι H ι (upd H p o) :=
  ⟨List.prefix_refl _, fun _ h => .inl h, fun a u e _ => by rw [upd_ne (ne_of_none e hp)]; exact e, fun a u e n => ⟨u, by rw [upd_ne (ne_of_none e hp)]; exact e, n⟩⟩
theorem tabs_new {T : List (Addr × Str)} {p : Addr} {o : HO} (hp : H p = none) (t : LamX.Tabs T H) : LamX.Tabs T (upd H p o) :=
  t.ext fun b u e => by rw [upd_ne (ne_of_none e hp)]; exact e
theorem Rep.new (R : Rep G ι A H) {p : Addr} {o : HO} (hp : H p = none) : Rep G ι A (upd H p o) :=
  ⟨R.len, R.nd, fun i c e => by
    obtain ⟨a, e1, h⟩ := R.at_ i c e
    obtain ⟨u, e2⟩ := h.some
    exact ⟨a, e1, h.step (stp_new hp) (upd_ne (ne_of_none e2 hp))⟩, tabs_new hp R.tabs⟩
/-- a new cell -/
theorem stp_cell {p : Addr} {o : HO} (hp : H p = none) : Stp ι H (ι ++ [p]) (upd H p o) :=
  ⟨List.prefix_append _ _, fun a h => by
    rcases List.mem_append.mp h with h | h
    · exact .inl h
    · rw [List.mem_singleton.mp h]; exact .inr (fun o e => by rw [hp] at e; cases e), fun a u e _ => by rw [upd_ne (ne_of_none e hp)]; exact e, fun a u e n => ⟨u, by rw [upd_ne (ne_of_none e hp)]; exact e, n⟩⟩
theorem Rep.cell (R : Rep G ι A H) {p : Addr} {o : HO} {c : Cell} (hp : H p = none) (hc : CRep G (ι ++ [p]) (upd H p o) c p) : Rep G (ι ++ [p]) (A ++ [c]) (upd H p o) := by
  refine ⟨by rw [List.length_append, List.length_append, R.len]; rfl, ?_, fun i c' e => ?_, tabs_new hp R.tabs⟩
  · refine List.nodup_append.mpr ⟨R.nd, List.nodup_cons.mpr ⟨by simp, List.nodup_nil⟩, fun a h1 b h2 => ?_⟩
    rw [List.mem_singleton.mp h2]
    rintro rfl
    exact R.fresh hp h1
  · by_cases hi : i < A.length
    · rw [List.getElem?_append_left hi] at e
      obtain ⟨a, e1, h⟩ := R.at_ i c' e
      obtain ⟨u, e2⟩ := h.some
      refine ⟨a, (stp_cell (o := o) hp).ix e1, h.step (stp_cell hp) (upd_ne (ne_of_none e2 hp))⟩
    · have hi2 : i = A.length := by
        have := (List.getElem?_eq_some_iff.mp e).1
        rw [List.length_append, List.length_singleton] at this
        omega
      subst hi2
      rw [List.getElem?_append_right (Nat.le_refl _), Nat.sub_self] at e
      cases e
      exact ⟨p, by rw [← R.len, List.getElem?_append_right (Nat.le_refl _), Nat.sub_self]; rfl, hc⟩
theorem Rep.at_new (R : Rep G ι A H) {p : Addr} : (ι ++ [p])[A.length]? = some p := by
  rw [← R.len, List.getElem?_append_right (Nat.le_refl _), Nat.sub_self]; rfl
/-- a cell changes -/
theorem stp_set {i : Nat} {a : Addr} {o u : HO} (hi : ι[i]? = some a) (ha : H a = some o) (ho : ¬ Imm o) (hu : ¬ isTbl u) : Stp ι H ι (upd H a u) :=
  ⟨List.prefix_refl _, fun _ h => .inl h, fun b v e q => by
    have nb : b ≠ a := by
      rintro rfl
      rw [ha] at e; cases e
      rcases q with q | q
      · exact ho q
      · exact q.1 (List.mem_of_getElem? hi)
    rw [upd_ne nb]; exact e, fun b v e n => by
      by_cases hb : b = a
      · subst hb; exact ⟨u, upd_same, hu⟩
      · exact ⟨v, by rw [upd_ne hb]; exact e, n⟩⟩
theorem tabs_set {T : List (Addr × Str)} {a : Addr} {o u : HO} (ha : H a = some o) (ho : ¬ Imm o) (ht : ¬ isTbl o) (t : LamX.Tabs T H) : LamX.Tabs T (upd H a u) := fun p hp => by
  obtain ⟨ps, h1, h2, h3⟩ := t p hp
  refine ⟨ps, ?_, h2, fun pos cv hc => ?_⟩
  · rw [upd_ne]; exact h1
    rintro rfl
    rw [h1] at ha; cases ha; exact ht True.intro
  · obtain ⟨c, e1, e2⟩ := h3 pos cv hc
    refine ⟨c, e1, ?_⟩
    rw [upd_ne]; exact e2
    rintro rfl
    rw [e2] at ha; cases ha; exact ho imm_code
theorem Rep.set (R : Rep G ι A H) {i : Nat} {a : Addr} {o u : HO} {c : Cell} (hi : ι[i]? = some a) (ha : H a = some o) (ho : ¬ Imm o) (ht : ¬ isTbl o) (hu : ¬ isTbl u) (hc : CRep G ι (upd H a u) c a) : Rep G ι (A.set i c) (upd H a u) := by
  refine ⟨by rw [List.length_set]; exact R.len, R.nd, fun j c' e => ?_, tabs_set ha ho ht R.tabs⟩
  by_cases hj : j = i
  · subst hj
    have hl : j < A.length := by
      have := (List.getElem?_eq_some_iff.mp e).1
      rwa [List.length_set] at this
    rw [List.getElem?_set_self hl] at e
    cases e
    exact ⟨a, hi, hc⟩
  · rw [List.getElem?_set_ne (Ne.symm hj)] at e
    obtain ⟨b, e1, h⟩ := R.at_ j c' e
    have nb : b ≠ a := by
      rintro rfl
      exact hj (R.inj e1 hi)
    exact ⟨b, e1, h.step (stp_set hi ha ho hu) (upd_ne nb)⟩
/-- an address apart is written -/
theorem Rep.apart (R : Rep G ι A H) {p : Addr} {o u : HO} (hp : H p = some o) (ho : ¬ Imm o) (ht : ¬ isTbl o) (hn : p ∉ ι) : Rep G ι A (upd H p u) ∧ Mn ι H ι (upd H p u) := by
  have mn : Mn ι H ι (upd H p u) := ⟨List.prefix_refl _, fun b v e i => by
    rw [upd_ne]; exact e
    rintro rfl
    rw [hp] at e; cases e; exact ho i⟩
  refine ⟨⟨R.len, R.nd, fun i c e => ?_, tabs_set hp ho ht R.tabs⟩, mn⟩
  obtain ⟨a, e1, h⟩ := R.at_ i c e
  refine ⟨a, e1, h.stepM mn (upd_ne ?_)⟩
  rintro rfl
  exact hn (List.mem_of_getElem? e1)
/-- a tracked list becomes a cell -/
theorem Rep.adopt (R : Rep G ι A H) {p : Addr} {vs : List V} {ds : List D} (hp : H p = some (.lst vs)) (hn : p ∉ ι) (r : VRs G ι H ds vs) : Rep G (ι ++ [p]) (A ++ [.lst ds]) H := by
  have mn : Mn ι H (ι ++ [p]) H := ⟨List.prefix_append _ _, fun b v e i => e⟩
  refine ⟨by rw [List.length_append, List.length_append, R.len]; rfl, ?_, fun i c' e => ?_, R.tabs⟩
  · refine List.nodup_append.mpr ⟨R.nd, List.nodup_cons.mpr ⟨by simp, List.nodup_nil⟩, fun a h1 b h2 => ?_⟩
    rw [List.mem_singleton.mp h2]
    rintro rfl
    exact hn h1
  · by_cases hi : i < A.length
    · rw [List.getElem?_append_left hi] at e
      obtain ⟨a, e1, h⟩ := R.at_ i c' e
      exact ⟨a, mn.ix e1, h.stepM mn rfl⟩
    · have hi2 : i = A.length := by
        have := (List.getElem?_eq_some_iff.mp e).1
        rw [List.length_append, List.length_singleton] at this
        omega
      subst hi2
      rw [List.getElem?_append_right (Nat.le_refl _), Nat.sub_self] at e
      cases e
      exact ⟨p, by rw [← R.len, List.getElem?_append_right (Nat.le_refl _), Nat.sub_self]; rfl, vs, hp, VRs.monoM mn _ _ r⟩
end
end Zw
set_option Elab.async false
set_option linter.all false
set_option maxRecDepth 100000
set_option maxHeartbeats 4000000
/-! Zb: small trees of the program's text, what must hold so that they give what is wanted. -/
namespace Zw
open PySem PySem.Spec PyProof.Rows L2

inductive BI where
  | len | abs | int | min2 | max2 | list | tuple | sum | all | any | min1 | max1 | sorted | bool | dict
inductive OP where
  | add | sub | mul | fdiv | mod | pow
inductive CO where
  | eq | ne | lt | le | gt | ge | is | isnot | inn | notin
inductive ME where
  | append | pop0 | pop1 | reverse | extend | get1 | get2
/-- a class that isinstance asks for -/
inductive TyT where
  | b (n : String) | c (k : Nat)
  deriving DecidableEq

mutual
inductive E where
  | var (i : Nat) | glob (k : Nat) | int (i : Int) | bl (b : Bool) | non | str (s : Str)
  | tup (es : Es) | lst (es : Es) | disp (ks : List Key) (es : Es)
  | bin (o : OP) (a b : E) | neg (a : E) | cmp (o : CO) (a b : E) | chain (o o' : CO) (a b c : E)
  | not (a : E) | and (a b : E) | or (a b : E) | ifx (c a b : E)
  | idx (a b : E) | sl (a : E) (lo hi : Eo)
  | call (k : Nat) (es : Es) | callk (k m : Nat) (ks : List Str) (perm : List Nat) (es kw : Es)
  | callv (ks : List Nat) (f : E) (es : Es)
  | bi (b : BI) (es : Es) | isi (ex : List Nat) (a : E) (t : TyT) | isis (a : E) (ts : List String)
  | meth (m : ME) (o : E) (es : Es)
  | comp (it : Ei) (g : Nat) (own : List Nat) (c : Eo) (e : E)
  | lam (k : Nat) | caught (e : E) | xat (cs : List Nat) (n : Str) (e : E)
  | sset (it : Ei) (g : Nat) (own : List Nat) (c : Eo) (e : E) | lrg1 (e : E) | lrg2 (a b : E) | gtu (k : Nat) (ss : List Str) | ixo (t : Bool) (o y : E) | isx (e : E) | tpx (e : E)
inductive Es where
  | nil | cons (e : E) (r : Es)
inductive Eo where
  | no | yes (e : E)
inductive Ei where
  | seq (e : E) | rng1 (e : E) | rng2 (a b : E) | rev (e : E) | enm (e : E)
end

/-- a list's place -/
def cellL (A : AH) (i : Nat) : Option (List D) := match A[i]? with
  | some (.lst xs) => some xs
  | some (.ro xs) => some xs
  | _ => none
def cellW (A : AH) (i : Nat) : Option (List D) := match A[i]? with
  | some (.lst xs) => some xs
  | _ => none
def cellD (A : AH) (i : Nat) : Option (List (Key × D)) := match A[i]? with
  | some (.dct xs) => some xs
  | _ => none
/-- the items of a list or tuple -/
def itemsD (A : AH) : D → Option (List D)
  | .tup ds => some ds
  | .rol ds => some ds
  | .tux ds => some ds
  | .ref i => cellL A i
  | _ => none
def LIM : Nat := 1000000
def getS (δ : DSt) (i : Nat) : Option D := match δ[i]? with
  | some (some d) => some d
  | _ => none
def opt {α : Type} (o : Option α) (k : α → Prop) : Prop := match o with
  | some a => k a
  | none => False
def keyD : D → Option Key
  | .int i => some (.inl i)
  | .str s => some (.inr s)
  | _ => none
def valD (kvs : List (Key × D)) (k : Key) : Option D := (kvs.find? fun kv => decide (kv.1 = k)).map (·.2)
def putD (kvs : List (Key × D)) (k : Key) (v : D) : List (Key × D) :=
  if (kvs.any fun kv => decide (kv.1 = k)) = true then kvs.map (fun kv => if kv.1 = k then (kv.1, v) else kv) else kvs ++ [(k, v)]

/-- as data; fuel for what lies in lists -/
def toP (A : AH) : Nat → D → Option PyData
  | 0, _ => none
  | n + 1, d => match d with
    | .non => some .none
    | .bl b => some (.bool b)
    | .int i => some (.int i)
    | .str s => some (.str s)
    | .tup ds => (ds.mapM (toP A n)).map .tuple
    | .tux ds => (ds.mapM (toP A n)).map .tuple
    | .ref i => (cellL A i).bind fun xs => (xs.mapM (toP A n)).map .list
    | _ => none
/-- two lists of unlike lengths -/
def lenNe (A : AH) : D → D → Bool
  | .ref i, .ref j => match cellL A i, cellL A j with
    | some xs, some ys => xs.length != ys.length
    | _, _ => false
  | _, _ => false
/-- == -/
def eqP (A : AH) (x y : D) (k : Bool → Prop) : Prop := if lenNe A x y = true then k false else opt (toP A 12 x) fun p => opt (toP A 12 y) fun q => k (PyData.eqv p q)
def CDivW (_ j : Int) : Prop := j ≠ 0 ∧ j.natAbs < 2 ^ 64
def binP (o : OP) (x y : D) (A : AH) (Q : DK) : Prop := match o, x, y with
  | .add, .int i, .int j => Q (.int (i + j)) A
  | .sub, .int i, .int j => Q (.int (i - j)) A
  | .mul, .int i, .int j => CMul i j ∧ Q (.int (i * j)) A
  | .mul, .ref i, .int j => opt (cellW A i) fun xs => (-(2 ^ 62) ≤ j ∧ j < 2 ^ 62 ∧ xs.length * j.toNat ≤ LIM) ∧ Q (.ref A.length) (A ++ [.lst (List.replicate j.toNat xs).flatten])
  | .mul, .tup xs, .int j => (xs ≠ [] ∧ 1 ≤ j ∧ j ≤ 1000 ∧ xs.length ≤ 1000) ∧ Q (.tup (List.replicate j.toNat xs).flatten) A
  | .fdiv, .int i, .int j => CDivW i j ∧ Q (.int (i.fdiv j)) A
  | .mod, .int i, .int j => j ≠ 0 ∧ Q (.int (i.fmod j)) A
  | .pow, .int i, .int j => CPow i j ∧ Q (.int (i ^ j.toNat)) A
  | .add, .ref i, .ref j => opt (cellW A i) fun xs => opt (cellW A j) fun ys => xs.length + ys.length ≤ LIM ∧ Q (.ref A.length) (A ++ [.lst (xs ++ ys)])
  | .add, .tup xs, .tup ys => xs.length + ys.length ≤ LIM ∧ Q (.tup (xs ++ ys)) A
  | _, _, _ => False
def truP (A : AH) (x : D) (k : Bool → Prop) : Prop := match x with
  | .bl b => k b
  | .int i => k (i != 0)
  | .non => k false
  | .tup ds => k (!ds.isEmpty)
  | .ref i => match A[i]? with
    | some (.lst xs) => k (!xs.isEmpty)
    | some (.dct xs) => k (!xs.isEmpty)
    | _ => False
  | _ => False
def isNon : D → Bool
  | .non => true
  | _ => false
def isBlD (b : Bool) : D → Bool
  | .bl a => decide (a = b)
  | _ => false
def cmpP (o : CO) (x y : D) (A : AH) (k : Bool → Prop) : Prop := match o with
  | .eq => eqP A x y k
  | .ne => eqP A x y fun b => k (!b)
  | .lt => match x, y with
    | .int i, .int j => k (decide (i < j))
    | _, _ => False
  | .le => match x, y with
    | .int i, .int j => k (decide (i ≤ j))
    | _, _ => False
  | .gt => match x, y with
    | .int i, .int j => k (decide (j < i))
    | _, _ => False
  | .ge => match x, y with
    | .int i, .int j => k (decide (j ≤ i))
    | _, _ => False
  | .is => match y with
    | .non => k (isNon x)
    | .bl b => k (isBlD b x)
    | _ => False
  | .isnot => match y with
    | .non => k (!(isNon x))
    | .bl b => k (!(isBlD b x))
    | _ => False
  | .inn => match y with
    | .ref i => match A[i]? with
      | some (.dct kvs) => opt (keyD x) fun key => k (valD kvs key).isSome
      | _ => opt (itemsD A y) fun xs => opt (toP A 12 x) fun p => opt (xs.mapM (toP A 12)) fun ps => k (ps.any fun q => PyData.eqv q p)
    | _ => opt (itemsD A y) fun xs => opt (toP A 12 x) fun p => opt (xs.mapM (toP A 12)) fun ps => k (ps.any fun q => PyData.eqv q p)
  | .notin => match y with
    | .ref i => match A[i]? with
      | some (.dct kvs) => opt (keyD x) fun key => k (!(valD kvs key).isSome)
      | _ => opt (itemsD A y) fun xs => opt (toP A 12 x) fun p => opt (xs.mapM (toP A 12)) fun ps => k (!(ps.any fun q => PyData.eqv q p))
    | _ => opt (itemsD A y) fun xs => opt (toP A 12 x) fun p => opt (xs.mapM (toP A 12)) fun ps => k (!(ps.any fun q => PyData.eqv q p))
def idxP (x y : D) (A : AH) (Q : DK) : Prop := match x, y with
  | .tup ds, .int j => opt (atI ds j) fun d => Q d A
  | .rol ds, .int j => opt (atI ds j) fun d => Q d A
  | .ref i, _ => match A[i]? with
    | some (.lst xs) => match y with
      | .int j => opt (atI xs j) fun d => Q d A
      | _ => False
    | some (.ro xs) => match y with
      | .int j => opt (atI xs j) fun d => Q d A
      | _ => False
    | some (.dct kvs) => opt (keyD y) fun k => opt (valD kvs k) fun d => Q d A
    | _ => False
  | _, _ => False
def cutD (xs : List D) (lo hi : Option Int) : List D := (xs.drop (HT.sIx xs.length 0 lo)).take (HT.sIx xs.length xs.length hi - HT.sIx xs.length 0 lo)
def slP (x : D) (lo hi : Option Int) (A : AH) (Q : DK) : Prop := match x with
  | .tup ds => ¬ (HT.sIx ds.length 0 lo = 0 ∧ HT.sIx ds.length ds.length hi = ds.length) ∧ Q (.tup (cutD ds lo hi)) A
  | .ref i => opt (cellL A i) fun xs => Q (.ref A.length) (A ++ [.lst (cutD xs lo hi)])
  | .rol xs => Q (.ref A.length) (A ++ [.lst (cutD xs lo hi)])
  | _ => False
def intsD : List D → Option (List Int)
  | [] => some []
  | .int i :: r => (intsD r).map (i :: ·)
  | _ => none
def bisD : List D → Option (List Bool)
  | [] => some []
  | .bl i :: r => (bisD r).map (i :: ·)
  | _ => none
def pairsD : List D → Option (List (Key × D))
  | [] => some []
  | .tup [k, v] :: r => match keyD k with
    | some key => (pairsD r).map ((key, v) :: ·)
    | none => none
  | _ => none
def keysI : List (Key × D) → Option (List Int)
  | [] => some []
  | (.inl i, _) :: r => (keysI r).map (i :: ·)
  | _ => none
def tyD (A : AH) : D → Option TyT
  | .non => some (.b "NoneType")
  | .bl _ => some (.b "bool")
  | .int _ => some (.b "int")
  | .str _ => some (.b "str")
  | .tup _ => some (.b "tuple")
  | .exc c _ => some (.c c)
  | .ref i => match A[i]? with
    | some (.lst _) => some (.b "list")
    | some (.dct _) => some (.b "dict")
    | _ => none
  | _ => none
/-- is the first class below the second one; own classes: told by S -/
def subT (S : Nat → Nat → Bool) : TyT → TyT → Bool
  | .b x, .b y => x == y || (x == "bool" && y == "int")
  | .c j, .c k => S j k
  | .b _, .c _ => false
  | .c _, .b _ => false
def okT (ex : List Nat) : TyT → Prop
  | .c k => k ∈ ex
  | .b _ => True
def biP (b : BI) (vs : List D) (A : AH) (Q : DK) : Prop := match b, vs with
  | .len, [x] => match x with
    | .tup ds => Q (.int ds.length) A
    | .rol ds => Q (.int ds.length) A
    | .ref i => match A[i]? with
      | some (.lst xs) => Q (.int xs.length) A
      | some (.ro xs) => Q (.int xs.length) A
      | some (.dct xs) => Q (.int xs.length) A
      | _ => False
    | _ => False
  | .abs, [.int i] => Q (.int (if i < 0 then -i else i)) A
  | .int, [.int i] => Q (.int i) A
  | .int, [.bl b] => Q (.int (if b then 1 else 0)) A
  | .min2, [.int i, .int j] => Q (.int (if j < i then j else i)) A
  | .max2, [.int i, .int j] => Q (.int (if j > i then j else i)) A
  | .list, [x] => opt (itemsD A x) fun xs => Q (.ref A.length) (A ++ [.lst xs])
  | .tuple, [.tup ds] => Q (.tup ds) A
  | .tuple, [.ref i] => opt (cellL A i) fun xs => Q (.tup xs) A
  | .all, [.ref i] => opt (cellL A i) fun xs => opt (bisD xs) fun bs => Q (.bl (bs.all id)) A
  | .any, [.ref i] => opt (cellL A i) fun xs => opt (bisD xs) fun bs => Q (.bl (bs.any id)) A
  | .dict, [.ref i] => opt (cellL A i) fun xs => opt (pairsD xs) fun kvs => Q (.ref A.length) (A ++ [.dct (kvs.foldl (fun acc kv => putD acc kv.1 kv.2) [])])
  | .sum, [.ref i] => opt (cellL A i) fun xs => opt (intsD xs) fun ns => Q (.int ns.sum) A
  | .sum, [.tup xs] => opt (intsD xs) fun ns => Q (.int ns.sum) A
  | .min1, [.ref i] => opt (cellL A i) fun xs => opt (intsD xs) fun ns => 0 < ns.length ∧ ∀ m, m ∈ ns → (∀ y, y ∈ ns → m ≤ y) → Q (.int m) A
  | .max1, [.ref i] => opt (cellL A i) fun xs => opt (intsD xs) fun ns => 0 < ns.length ∧ ∀ m, m ∈ ns → (∀ y, y ∈ ns → y ≤ m) → Q (.int m) A
  | .sorted, [.ref i] => match A[i]? with
    | some (.lst xs) => opt (intsD xs) fun ns => ∀ ns' : List Int, ns'.Perm ns → ns'.Pairwise (· ≤ ·) → Q (.ref A.length) (A ++ [.lst (ns'.map .int)])
    | some (.dct kvs) => opt (keysI kvs) fun ns => ns.length < 64 ∧ ∀ ns' : List Int, ns'.Perm ns → ns'.Pairwise (· ≤ ·) → Q (.ref A.length) (A ++ [.lst (ns'.map .int)])
    | _ => False
  | _, _ => False
def methP (m : ME) (x : D) (vs : List D) (A : AH) (Q : DK) : Prop := match m, x, vs with
  | .append, .ref i, [y] => opt (cellW A i) fun xs => xs.length < LIM ∧ Q .non (A.set i (.lst (xs ++ [y])))
  | .pop0, .ref i, [] => opt (cellW A i) fun xs => opt xs[xs.length - 1]? fun y => Q y (A.set i (.lst xs.dropLast))
  | .pop1, .ref i, [.int j] => opt (cellW A i) fun xs => (-(2 ^ 63) ≤ j ∧ j < 2 ^ 63) ∧ opt (seqIndex? j xs.length) fun k => opt xs[k]? fun y => Q y (A.set i (.lst (xs.eraseIdx k)))
  | .reverse, .ref i, [] => opt (cellW A i) fun xs => Q .non (A.set i (.lst xs.reverse))
  | .extend, .ref i, [.ref j] => opt (cellW A i) fun xs => opt (cellW A j) fun ys => xs.length + ys.length ≤ LIM ∧ Q .non (A.set i (.lst (xs ++ ys)))
  | _, _, _ => False

/-- None or an int -/
def scal : D → Option (Option Int)
  | .non => some none
  | .int i => some (some i)
  | _ => none
def ixRt : D → Prop
  | .tux _ => True
  | _ => False
def ixRl (A : AH) : D → Prop
  | .ref i => opt (cellW A i) fun _ => True
  | _ => False
/-- whose index is asked: a tuple, or a list that may be written -/
def ixR (t : Bool) (x : D) (A : AH) : Prop := if t = true then ixRt x else ixRl A x
/-- the first place of an equal one -/
def ixP (x y : D) (A : AH) (Q : DK) : Prop := opt (itemsD A x) fun xs => opt (xs.mapM scal) fun ks => opt (scal y) fun k => (k ∈ ks ∧ ks.length ≤ LIM) ∧ Q (.int (ks.idxOf k : Nat)) A
/-- whose methods are called: a list -/
def recvP (x : D) (A : AH) : Prop := match x with
  | .ref i => opt (cellW A i) fun _ => True
  | _ => False

section
variable (F : Nat → DSp) (S : Nat → Nat → Bool)
/-- the items, what must stand at each turn -/
def itP (n : D) (A : AH) (k : List D → (AH → Prop) → Prop) : Prop := match n with
  | .tup ds => k ds fun _ => True
  | .rol ds => k ds fun _ => True
  | .tux ds => k ds fun _ => True
  | .ref i => opt (cellL A i) fun xs => k xs fun A' => cellL A' i = some xs
  | _ => False
/-- lists alone -/
def itL (n : D) (A : AH) (k : List D → (AH → Prop) → Prop) : Prop := match n with
  | .rol ds => k ds fun _ => True
  | .ref i => opt (cellL A i) fun xs => k xs fun A' => cellL A' i = some xs
  | _ => False
def enmD (n : Nat) : List D → List D
  | [] => []
  | x :: xs => .tup [.int n, x] :: enmD (n + 1) xs
def rngD (lo : Int) (n : Nat) : List D := (List.range n).map fun (i : Nat) => D.int (lo + (i : Int))
def wipeD (δ : DSt) : List Nat → DSt
  | [] => δ
  | v :: vs => (wipeD δ vs).set v none
/-- a comprehension's turns -/
def compP (gd : AH → Prop) (g : Nat) (δw : DSt) (c : DSt → AH → (Bool → AH → Prop) → Prop) (e : DSt → AH → DK → Prop) (Q : DK) : List D → List D → AH → Prop
  | [], acc, A => gd A ∧ Q (.ref A.length) (A ++ [.lst acc])
  | x :: xs, acc, A => gd A ∧ c (δw.set g (some x)) A fun b A1 => if b = true then e (δw.set g (some x)) A1 fun y A2 => acc.length < LIM ∧ compP gd g δw c e Q xs (acc ++ [y]) A2 else compP gd g δw c e Q xs acc A1

/-- a set of ints, sorted: its turns -/
def setP (gd : AH → Prop) (g : Nat) (δw : DSt) (c : DSt → AH → (Bool → AH → Prop) → Prop) (e : DSt → AH → DK → Prop) (Q : DK) : List D → List Int → AH → Prop
  | [], acc, A => gd A ∧ ∀ ns : List Int, ns.Pairwise (· < ·) → (∀ k, k ∈ ns ↔ k ∈ acc) → Q (.ref A.length) (A ++ [.lst (ns.map .int)])
  | x :: xs, acc, A => gd A ∧ c (δw.set g (some x)) A fun b A1 => if b = true then e (δw.set g (some x)) A1 fun y A2 => (match y with | .int k => acc.length < 60 ∧ setP gd g δw c e Q xs (acc ++ [k]) A2 | _ => False) else setP gd g δw c e Q xs acc A1

abbrev WE := DSt → AH → DK → DX → Prop
abbrev WT := DSt → AH → (Bool → AH → Prop) → DX → Prop
/-- an expression as a test: by its value's truth -/
@[simp] def asT (f : WE) : WT := fun δ A Q X => f δ A (fun x A1 => truP A1 x fun k => Q k A1) X
abbrev both (f : WE) : WE × WT := (f, asT f)
mutual
@[simp] def wp : E → WE × WT
  | .var i => both fun δ A Q _ => opt (getS δ i) fun d => Q d A
  | .glob k => both fun _ A Q _ => Q (.fn k) A
  | .int i => both fun _ A Q _ => Q (.int i) A
  | .bl b => both fun _ A Q _ => Q (.bl b) A
  | .non => both fun _ A Q _ => Q .non A
  | .str s => both fun _ A Q _ => Q (.str s) A
  | .tup es => both fun δ A Q X => wpEs es δ A (fun ds A1 => ds.length ≤ LIM ∧ Q (.tup ds) A1) X
  | .lst es => both fun δ A Q X => wpEs es δ A (fun ds A1 => ds.length ≤ LIM ∧ Q (.ref A1.length) (A1 ++ [.lst ds])) X
  | .disp ks es => both fun δ A Q X => wpEs es δ A (fun ds A1 => ks.length ≤ 15 ∧ ds.length = ks.length ∧ Q (.ref A1.length) (A1 ++ [.dct ((ks.zip ds).foldl (fun acc kv => putD acc kv.1 kv.2) [])])) X
  | .bin o a b => both fun δ A Q X => (wp a).1 δ A (fun x A1 => (wp b).1 δ A1 (fun y A2 => binP o x y A2 Q) X) X
  | .neg a => both fun δ A Q X => (wp a).1 δ A (fun x A1 => match x with | .int i => Q (.int (-i)) A1 | _ => False) X
  | .cmp o a b => (fun δ A Q X => (wp a).1 δ A (fun x A1 => (wp b).1 δ A1 (fun y A2 => cmpP o x y A2 fun k => Q (.bl k) A2) X) X,
      fun δ A Q X => (wp a).1 δ A (fun x A1 => (wp b).1 δ A1 (fun y A2 => cmpP o x y A2 fun k => Q k A2) X) X)
  | .chain o o' a b c => (fun δ A Q X => (wp a).1 δ A (fun x A1 => (wp b).1 δ A1 (fun y A2 => cmpP o x y A2 fun k => if k = true then (wp c).1 δ A2 (fun z A3 => cmpP o' y z A3 fun k' => Q (.bl k') A3) X else Q (.bl false) A2) X) X,
      fun δ A Q X => (wp a).1 δ A (fun x A1 => (wp b).1 δ A1 (fun y A2 => cmpP o x y A2 fun k => if k = true then (wp c).1 δ A2 (fun z A3 => cmpP o' y z A3 fun k' => Q k' A3) X else Q false A2) X) X)
  | .not a => (fun δ A Q X => (wp a).1 δ A (fun x A1 => truP A1 x fun k => Q (.bl (!k)) A1) X, fun δ A Q X => (wp a).2 δ A (fun k A1 => Q (!k) A1) X)
  | .and a b => (fun δ A Q X => (wp a).1 δ A (fun x A1 => truP A1 x fun k => if k = true then (wp b).1 δ A1 Q X else Q x A1) X,
      fun δ A Q X => (wp a).2 δ A (fun k A1 => if k = true then (wp b).2 δ A1 Q X else Q false A1) X)
  | .or a b => (fun δ A Q X => (wp a).1 δ A (fun x A1 => truP A1 x fun k => if k = true then Q x A1 else (wp b).1 δ A1 Q X) X,
      fun δ A Q X => (wp a).2 δ A (fun k A1 => if k = true then Q true A1 else (wp b).2 δ A1 Q X) X)
  | .ifx c a b => (fun δ A Q X => (wp c).2 δ A (fun k A1 => if k = true then (wp a).1 δ A1 Q X else (wp b).1 δ A1 Q X) X,
      fun δ A Q X => (wp c).2 δ A (fun k A1 => if k = true then (wp a).2 δ A1 Q X else (wp b).2 δ A1 Q X) X)
  | .idx a b => both fun δ A Q X => (wp a).1 δ A (fun x A1 => (wp b).1 δ A1 (fun y A2 => idxP x y A2 Q) X) X
  | .sl a lo hi => both fun δ A Q X => (wp a).1 δ A (fun x A1 => (wpO lo).1 δ A1 (fun l A2 => (wpO hi).1 δ A2 (fun h A3 => slP x l h A3 Q) X) X) X
  | .call k es => both fun δ A Q X => wpEs es δ A (fun ds A1 => F k ds A1 Q X) X
  | .callk k m ks perm es kw => both fun δ A Q X => wpEs es δ A (fun xs A1 => wpEs kw δ A1 (fun ys A2 => xs.length = m ∧ ys.length = ks.length ∧ opt (perm.mapM fun i => (xs ++ ys)[i]?) fun zs => F k zs A2 Q X) X) X
  | .callv ks f es => both fun δ A Q X => (wp f).1 δ A (fun x A1 => match x with | .lam k => k ∈ ks ∧ wpEs es δ A1 (fun ds A2 => F k ds A2 Q X) X | _ => False) X
  | .bi b es => both fun δ A Q X => wpEs es δ A (fun ds A1 => biP b ds A1 Q) X
  | .isi ex a t => both fun δ A Q X => (wp a).1 δ A (fun x A1 => opt (tyD A1 x) fun u => okT ex u ∧ Q (.bl (subT S u t)) A1) X
  | .isis a ts => both fun δ A Q X => (wp a).1 δ A (fun x A1 => opt (tyD A1 x) fun u => okT [] u ∧ Q (.bl (ts.any fun t => subT S u (.b t))) A1) X
  | .meth m o es => both fun δ A Q X => (wp o).1 δ A (fun x A1 => recvP x A1 ∧ wpEs es δ A1 (fun ds A2 => methP m x ds A2 Q) X) X
  | .comp it g own c e => both fun δ A Q X => wpI it δ A (fun xs gd A1 => compP gd g (wipeD δ own) (fun δ A k => (wpO c).2 δ A k fun _ _ _ => False) (fun δ A k => (wp e).1 δ A k fun _ _ _ => False) Q xs [] A1) X
  | .lam k => both fun _ A Q _ => Q (.lam k) A
  | .caught e => both fun δ A Q _ => (wp e).1 δ A (fun _ A1 => Q .non A1) (fun c p A1 => S c 0 = true ∧ Q (.exc c p) A1)
  | .xat cs _ e => both fun δ A Q X => (wp e).1 δ A (fun x A1 => match x with | .exc c [y] => c ∈ cs ∧ Q y A1 | _ => False) X
  | .sset it g own c e => both fun δ A Q X => wpI it δ A (fun xs gd A1 => setP gd g (wipeD δ own) (fun δ A k => (wpO c).2 δ A k fun _ _ _ => False) (fun δ A k => (wp e).1 δ A k fun _ _ _ => False) Q xs [] A1) X
  | .lrg1 e => both fun δ A Q X => (wp e).1 δ A (fun x A1 => match x with | .int n => (-(2 ^ 62) ≤ n ∧ n ≤ 1000000) ∧ Q (.ref A1.length) (A1 ++ [.lst (rngD 0 n.toNat)]) | _ => False) X
  | .lrg2 a b => both fun δ A Q X => (wp a).1 δ A (fun x A1 => (wp b).1 δ A1 (fun y A2 => match x, y with | .int lo, .int hi => (0 ≤ lo ∧ lo ≤ 1000000 ∧ 0 ≤ hi ∧ hi ≤ 1000000) ∧ Q (.ref A2.length) (A2 ++ [.lst (rngD lo (hi - lo).toNat)]) | _, _ => False) X) X
  | .gtu _ ss => both fun _ A Q _ => Q (.tup (ss.map .str)) A
  | .ixo t o y => both fun δ A Q X => (wp o).1 δ A (fun x A1 => ixR t x A1 ∧ (wp y).1 δ A1 (fun d A2 => ixP x d A2 Q) X) X
  | .isx e => both fun δ A Q X => (wp e).1 δ A (fun x A1 => match x with | .tux _ => Q (.bl true) A1 | _ => False) X
  | .tpx e => both fun δ A Q X => (wp e).1 δ A (fun x A1 => match x with | .ref i => opt (cellL A1 i) fun xs => Q (.tux xs) A1 | _ => False) X
@[simp] def wpEs : Es → DSt → AH → (List D → AH → Prop) → DX → Prop
  | .nil => fun _ A Q _ => Q [] A
  | .cons e r => fun δ A Q X => (wp e).1 δ A (fun x A1 => wpEs r δ A1 (fun xs A2 => Q (x :: xs) A2) X) X
/-- an optional part: as an int of a slice, as a comprehension's test -/
@[simp] def wpO : Eo → (DSt → AH → (Option Int → AH → Prop) → DX → Prop) × WT
  | .no => (fun _ A Q _ => Q none A, fun _ A Q _ => Q true A)
  | .yes e => (fun δ A Q X => (wp e).1 δ A (fun x A1 => match x with | .int i => Q (some i) A1 | _ => False) X, (wp e).2)
@[simp] def wpI : Ei → DSt → AH → (List D → (AH → Prop) → AH → Prop) → DX → Prop
  | .seq e => fun δ A Q X => (wp e).1 δ A (fun x A1 => itP x A1 fun xs gd => Q xs gd A1) X
  | .rng1 e => fun δ A Q X => (wp e).1 δ A (fun x A1 => match x with | .int n => (-(2 ^ 62) ≤ n ∧ n < 2 ^ 62) ∧ Q (rngD 0 n.toNat) (fun _ => True) A1 | _ => False) X
  | .rng2 a b => fun δ A Q X => (wp a).1 δ A (fun x A1 => (wp b).1 δ A1 (fun y A2 => match x, y with | .int lo, .int hi => (-(2 ^ 62) ≤ lo ∧ lo < 2 ^ 62 ∧ -(2 ^ 62) ≤ hi ∧ hi < 2 ^ 62) ∧ Q (rngD lo (hi - lo).toNat) (fun _ => True) A2 | _, _ => False) X) X
  | .rev e => fun δ A Q X => (wp e).1 δ A (fun x A1 => itP x A1 fun xs gd => Q xs.reverse gd A1) X
  | .enm e => fun δ A Q X => (wp e).1 δ A (fun x A1 => itP x A1 fun xs gd => Q (enmD 0 xs) gd A1) X
end
abbrev wpE (e : E) : WE := (wp F S e).1
abbrev wpT (e : E) : WT := (wp F S e).2
end
end Zw
set_option Elab.async false
set_option linter.all false
set_option maxRecDepth 100000
set_option maxHeartbeats 4000000
/-! Zc: the small trees' wishes are readings of the layer: one theorem a form. -/
namespace Zw
open PySem PySem.Spec PyProof.Rows L2

section
variable (G : GE)
def PostV (ι : List Addr) (H : Hp) (Q : VK) (d : D) (A' : AH) : Prop := ∀ ι' H' v, Stp ι H ι' H' → Rep G ι' A' H' → VR G ι' H' d v → Q v H'
def PostVs (ι : List Addr) (H : Hp) (Q : List V → Hp → Prop) (d : List D) (A' : AH) : Prop := ∀ ι' H' v, Stp ι H ι' H' → Rep G ι' A' H' → VRs G ι' H' d v → Q v H'
def PostG {α : Type} (ι : List Addr) (H : Hp) (Q : α → Hp → Prop) (b : α) (A' : AH) : Prop := ∀ ι' H', Stp ι H ι' H' → Rep G ι' A' H' → Q b H'
def PostX (ι : List Addr) (H : Hp) (W : WX) (σ : L2.St) (c : Nat) (p : List D) (A' : AH) : Prop := ∀ ι' H' cls d, Stp ι H ι' H' → Rep G ι' A' H' → XR G ι' H' c p cls d → W cls d σ H'
/-- a wish of D's as a reading -/
def LE (W : WX) (t : WE) : TE := fun σ H Q => ∃ (ι : List Addr) (A : AH) (δ : DSt) (Q0 : DK) (E0 : DX), Rep G ι A H ∧ SR G ι H δ σ ∧ t δ A Q0 E0 ∧ (∀ d A', Q0 d A' → PostV G ι H Q d A') ∧ ∀ c p A', E0 c p A' → PostX G ι H W σ c p A'
def LA (W : WX) (t : DSt → AH → (List D → AH → Prop) → DX → Prop) : TA := fun σ H Q => ∃ (ι : List Addr) (A : AH) (δ : DSt) (Q0 : List D → AH → Prop) (E0 : DX), Rep G ι A H ∧ SR G ι H δ σ ∧ t δ A Q0 E0 ∧ (∀ d A', Q0 d A' → PostVs G ι H Q d A') ∧ ∀ c p A', E0 c p A' → PostX G ι H W σ c p A'
def LT (W : WX) (t : WT) : TT := fun σ H Q => ∃ (ι : List Addr) (A : AH) (δ : DSt) (Q0 : Bool → AH → Prop) (E0 : DX), Rep G ι A H ∧ SR G ι H δ σ ∧ t δ A Q0 E0 ∧ (∀ d A', Q0 d A' → PostG G ι H Q d A') ∧ ∀ c p A', E0 c p A' → PostX G ι H W σ c p A'
def LO (W : WX) (t : DSt → AH → (Option Int → AH → Prop) → DX → Prop) : TO := fun σ H Q => ∃ (ι : List Addr) (A : AH) (δ : DSt) (Q0 : Option Int → AH → Prop) (E0 : DX), Rep G ι A H ∧ SR G ι H δ σ ∧ t δ A Q0 E0 ∧ (∀ d A', Q0 d A' → PostG G ι H Q d A') ∧ ∀ c p A', E0 c p A' → PostX G ι H W σ c p A'
end

theorem PE.weak {X : Cx} {e : Expr} {t t' : TE} (h : PE X e t) (k : ∀ σ H Q, t' σ H Q → t σ H Q) : PE X e t' := ⟨fun pins s σ H Q I q => h.run pins s σ H Q I (k σ H Q q)⟩
theorem PT.weak {X : Cx} {e : Expr} {t t' : TT} (h : PT X e t) (k : ∀ σ H Q, t' σ H Q → t σ H Q) : PT X e t' := ⟨fun pins s σ H Q I q => h.run pins s σ H Q I (k σ H Q q)⟩
theorem PW.weak {X : Cx} {e : Expr} {t t' : TT} (h : PW X e t) (k : ∀ σ H Q, t' σ H Q → t σ H Q) : PW X e t' := ⟨fun wh pins s σ H Q I q => h.run wh pins s σ H Q I (k σ H Q q)⟩
theorem PA.weak {X : Cx} {e : List Expr} {t t' : TA} (h : PA X e t) (k : ∀ σ H Q, t' σ H Q → t σ H Q) : PA X e t' := ⟨fun po pins s σ H Q I q => h.run po pins s σ H Q I (k σ H Q q)⟩
theorem PO.weak {X : Cx} {e : Option Expr} {t t' : TO} (h : PO X e t) (k : ∀ σ H Q, t' σ H Q → t σ H Q) : PO X e t' := ⟨fun pins s σ H Q I q => h.run pins s σ H Q I (k σ H Q q)⟩
theorem PE.or {X : Cx} {e : Expr} {t t' : TE} (h : PE X e t) (h' : PE X e t') : PE X e (fun σ H Q => t σ H Q ∨ t' σ H Q) :=
  ⟨fun pins s σ H Q I q => q.elim (h.run pins s σ H Q I) (h'.run pins s σ H Q I)⟩

section
variable {G : GE} {ι ι1 : List Addr} {H H1 : Hp} {A : AH}
theorem PostV.stp {Q : VK} {d : D} {A' : AH} (h : PostV G ι H Q d A') (s : Stp ι H ι1 H1) : PostV G ι1 H1 Q d A' := fun ι' H' v t => h ι' H' v (s.trans t)
theorem PostVs.stp {Q : List V → Hp → Prop} {d : List D} {A' : AH} (h : PostVs G ι H Q d A') (s : Stp ι H ι1 H1) : PostVs G ι1 H1 Q d A' := fun ι' H' v t => h ι' H' v (s.trans t)
theorem PostG.stp {α : Type} {Q : α → Hp → Prop} {d : α} {A' : AH} (h : PostG G ι H Q d A') (s : Stp ι H ι1 H1) : PostG G ι1 H1 Q d A' := fun ι' H' t => h ι' H' (s.trans t)
theorem PostX.stp {W : WX} {σ : L2.St} {c : Nat} {p : List D} {A' : AH} (h : PostX G ι H W σ c p A') (s : Stp ι H ι1 H1) : PostX G ι1 H1 W σ c p A' := fun ι' H' cls d t => h ι' H' cls d (s.trans t)

/-! ### what a value is told of -/
theorem VR.int {i : Int} {v : V} (h : VR G ι H (.int i) v) : v = .int i := by unfold VR at h; exact h
theorem VR.bl {i : Bool} {v : V} (h : VR G ι H (.bl i) v) : v = .bl i := by unfold VR at h; exact h
theorem VR.non {v : V} (h : VR G ι H .non v) : v = .non := by unfold VR at h; exact h
theorem VR.str {i : Str} {v : V} (h : VR G ι H (.str i) v) : v = .str i := by unfold VR at h; exact h
theorem VR.fn {k : Nat} {v : V} (h : VR G ι H (.fn k) v) : v = .ref (G.T k) := by unfold VR at h; exact h
theorem VR.ref {i : Nat} {v : V} (h : VR G ι H (.ref i) v) : ∃ a, v = .ref a ∧ ι[i]? = some a := by unfold VR at h; exact h
theorem VR.tup {ds : List D} {v : V} (h : VR G ι H (.tup ds) v) : ∃ a vs, v = .ref a ∧ SqT G.K H a vs ∧ VRs G ι H ds vs := by unfold VR at h; exact h
theorem VR.rol {ds : List D} {v : V} (h : VR G ι H (.rol ds) v) : ∃ a vs, v = .ref a ∧ SqI G.K H a vs ∧ VRs G ι H ds vs := by unfold VR at h; exact h
theorem VR.tux {ds : List D} {v : V} (h : VR G ι H (.tux ds) v) : ∃ a vs o, v = .ref a ∧ H a = some (.frz o (.tup vs)) ∧ o.cls = .type "tuple" ∧ o.dict = none ∧ VRs G ι H ds vs := by unfold VR at h; exact h
theorem VR.tuxT {ds : List D} {v : V} (h : VR G ι H (.tux ds) v) : ∃ a vs, v = .ref a ∧ SqT G.K H a vs ∧ VRs G ι H ds vs := by
  obtain ⟨a, vs, o, e, h1, _, _, h2⟩ := h.tux
  exact ⟨a, vs, e, .inl (.inr ⟨o, h1⟩), h2⟩
theorem VR.mkInt {i : Int} : VR G ι H (.int i) (.int i) := by unfold VR; rfl
theorem VR.mkBl {i : Bool} : VR G ι H (.bl i) (.bl i) := by unfold VR; rfl
theorem VR.mkNon : VR G ι H .non .non := by unfold VR; rfl
theorem VR.mkStr {i : Str} : VR G ι H (.str i) (.str i) := by unfold VR; rfl
theorem VR.mkFn {k : Nat} : VR G ι H (.fn k) (.ref (G.T k)) := by unfold VR; rfl
theorem VR.mkRef {i : Nat} {a : Addr} (h : ι[i]? = some a) : VR G ι H (.ref i) (.ref a) := by unfold VR; exact ⟨a, rfl, h⟩
theorem VR.mkTup {ds : List D} {a : Addr} {vs : List V} (h : SqT G.K H a vs) (r : VRs G ι H ds vs) : VR G ι H (.tup ds) (.ref a) := by unfold VR; exact ⟨a, vs, rfl, h, r⟩

theorem Rep.lst (R : Rep G ι A H) {i : Nat} {xs : List D} {a : Addr} (hi : ι[i]? = some a) (h : A[i]? = some (.lst xs)) : ∃ vs, H a = some (.lst vs) ∧ VRs G ι H xs vs := by
  obtain ⟨b, e, c⟩ := R.at_ i _ h
  rw [hi] at e; cases e; exact c
theorem Rep.ro (R : Rep G ι A H) {i : Nat} {xs : List D} {a : Addr} (hi : ι[i]? = some a) (h : A[i]? = some (.ro xs)) : ∃ vs, SqL G.K H a vs ∧ VRs G ι H xs vs := by
  obtain ⟨b, e, c⟩ := R.at_ i _ h
  rw [hi] at e; cases e; exact c.2
theorem Rep.dct (R : Rep G ι A H) {i : Nat} {kvs : List (Key × D)} {a : Addr} (hi : ι[i]? = some a) (h : A[i]? = some (.dct kvs)) : ∃ ws, H a = some (.dK ws) ∧ KRs G ι H kvs ws := by
  obtain ⟨b, e, c⟩ := R.at_ i _ h
  rw [hi] at e; cases e; exact c
theorem opt_some {α : Type} {o : Option α} {k : α → Prop} (h : opt o k) : ∃ a, o = some a ∧ k a := by
  cases o with
  | none => exact h.elim
  | some a => exact ⟨a, rfl, h⟩
theorem cellW_at {i : Nat} {xs : List D} (h : cellW A i = some xs) : A[i]? = some (.lst xs) := by
  unfold cellW at h
  split at h
  · rename_i e; cases h; exact e
  · cases h
theorem cellD_at {i : Nat} {xs : List (Key × D)} (h : cellD A i = some xs) : A[i]? = some (.dct xs) := by
  unfold cellD at h
  split at h
  · rename_i e; cases h; exact e
  · cases h
theorem cellL_at {i : Nat} {xs : List D} (h : cellL A i = some xs) : A[i]? = some (.lst xs) ∨ A[i]? = some (.ro xs) := by
  unfold cellL at h
  split at h
  · rename_i e; cases h; exact .inl e
  · rename_i e; cases h; exact .inr e
  · cases h
theorem Rep.sqL (R : Rep G ι A H) {i : Nat} {xs : List D} {a : Addr} (hi : ι[i]? = some a) (h : cellL A i = some xs) : ∃ vs, SqL G.K H a vs ∧ VRs G ι H xs vs := by
  rcases cellL_at h with h | h
  · obtain ⟨vs, e, r⟩ := R.lst hi h; exact ⟨vs, .of e, r⟩
  · exact R.ro hi h
/-- the items of a list or tuple -/
theorem Rep.items (R : Rep G ι A H) {x : D} {v : V} {xs : List D} (r : VR G ι H x v) (h : itemsD A x = some xs) : ∃ a vs, v = .ref a ∧ (SqL G.K H a vs ∨ SqT G.K H a vs) ∧ VRs G ι H xs vs := by
  cases x with
  | tup ds =>
    cases h
    obtain ⟨a, vs, e, q, z⟩ := r.tup
    exact ⟨a, vs, e, .inr q, z⟩
  | rol ds =>
    cases h
    obtain ⟨a, vs, e, q, z⟩ := r.rol
    exact ⟨a, vs, e, .inl q.l, z⟩
  | tux ds =>
    cases h
    obtain ⟨a, vs, e, q, z⟩ := r.tuxT
    exact ⟨a, vs, e, .inr q, z⟩
  | ref i =>
    obtain ⟨a, e, hi⟩ := r.ref
    obtain ⟨vs, q, z⟩ := R.sqL hi h
    exact ⟨a, vs, e, .inl q, z⟩
  | _ => cases h
theorem lim_line {n : Nat} (h : n ≤ LIM) : n ≤ sizeLine := Nat.le_trans h (by decide)
theorem lim_lt {n : Nat} (h : n < LIM) : n < sizeLine := Nat.lt_of_lt_of_le h (by decide)

/-! ### new things -/
theorem PostV.tup {Q : VK} {ds : List D} {vs : List V} (h : PostV G ι H Q (.tup ds) A) (R : Rep G ι A H) (r : VRs G ι H ds vs) : ∀ p, H p = none → Q (.ref p) (upd H p (.tup vs)) := fun p hp =>
  h ι _ _ (stp_new hp) (R.new hp) (.mkTup (.of upd_same) (VRs.mono (stp_new hp) _ _ r))
theorem PostV.lst {Q : VK} {ds : List D} {vs : List V} (h : PostV G ι H Q (.ref A.length) (A ++ [.lst ds])) (R : Rep G ι A H) (r : VRs G ι H ds vs) : ∀ p, H p = none → Q (.ref p) (upd H p (.lst vs)) := fun p hp =>
  h _ _ _ (stp_cell hp) (R.cell hp ⟨vs, upd_same, VRs.mono (stp_cell hp) _ _ r⟩) (.mkRef R.at_new)
theorem PostV.dct {Q : VK} {kvs : List (Key × D)} {ws : List (Key × V)} (h : PostV G ι H Q (.ref A.length) (A ++ [.dct kvs])) (R : Rep G ι A H) (r : KRs G ι H kvs ws) : ∀ p, H p = none → Q (.ref p) (upd H p (.dK ws)) := fun p hp =>
  h _ _ _ (stp_cell hp) (R.cell hp ⟨ws, upd_same, KRs.mono (stp_cell hp) _ _ r⟩) (.mkRef R.at_new)
/-- a list changes -/
theorem Rep.setL (R : Rep G ι A H) {i : Nat} {a : Addr} {xs ys : List D} {vs us : List V} (hi : ι[i]? = some a) (h : H a = some (.lst vs)) (r : VRs G ι H ys us) :
    Stp ι H ι (upd H a (.lst us)) ∧ Rep G ι (A.set i (.lst ys)) (upd H a (.lst us)) := by
  have st : Stp ι H ι (upd H a (.lst us)) := stp_set hi h (fun z => z) (fun z => z)
  exact ⟨st, R.set hi h (fun z => z) (fun z => z) (fun z => z) ⟨us, upd_same, VRs.mono st _ _ r⟩⟩
theorem Rep.setD (R : Rep G ι A H) {i : Nat} {a : Addr} {ys : List (Key × D)} {vs us : List (Key × V)} (hi : ι[i]? = some a) (h : H a = some (.dK vs)) (r : KRs G ι H ys us) :
    Stp ι H ι (upd H a (.dK us)) ∧ Rep G ι (A.set i (.dct ys)) (upd H a (.dK us)) := by
  have st : Stp ι H ι (upd H a (.dK us)) := stp_set hi h (fun z => z) (fun z => z)
  exact ⟨st, R.set hi h (fun z => z) (fun z => z) (fun z => z) ⟨us, upd_same, KRs.mono st _ _ r⟩⟩

/-! ### dicts -/
theorem KRs.val : ∀ {ds : List (Key × D)} {vs : List (Key × V)} (k : Key), KRs G ι H ds vs → (∀ d, valD ds k = some d → ∃ v, valV vs k = some v ∧ VR G ι H d v) ∧ (valD ds k = none → valV vs k = none)
  | [], vs, k, h => by
    have h : vs = [] := h
    subst h
    exact ⟨(fun d e => by cases e), fun _ => rfl⟩
  | (j, d) :: ds, vs, k, h => by
    obtain ⟨v, r, e, h1, h2⟩ := h
    subst e
    obtain ⟨a, b⟩ := KRs.val k h2
    by_cases hj : j = k
    · subst hj
      have e1 : valD ((j, d) :: ds) j = some d := by simp [valD]
      rw [e1, valV_pos rfl]
      exact ⟨fun d' e => by cases e; exact ⟨v, rfl, h1⟩, fun e => by cases e⟩
    · have e1 : valD ((j, d) :: ds) k = valD ds k := by simp [valD, hj]
      rw [e1, valV_neg hj]
      exact ⟨a, b⟩
theorem KRs.any : ∀ {ds : List (Key × D)} {vs : List (Key × V)} (k : Key), KRs G ι H ds vs → (ds.any fun kv => decide (kv.1 = k)) = vs.any fun kv => decide (kv.1 = k)
  | [], vs, k, h => by have h : vs = [] := h; subst h; rfl
  | (j, d) :: ds, vs, k, h => by
    obtain ⟨v, r, e, h1, h2⟩ := h
    subst e
    rw [List.any_cons, List.any_cons, KRs.any k h2]
theorem KRs.append : ∀ {ds es : List (Key × D)} {vs us : List (Key × V)}, KRs G ι H ds vs → KRs G ι H es us → KRs G ι H (ds ++ es) (vs ++ us)
  | [], _, vs, _, h, h' => by have h : vs = [] := h; subst h; exact h'
  | (j, d) :: ds, es, vs, us, h, h' => by
    obtain ⟨v, r, e, h1, h2⟩ := h
    subst e
    exact ⟨v, r ++ us, rfl, h1, KRs.append h2 h'⟩
theorem KRs.repl : ∀ {ds : List (Key × D)} {vs : List (Key × V)} (k : Key) {d : D} {v : V}, KRs G ι H ds vs → VR G ι H d v → KRs G ι H (ds.map fun kv => if kv.1 = k then (kv.1, d) else kv) (vs.map fun kv => if kv.1 = k then (kv.1, v) else kv)
  | [], vs, k, _, _, h, _ => by have h : vs = [] := h; subst h; rfl
  | (j, d) :: ds, vs, k, d', v', h, h' => by
    obtain ⟨v, r, e, h1, h2⟩ := h
    subst e
    by_cases hj : j = k
    · subst hj
      simp only [List.map_cons, if_true]
      exact ⟨v', _, rfl, h', KRs.repl j h2 h'⟩
    · simp only [List.map_cons, if_neg hj]
      exact ⟨v, _, rfl, h1, KRs.repl k h2 h'⟩
theorem KRs.put {ds : List (Key × D)} {vs : List (Key × V)} (k : Key) {d : D} {v : V} (h : KRs G ι H ds vs) (h' : VR G ι H d v) : KRs G ι H (putD ds k d) (putK vs k v) := by
  unfold putD putK
  rw [KRs.any k h]
  split
  · exact KRs.repl k h h'
  · exact KRs.append h ⟨v, [], rfl, h', rfl⟩
theorem keyD_V {x : D} {v : V} {k : Key} (h : keyD x = some k) (r : VR G ι H x v) : v = kV k := by
  cases x with
  | int i => cases h; exact r.int
  | str s => cases h; exact r.str
  | _ => cases h

/-! ### data -/
mutual
theorem toP_dp (R : Rep G ι A H) : ∀ (n : Nat) (x : D) (p : PyData) (v : V), toP A n x = some p → VR G ι H x v → Dp G.K H v p ∧ p.plain = true
  | 0, _, _, _, h, _ => by cases h
  | n + 1, x, p, v, h, r => by
    cases x with
    | non => cases h; rw [r.non]; exact ⟨.non, rfl⟩
    | bl b => cases h; rw [r.bl]; exact ⟨.bl b, rfl⟩
    | int i => cases h; rw [r.int]; exact ⟨.int i, rfl⟩
    | str s => cases h; rw [r.str]; exact ⟨.str s, rfl⟩
    | tup ds =>
      have h : (ds.mapM (toP A n)).map .tuple = some p := h
      cases e : ds.mapM (toP A n) with
      | none => rw [e] at h; cases h
      | some ps =>
        rw [e] at h; cases h
        obtain ⟨a, vs, ev, q, z⟩ := r.tup
        subst ev
        obtain ⟨h1, h2⟩ := toPs_dp R n ds ps vs e z
        exact ⟨.tup q h1, by unfold PyData.plain; exact h2⟩
    | tux ds =>
      have h : (ds.mapM (toP A n)).map .tuple = some p := h
      cases e : ds.mapM (toP A n) with
      | none => rw [e] at h; cases h
      | some ps =>
        rw [e] at h; cases h
        obtain ⟨a, vs, ev, q, z⟩ := r.tuxT
        subst ev
        obtain ⟨h1, h2⟩ := toPs_dp R n ds ps vs e z
        exact ⟨.tup q h1, by unfold PyData.plain; exact h2⟩
    | ref i =>
      have h : ((cellL A i).bind fun xs => (xs.mapM (toP A n)).map .list) = some p := h
      cases e : cellL A i with
      | none => rw [e] at h; cases h
      | some xs =>
        rw [e] at h
        have h : (xs.mapM (toP A n)).map .list = some p := h
        cases e2 : xs.mapM (toP A n) with
        | none => rw [e2] at h; cases h
        | some ps =>
          rw [e2] at h; cases h
          obtain ⟨a, ev, hi⟩ := r.ref
          subst ev
          obtain ⟨vs, q, z⟩ := R.sqL hi e
          obtain ⟨h1, h2⟩ := toPs_dp R n xs ps vs e2 z
          exact ⟨.lst q h1, by unfold PyData.plain; exact h2⟩
    | _ => cases h
theorem toPs_dp (R : Rep G ι A H) : ∀ (n : Nat) (xs : List D) (ps : List PyData) (vs : List V), xs.mapM (toP A n) = some ps → VRs G ι H xs vs → DpAll G.K H vs ps ∧ PyData.plainAll ps = true
  | n, [], ps, vs, h, r => by
    rw [List.mapM_nil] at h
    cases h
    unfold VRs at r
    subst r
    exact ⟨.nil, rfl⟩
  | n, x :: xs, ps, vs, h, r => by
    rw [List.mapM_cons] at h
    unfold VRs at r
    obtain ⟨v, rs, e, h1, h2⟩ := r
    subst e
    cases e1 : toP A n x with
    | none => rw [e1] at h; cases h
    | some p =>
      cases e2 : xs.mapM (toP A n) with
      | none => rw [e1, e2] at h; cases h
      | some qs =>
        rw [e1, e2] at h
        cases h
        obtain ⟨a1, a2⟩ := toP_dp R n x p v e1 h1
        obtain ⟨b1, b2⟩ := toPs_dp R n xs qs rs e2 h2
        exact ⟨.cons a1 b1, by unfold PyData.plainAll; rw [a2, b2]; rfl⟩
end
end
end Zw
set_option Elab.async false
set_option linter.all false
set_option maxRecDepth 100000
set_option maxHeartbeats 4000000
/-! Zd: operators, comparisons, subscripts, built-ins: by values. -/
namespace Zw
open PySem PySem.Spec PyProof.Rows L2

section
variable {G : GE} {ι : List Addr} {H : Hp} {A : AH}
mutual
theorem toP_depth : ∀ (n : Nat) (x : D) (p : PyData), toP A n x = some p → p.depth ≤ n
  | 0, _, _, h => by cases h
  | n + 1, x, p, h => by
    cases x with
    | non => cases h; exact Nat.zero_le _
    | bl b => cases h; exact Nat.zero_le _
    | int i => cases h; exact Nat.zero_le _
    | str s => cases h; exact Nat.zero_le _
    | tup ds =>
      have h : (ds.mapM (toP A n)).map .tuple = some p := h
      cases e : ds.mapM (toP A n) with
      | none => rw [e] at h; cases h
      | some ps =>
        rw [e] at h; cases h
        have := toPs_depth n ds ps e
        unfold PyData.depth
        omega
    | tux ds =>
      have h : (ds.mapM (toP A n)).map .tuple = some p := h
      cases e : ds.mapM (toP A n) with
      | none => rw [e] at h; cases h
      | some ps =>
        rw [e] at h; cases h
        have := toPs_depth n ds ps e
        unfold PyData.depth
        omega
    | ref i =>
      have h : ((cellL A i).bind fun xs => (xs.mapM (toP A n)).map .list) = some p := h
      cases e : cellL A i with
      | none => rw [e] at h; cases h
      | some xs =>
        rw [e] at h
        have h : (xs.mapM (toP A n)).map .list = some p := h
        cases e2 : xs.mapM (toP A n) with
        | none => rw [e2] at h; cases h
        | some ps =>
          rw [e2] at h; cases h
          have := toPs_depth n xs ps e2
          unfold PyData.depth
          omega
    | _ => cases h
theorem toPs_depth : ∀ (n : Nat) (xs : List D) (ps : List PyData), xs.mapM (toP A n) = some ps → PyData.depthAll ps ≤ n
  | n, [], ps, h => by
    rw [List.mapM_nil] at h
    cases h
    exact Nat.zero_le _
  | n, x :: xs, ps, h => by
    rw [List.mapM_cons] at h
    cases e1 : toP A n x with
    | none => rw [e1] at h; cases h
    | some p =>
      cases e2 : xs.mapM (toP A n) with
      | none => rw [e1, e2] at h; cases h
      | some qs =>
        rw [e1, e2] at h
        cases h
        have h1 := toP_depth n x p e1
        have h2 := toPs_depth n xs qs e2
        unfold PyData.depthAll
        omega
end

mutual
theorem toP_plain : ∀ (n : Nat) (x : D) (p : PyData), toP A n x = some p → p.plain = true
  | 0, _, _, h => by cases h
  | n + 1, x, p, h => by
    cases x with
    | non => cases h; rfl
    | bl b => cases h; rfl
    | int i => cases h; rfl
    | str s => cases h; rfl
    | tup ds =>
      have h : (ds.mapM (toP A n)).map .tuple = some p := h
      cases e : ds.mapM (toP A n) with
      | none => rw [e] at h; cases h
      | some ps => rw [e] at h; cases h; exact toPs_plain n ds ps e
    | tux ds =>
      have h : (ds.mapM (toP A n)).map .tuple = some p := h
      cases e : ds.mapM (toP A n) with
      | none => rw [e] at h; cases h
      | some ps => rw [e] at h; cases h; exact toPs_plain n ds ps e
    | ref i =>
      have h : ((cellL A i).bind fun xs => (xs.mapM (toP A n)).map .list) = some p := h
      cases e : cellL A i with
      | none => rw [e] at h; cases h
      | some xs =>
        rw [e] at h
        have h : (xs.mapM (toP A n)).map .list = some p := h
        cases e2 : xs.mapM (toP A n) with
        | none => rw [e2] at h; cases h
        | some ps => rw [e2] at h; cases h; exact toPs_plain n xs ps e2
    | _ => cases h
theorem toPs_plain : ∀ (n : Nat) (xs : List D) (ps : List PyData), xs.mapM (toP A n) = some ps → PyData.plainAll ps = true
  | n, [], ps, h => by
    rw [List.mapM_nil] at h
    cases h
    rfl
  | n, x :: xs, ps, h => by
    rw [List.mapM_cons] at h
    cases e1 : toP A n x with
    | none => rw [e1] at h; cases h
    | some p =>
      cases e2 : xs.mapM (toP A n) with
      | none => rw [e1, e2] at h; cases h
      | some qs =>
        rw [e1, e2] at h
        cases h
        have h1 := toP_plain n x p e1
        have h2 := toPs_plain n xs qs e2
        unfold PyData.plainAll
        rw [h1, h2]; rfl
end
/-- alike things are equal -/
theorem eqP_same {x y : D} {p : PyData} {k : Bool → Prop} (h1 : toP A 12 x = some p) (h2 : toP A 12 y = some p) (hl : lenNe A x y = false) : eqP A x y k = k true := by
  unfold eqP
  rw [hl, h1, h2]
  show k (PyData.eqv p p) = _
  rw [SeqAt.eqv_refl_plain p (toP_plain 12 x p h1)]
section
variable {X : Cx}
def rEqP (K : PySem.W.Frag) : R2 := fun x y H Q => ∃ d e, Dp K H x d ∧ Dp K H y e ∧ d.plain = true ∧ e.plain = true ∧ d.depth ≤ 12 ∧ Q (.bl (PyData.eqv d e)) H
def rNeP (K : PySem.W.Frag) : R2 := fun x y H Q => ∃ d e, Dp K H x d ∧ Dp K H y e ∧ d.plain = true ∧ e.plain = true ∧ d.depth ≤ 12 ∧ Q (.bl (!PyData.eqv d e)) H
theorem op_eqP (hu : X.A.units + 64 < cLine) : OpR X (compareOp .Eq) (rEqP X.K) := fun pins s σ H x y v u Q I rx ry h => by
  obtain ⟨d, e, hd, he, sd, se, dd, q⟩ := h
  obtain ⟨as, r1⟩ := Dp.reads I d x v hd rx
  obtain ⟨bs, r2⟩ := Dp.reads I e y u he ry
  exact SeqAt.eq_plain r1 r2 sd se (by omega) ⟨.bl _, H, I, rfl, q⟩
theorem op_neP (hu : X.A.units + 64 < cLine) : OpR X (compareOp .NotEq) (rNeP X.K) := fun pins s σ H x y v u Q I rx ry h => by
  obtain ⟨d, e, hd, he, sd, se, dd, q⟩ := h
  obtain ⟨as, r1⟩ := Dp.reads I d x v hd rx
  obtain ⟨bs, r2⟩ := Dp.reads I e y u he ry
  exact SeqAt.ne_plain r1 r2 sd se (by omega) ⟨.bl _, H, I, rfl, q⟩
/-- lists of unlike lengths -/
def rLnP (K : PySem.W.Frag) (b : Bool) : R2 := fun x y H Q => ∃ p q vs us, x = .ref p ∧ y = .ref q ∧ SqL K H p vs ∧ SqL K H q us ∧ vs.length ≠ us.length ∧ Q (.bl b) H
theorem op_eqL (hu : X.A.units + 64 < cLine) : OpR X (compareOp .Eq) (rLnP X.K false) := fun pins s σ H x y v u Q I rx ry h => by
  obtain ⟨p, q, vs, us, ex, ey, h1, h2, hn, q⟩ := h
  subst ex ey
  cases rx
  cases ry
  obtain ⟨i1, v1, ⟨o1, n1, a1, b1, _, c1⟩, _⟩ := I.list h1
  obtain ⟨i2, v2, ⟨o2, n2, a2, b2, _, c2⟩, _⟩ := I.list h2
  have l1 : vs.length = i1.toArray.size := by rw [List.size_toArray]; exact v1.length
  have l2 : us.length = i2.toArray.size := by rw [List.size_toArray]; exact v2.length
  exact SeqAt.RcAt.lists_lengths ⟨o1, a1, b1, n1, c1⟩ ⟨o2, a2, b2, n2, c2⟩ (by rw [bne_iff_ne, ← l1, ← l2]; exact hn) (by omega) _ _ _ _ ⟨.bl _, H, I, rfl, q⟩
theorem op_neL (hu : X.A.units + 64 < cLine) : OpR X (compareOp .NotEq) (rLnP X.K true) := fun pins s σ H x y v u Q I rx ry h => by
  obtain ⟨p, q, vs, us, ex, ey, h1, h2, hn, q⟩ := h
  subst ex ey
  cases rx
  cases ry
  obtain ⟨i1, v1, ⟨o1, n1, a1, b1, _, c1⟩, _⟩ := I.list h1
  obtain ⟨i2, v2, ⟨o2, n2, a2, b2, _, c2⟩, _⟩ := I.list h2
  have l1 : vs.length = i1.toArray.size := by rw [List.size_toArray]; exact v1.length
  have l2 : us.length = i2.toArray.size := by rw [List.size_toArray]; exact v2.length
  exact SeqAt.RcNeAt.lists_lengths ⟨o1, a1, b1, n1, c1⟩ ⟨o2, a2, b2, n2, c2⟩ (by rw [bne_iff_ne, ← l1, ← l2]; exact hn) (by omega) _ _ _ _ ⟨.bl _, H, I, rfl, q⟩
def rInP (K : PySem.W.Frag) (neg : Bool) : R2 := fun x y H Q => ∃ p ds d, Dp K H x d ∧ (Dp K H y (.list ds) ∨ Dp K H y (.tuple ds)) ∧ y = .ref p ∧ d.plain = true ∧ PyData.plainAll ds = true ∧ d.depth ≤ 12 ∧
  Q (.bl (if neg = true then !(ds.any fun q => PyData.eqv q d) else ds.any fun q => PyData.eqv q d)) H
theorem op_inP (hu : X.A.units + 64 < cLine) : OpR X (compareOp .In) (rInP X.K false) := fun pins s σ H x y v u Q I rx ry h => by
  obtain ⟨p, ds, d, hd, hy, ey, sd, ss, dd, q⟩ := h
  obtain ⟨as, r1⟩ := Dp.reads I d x v hd rx
  rcases hy with hy | hy
  · obtain ⟨bs, r2⟩ := Dp.reads I _ y u hy ry
    exact SeqAt.in_list_data r2 r1 ss sd (by omega) ⟨.bl _, H, I, rfl, q⟩
  · obtain ⟨bs, r2⟩ := Dp.reads I _ y u hy ry
    exact SeqAt.in_tuple_data r2 r1 ss sd (by omega) ⟨.bl _, H, I, rfl, q⟩
theorem op_ninP (hu : X.A.units + 64 < cLine) : OpR X (compareOp .NotIn) (rInP X.K true) := fun pins s σ H x y v u Q I rx ry h => by
  obtain ⟨p, ds, d, hd, hy, ey, sd, ss, dd, q⟩ := h
  obtain ⟨as, r1⟩ := Dp.reads I d x v hd rx
  rcases hy with hy | hy
  · obtain ⟨bs, r2⟩ := Dp.reads I _ y u hy ry
    exact SeqAt.notIn_list_data r2 r1 ss sd (by omega) ⟨.bl _, H, I, rfl, q⟩
  · obtain ⟨bs, r2⟩ := Dp.reads I _ y u hy ry
    exact SeqAt.notIn_tuple_data r2 r1 ss sd (by omega) ⟨.bl _, H, I, rfl, q⟩
/-- k in a dict, by values -/
def rInD (neg : Bool) : R2 := fun x y H Q => ∃ a o, y = .ref a ∧ DGet H a x o ∧ Q (.bl (if neg = true then !o.isSome else o.isSome)) H
theorem op_inD (hu : X.A.units + 64 < cLine) : OpR X (compareOp .In) (rInD false) := fun pins s σ H x y v u Q I rx ry h => by
  obtain ⟨a, o, ey, g, q⟩ := h
  subst ey
  cases ry
  exact d_in (by omega) I g rx fun s' I' => ⟨.bl _, H, I', rfl, q⟩
theorem op_ninD (hu : X.A.units + 64 < cLine) : OpR X (compareOp .NotIn) (rInD true) := fun pins s σ H x y v u Q I rx ry h => by
  obtain ⟨a, o, ey, g, q⟩ := h
  subst ey
  cases ry
  exact d_notIn (by omega) I g rx fun s' I' => ⟨.bl _, H, I', rfl, q⟩
/-- x is True, whatever x is -/
def rIsT (neg : Bool) : R2 := fun x y H Q => ∃ b : Bool, y = .bl b ∧ Q (.bl (if neg = true then !decide (x = .bl b) else decide (x = .bl b))) H
theorem relV_bl {x : V} {v : Value} {b : Bool} (r : RelV x v) : (v == Value.bool b) = decide (x = .bl b) := by
  cases x with
  | bl a =>
    have e : v = Value.bool a := r
    subst e
    by_cases h : a = b
    · subst h; simp
    · have h2 : ¬ (V.bl a = V.bl b) := fun z => h (V.bl.inj z)
      rw [decide_eq_false h2]
      exact beq_eq_false_iff_ne.mpr fun z => h (Value.bool.inj z)
  | non =>
    have e : v = Value.none := r
    subst e
    rw [decide_eq_false (fun z => by cases z)]
    exact beq_eq_false_iff_ne.mpr fun z => by cases z
  | int i =>
    obtain ⟨t, e⟩ := (show ∃ t, v = Value.int i t from r)
    subst e
    rw [decide_eq_false (fun z => by cases z)]
    exact beq_eq_false_iff_ne.mpr fun z => by cases z
  | str i =>
    obtain ⟨t, e⟩ := (show ∃ t, v = Value.str i t from r)
    subst e
    rw [decide_eq_false (fun z => by cases z)]
    exact beq_eq_false_iff_ne.mpr fun z => by cases z
  | byt i =>
    obtain ⟨t, e⟩ := (show ∃ t, v = Value.bytes i t from r)
    subst e
    rw [decide_eq_false (fun z => by cases z)]
    exact beq_eq_false_iff_ne.mpr fun z => by cases z
  | flt i =>
    obtain ⟨t, e⟩ := (show ∃ t, v = Value.float i t from r)
    subst e
    rw [decide_eq_false (fun z => by cases z)]
    exact beq_eq_false_iff_ne.mpr fun z => by cases z
  | ref a =>
    have e : v = Value.ref a := r
    subst e
    rw [decide_eq_false (fun z => by cases z)]
    exact beq_eq_false_iff_ne.mpr fun z => by cases z
  | ty n =>
    have e : v = Value.type n := r
    subst e
    rw [decide_eq_false (fun z => by cases z)]
    exact beq_eq_false_iff_ne.mpr fun z => by cases z
end
end
end Zw
set_option Elab.async false
set_option linter.all false
set_option maxRecDepth 100000
set_option maxHeartbeats 4000000
/-! Ze: the wishes of operators by values. -/
namespace Zw
open PySem PySem.Spec PyProof.Rows L2

theorem is_bl_gen {M : Model} {A : Around} {E : Value → Shared → Prop} {s : Shared} {Q : Value → Shared → Prop} {x : V} {v : Value} {b : Bool} (r : RelV x v) (h : Q (.bool (decide (x = .bl b))) s) : wpAny M A (compareOp .Is v (.bool b)) Q E s := by
  rw [← relV_bl r] at h
  cases x with
  | bl a => cases (show v = Value.bool a from r); exact wpAny_pure h
  | non => cases (show v = Value.none from r); exact wpAny_pure h
  | int i => obtain ⟨t, e⟩ := (show ∃ t, v = Value.int i t from r); cases e; exact wpAny_pure h
  | str i => obtain ⟨t, e⟩ := (show ∃ t, v = Value.str i t from r); cases e; exact wpAny_pure h
  | byt i => obtain ⟨t, e⟩ := (show ∃ t, v = Value.bytes i t from r); cases e; exact wpAny_pure h
  | flt i => obtain ⟨t, e⟩ := (show ∃ t, v = Value.float i t from r); cases e; exact wpAny_pure h
  | ref a => cases (show v = Value.ref a from r); exact wpAny_pure h
  | ty n => cases (show v = Value.type n from r); exact wpAny_pure h
theorem isnot_bl_gen {M : Model} {A : Around} {E : Value → Shared → Prop} {s : Shared} {Q : Value → Shared → Prop} {x : V} {v : Value} {b : Bool} (r : RelV x v) (h : Q (.bool (!decide (x = .bl b))) s) : wpAny M A (compareOp .IsNot v (.bool b)) Q E s := by
  rw [← relV_bl r] at h
  cases x with
  | bl a => cases (show v = Value.bool a from r); exact wpAny_pure h
  | non => cases (show v = Value.none from r); exact wpAny_pure h
  | int i => obtain ⟨t, e⟩ := (show ∃ t, v = Value.int i t from r); cases e; exact wpAny_pure h
  | str i => obtain ⟨t, e⟩ := (show ∃ t, v = Value.str i t from r); cases e; exact wpAny_pure h
  | byt i => obtain ⟨t, e⟩ := (show ∃ t, v = Value.bytes i t from r); cases e; exact wpAny_pure h
  | flt i => obtain ⟨t, e⟩ := (show ∃ t, v = Value.float i t from r); cases e; exact wpAny_pure h
  | ref a => cases (show v = Value.ref a from r); exact wpAny_pure h
  | ty n => cases (show v = Value.type n from r); exact wpAny_pure h
section
variable {X : Cx}
theorem op_isT : OpR X (compareOp .Is) (rIsT false) := fun pins s σ H x y v u Q I rx ry h => by
  obtain ⟨b, ey, q⟩ := h
  subst ey
  cases (show u = Value.bool b from ry)
  exact is_bl_gen rx ⟨.bl _, H, I, rfl, q⟩
theorem op_isntT : OpR X (compareOp .IsNot) (rIsT true) := fun pins s σ H x y v u Q I rx ry h => by
  obtain ⟨b, ey, q⟩ := h
  subst ey
  cases (show u = Value.bool b from ry)
  exact isnot_bl_gen rx ⟨.bl _, H, I, rfl, q⟩
end

section
variable {X : Cx}
theorem tuple_mul1 (l : Addr) (items : Array Value) (n : Nat) (dd : Option Addr) (sl : Array (Option Value)) (u : Tok) :
    Meets (Builtin.«tuple.__mul__» ⟨[.ref l, .int 1 u], []⟩) (fun _ R s => s.heap.get? l = some { cls := .type "tuple", dict := dd, data := .seq items n, slots := sl } ∧ R (.ok (.ret (Value.ref l))) s) :=
  .of_wp fun prog w A R s h => by
    obtain ⟨hp, g, d, tk, os⟩ := s
    obtain ⟨hl, h⟩ := h
    have f1 := AutoSeq1.idx_int
    have c1 : (items.isEmpty || (1 : Int) == 1) = true := by rw [Bool.or_eq_true]; exact .inr rfl
    wp_walk using wpAny_loadPart' hl
    repeat (first
      | (refine wpAny_ite_false (decide_eq_false (by decide)) ?_; wp_walk using wpAny_loadPart' hl)
      | (refine wpAny_ite_true (decide_eq_true c1) ?_; wp_walk using wpAny_loadPart' hl))
    exact ⟨_, rfl, h⟩
def rRepT1 (K : PySem.W.Frag) : R2 := fun x y H Q => ∃ l xs, x = .ref l ∧ y = .int 1 ∧ SqT K H l xs ∧ xs ≠ [] ∧ xs.length ≤ 1000 ∧ Q (.ref l) H
theorem op_repT1 : OpR X (binaryOp .Mult) (rRepT1 X.K) := by
  intro pins s σ H x y v u Q I rx ry h
  obtain ⟨l, xs, rfl, rfl, hT, hne, hz, q⟩ := h
  cases rx
  obtain ⟨t, rfl⟩ := ry
  obtain ⟨its, r, ⟨⟨cls, dd, data, sl⟩, ho, hc, n, hd⟩, hs⟩ := I.tuple hT
  simp only at hc hd
  subst hc hd
  refine wpAny_binaryOp_repeat_ref (T := "tuple") (U := "int") (by decide) ⟨_, ho, rfl⟩ (fun s' => typeIs_int s' 1 t) noFill_tuple_mul F.fills_int_mul F.slot_int_rmul repeat_tuple F.slot_int_index.lookup
    (call_meets F.slot_int_rmul (typeIs_int s 1 t) F.entry_int_rmul (F.args_int_rmul_2 _ _) (int_rmul_tuple 1 t l its.toArray n dd sl)
      ⟨ho, rfl, ⟨_, ho, rfl⟩, call_meets F.slot_tuple_mul ⟨_, ho, rfl⟩ F.entry_tuple_mul (F.args_tuple_mul_2 _ _) (tuple_mul1 l its.toArray n dd sl t) ⟨ho, ?_⟩⟩)
  exact ⟨.ref l, H, I, rfl, q⟩
end
def Br2 (G : GE) (r : R2) (rD : D → D → AH → DK → Prop) : Prop := ∀ (ι : List Addr) (A : AH) (H : Hp) (x y : D) (v u : V) (Q : VK) (Q0 : DK), Rep G ι A H → VR G ι H x v → VR G ι H y u → rD x y A Q0 → (∀ d A', Q0 d A' → PostV G ι H Q d A') → r v u H Q

section
variable {G : GE}
/-- a value that is told at once -/
theorem PostV.now {ι : List Addr} {H : Hp} {A : AH} {Q : VK} {d : D} {v : V} (h : PostV G ι H Q d A) (R : Rep G ι A H) (r : VR G ι H d v) : Q v H := h ι H v .refl R r
theorem PostG.now {α : Type} {ι : List Addr} {H : Hp} {A : AH} {Q : α → Hp → Prop} {d : α} (h : PostG G ι H Q d A) (R : Rep G ι A H) : Q d H := h ι H .refl R

theorem br_add : Br2 G (fun x y H Q => rI0 (fun i j => .int (i + j)) x y H Q ∨ (rCat x y H Q ∨ rCatA G.K x y H Q)) (binP .add) := by
  intro ι A H x y v u Q Q0 R rx ry h k
  cases x with
  | int i =>
    cases y with
    | int j => exact .inl ⟨i, j, rx.int, ry.int, (k _ _ h).now R .mkInt⟩
    | _ => exact (show False from h).elim
  | ref i =>
    cases y with
    | ref j =>
      obtain ⟨xs, e1, h⟩ := opt_some h
      obtain ⟨ys, e2, hl, h⟩ := opt_some h
      obtain ⟨a, ea, ha⟩ := rx.ref
      obtain ⟨b, eb, hb⟩ := ry.ref
      obtain ⟨vs, q1, r1⟩ := R.lst ha (cellW_at e1)
      obtain ⟨us, q2, r2⟩ := R.lst hb (cellW_at e2)
      refine .inr (.inl ⟨a, b, vs, us, ea, eb, q1, q2, ?_, (k _ _ h).lst R (r1.append r2)⟩)
      rw [← r1.len, ← r2.len]; exact lim_line hl
    | _ => exact (show False from h).elim
  | tup xs =>
    cases y with
    | tup ys =>
      obtain ⟨hl, h⟩ := h
      obtain ⟨a, vs, ea, q1, r1⟩ := rx.tup
      obtain ⟨b, us, eb, q2, r2⟩ := ry.tup
      refine .inr (.inr ⟨a, b, vs, us, ea, eb, q1, q2, ?_, fun z => ?_, fun z z2 => ?_, fun _ _ => (k _ _ h).tup R (r1.append r2)⟩)
      · rw [← r1.len, ← r2.len]; exact lim_line hl
      · subst z
        have e0 : xs = [] := List.eq_nil_of_length_eq_zero r1.len
        subst e0
        rw [List.nil_append] at h
        exact (k _ _ h).now R (by rw [eb] at ry; exact ry)
      · subst z2
        have e0 : ys = [] := List.eq_nil_of_length_eq_zero r2.len
        subst e0
        rw [List.append_nil] at h
        exact (k _ _ h).now R (by rw [ea] at rx; exact rx)
    | _ => exact (show False from h).elim
  | _ => exact (show False from h).elim
/-- ints alone -/
theorem br_int {r : R2} {o : OP} (f : Int → Int → Prop) (g : Int → Int → V) (g' : Int → Int → D) (hv : ∀ i j (ι : List Addr) (H : Hp), VR G ι H (g' i j) (g i j))
    (hr : ∀ i j H Q, f i j → Q (g i j) H → r (.int i) (.int j) H Q) (ho : ∀ x y A Q, binP o x y A Q → ∃ i j, x = .int i ∧ y = .int j ∧ f i j ∧ Q (g' i j) A) : Br2 G r (binP o) := by
  intro ι A H x y v u Q Q0 R rx ry h k
  obtain ⟨i, j, ex, ey, hf, q⟩ := ho x y A Q0 h
  subst ex ey
  rw [rx.int, ry.int]
  exact hr i j H Q hf ((k _ _ q).now R (hv i j ι H))
theorem br_sub : Br2 G (rI0 fun i j => .int (i - j)) (binP .sub) := br_int (fun _ _ => True) (fun i j => .int (i - j)) (fun i j => .int (i - j)) (fun _ _ _ _ => .mkInt) (fun i j H Q _ q => ⟨i, j, rfl, rfl, q⟩) fun x y A Q h => by
  cases x <;> cases y <;> first | exact (show False from h).elim | exact ⟨_, _, rfl, rfl, True.intro, h⟩
theorem VRs.rep {ι : List Addr} {H : Hp} {xs : List D} {vs : List V} (r : VRs G ι H xs vs) : ∀ n : Nat, VRs G ι H (List.replicate n xs).flatten (List.replicate n vs).flatten
  | 0 => VRs.nil
  | n + 1 => by
    rw [List.replicate_succ, List.replicate_succ, List.flatten_cons, List.flatten_cons]
    exact r.append (VRs.rep r n)
theorem br_mul : Br2 G (fun x y H Q => rI CMul (fun i j => .int (i * j)) x y H Q ∨ (rRep x y H Q ∨ (rRepT G.K x y H Q ∨ rRepT1 G.K x y H Q))) (binP .mul) := by
  intro ι A H x y v u Q Q0 R rx ry h k
  cases x with
  | int i =>
    cases y with
    | int j =>
      obtain ⟨c, h⟩ := h
      exact .inl ⟨i, j, rx.int, ry.int, c, (k _ _ h).now R .mkInt⟩
    | _ => exact (show False from h).elim
  | ref i =>
    cases y with
    | int j =>
      obtain ⟨xs, e1, ⟨c1, c2, hl⟩, h⟩ := opt_some h
      obtain ⟨a, ea, ha⟩ := rx.ref
      obtain ⟨vs, q1, r1⟩ := R.lst ha (cellW_at e1)
      refine .inr (.inl ⟨a, j, vs, ea, ry.int, q1, by omega, by omega, ?_, (k _ _ h).lst R (r1.rep _)⟩)
      rw [← r1.len]; exact lim_line hl
    | _ => exact (show False from h).elim
  | tup xs =>
    cases y with
    | int j =>
      obtain ⟨⟨c1, c2, c3, c4⟩, h⟩ := h
      obtain ⟨a, vs, ea, q1, r1⟩ := rx.tup
      have ne : vs ≠ [] := fun z => c1 (List.eq_nil_of_length_eq_zero (by rw [r1.len, z]; rfl))
      by_cases h1 : j = 1
      · subst h1
        have e1 : (List.replicate (1 : Int).toNat xs).flatten = xs := by simp
        rw [e1] at h
        exact .inr (.inr (.inr ⟨a, vs, ea, ry.int, q1, ne, by rw [← r1.len]; exact c4, (k _ _ h).now R (by rw [ea] at rx; exact rx)⟩))
      · exact .inr (.inr (.inl ⟨a, j, vs, ea, ry.int, q1, ne, by omega, c3, by rw [← r1.len]; exact c4, (k _ _ h).tup R (r1.rep _)⟩))
    | _ => exact (show False from h).elim
  | _ => cases y <;> exact (show False from h).elim
theorem op_fdivW {X : Cx} : OpR X (binaryOp .FloorDiv) (rI CDivW fun i j => .int (i.fdiv j)) := opI fun i j _ _ _ _ _ hc q => floordiv_int hc.1 q (.inl (PyProof.noPylong_of_log2 (by
  have h1 : j.natAbs ≠ 0 := by have := hc.1; omega
  have := (Nat.log2_lt h1).mpr (show j.natAbs < 2 ^ 64 from hc.2)
  omega)))
theorem br_fdiv : Br2 G (rI CDivW fun i j => .int (i.fdiv j)) (binP .fdiv) := br_int CDivW (fun i j => .int (i.fdiv j)) (fun i j => .int (i.fdiv j)) (fun _ _ _ _ => .mkInt) (fun i j H Q c q => ⟨i, j, rfl, rfl, c, q⟩) fun x y A Q h => by
  cases x <;> cases y <;> first | exact (show False from h).elim | exact ⟨_, _, rfl, rfl, h.1, h.2⟩
theorem br_mod : Br2 G (rI (fun _ j => j ≠ 0) fun i j => .int (i.fmod j)) (binP .mod) := br_int (fun _ j => j ≠ 0) (fun i j => .int (i.fmod j)) (fun i j => .int (i.fmod j)) (fun _ _ _ _ => .mkInt) (fun i j H Q c q => ⟨i, j, rfl, rfl, c, q⟩) fun x y A Q h => by
  cases x <;> cases y <;> first | exact (show False from h).elim | exact ⟨_, _, rfl, rfl, h.1, h.2⟩
theorem br_pow : Br2 G (rI CPow fun i j => .int (i ^ j.toNat)) (binP .pow) := br_int CPow (fun i j => .int (i ^ j.toNat)) (fun i j => .int (i ^ j.toNat)) (fun _ _ _ _ => .mkInt) (fun i j H Q c q => ⟨i, j, rfl, rfl, c, q⟩) fun x y A Q h => by
  cases x <;> cases y <;> first | exact (show False from h).elim | exact ⟨_, _, rfl, rfl, h.1, h.2⟩

/-! ### comparisons: the answer is a bool -/
/-- by values: the answer k -/
def Brc (G : GE) (r : R2) (o : CO) : Prop := ∀ (ι : List Addr) (A : AH) (H : Hp) (x y : D) (v u : V) (Q : VK) (k0 : Bool → Prop), Rep G ι A H → VR G ι H x v → VR G ι H y u → cmpP o x y A k0 → (∀ b, k0 b → Q (.bl b) H) → r v u H Q
theorem lenNe_V {ι : List Addr} {A : AH} {H : Hp} {x y : D} {v u : V} (R : Rep G ι A H) (rx : VR G ι H x v) (ry : VR G ι H y u) (h : lenNe A x y = true) :
    ∃ p q vs us, v = .ref p ∧ u = .ref q ∧ SqL G.K H p vs ∧ SqL G.K H q us ∧ vs.length ≠ us.length := by
  cases x with
  | ref i =>
    cases y with
    | ref j =>
      unfold lenNe at h
      cases e1 : cellL A i with
      | none => simp [e1] at h
      | some xs =>
        cases e2 : cellL A j with
        | none => simp [e1, e2] at h
        | some ys =>
          simp only [e1, e2] at h
          obtain ⟨a, ev, hi⟩ := rx.ref
          obtain ⟨b, eu, hj⟩ := ry.ref
          obtain ⟨vs, h1, r1⟩ := R.sqL hi e1
          obtain ⟨us, h2, r2⟩ := R.sqL hj e2
          refine ⟨a, b, vs, us, ev, eu, h1, h2, ?_⟩
          rw [← r1.len, ← r2.len]
          exact bne_iff_ne.mp h
    | _ => cases h
  | _ => cases h
theorem br_eq : Brc G (fun x y H Q => rEqP G.K x y H Q ∨ rLnP G.K false x y H Q) .eq := by
  intro ι A H x y v u Q k0 R rx ry h k
  have h : eqP A x y k0 := h
  unfold eqP at h
  split at h
  · rename_i hl
    obtain ⟨p, q, vs, us, ev, eu, h1, h2, hn⟩ := lenNe_V R rx ry hl
    exact .inr ⟨p, q, vs, us, ev, eu, h1, h2, hn, k _ h⟩
  · obtain ⟨p, e1, h⟩ := opt_some h
    obtain ⟨q, e2, h⟩ := opt_some h
    obtain ⟨a1, a2⟩ := toP_dp R _ _ _ _ e1 rx
    obtain ⟨b1, b2⟩ := toP_dp R _ _ _ _ e2 ry
    exact .inl ⟨p, q, a1, b1, a2, b2, toP_depth _ _ _ e1, k _ h⟩
theorem br_ne : Brc G (fun x y H Q => rNeP G.K x y H Q ∨ rLnP G.K true x y H Q) .ne := by
  intro ι A H x y v u Q k0 R rx ry h k
  have h : eqP A x y (fun b => k0 (!b)) := h
  unfold eqP at h
  split at h
  · rename_i hl
    obtain ⟨p, q, vs, us, ev, eu, h1, h2, hn⟩ := lenNe_V R rx ry hl
    exact .inr ⟨p, q, vs, us, ev, eu, h1, h2, hn, k _ h⟩
  · obtain ⟨p, e1, h⟩ := opt_some h
    obtain ⟨q, e2, h⟩ := opt_some h
    obtain ⟨a1, a2⟩ := toP_dp R _ _ _ _ e1 rx
    obtain ⟨b1, b2⟩ := toP_dp R _ _ _ _ e2 ry
    exact .inl ⟨p, q, a1, b1, a2, b2, toP_depth _ _ _ e1, k _ h⟩
theorem br_lt : Brc G (rI0 fun i j => .bl (decide (i < j))) .lt := by
  intro ι A H x y v u Q k0 R rx ry h k
  cases x <;> cases y <;> first | exact (show False from h).elim | exact ⟨_, _, rx.int, ry.int, k _ h⟩
theorem br_le : Brc G (rI0 fun i j => .bl (decide (i ≤ j))) .le := by
  intro ι A H x y v u Q k0 R rx ry h k
  cases x <;> cases y <;> first | exact (show False from h).elim | exact ⟨_, _, rx.int, ry.int, k _ h⟩
theorem br_gt : Brc G (rI0 fun i j => .bl (decide (j < i))) .gt := by
  intro ι A H x y v u Q k0 R rx ry h k
  cases x <;> cases y <;> first | exact (show False from h).elim | exact ⟨_, _, rx.int, ry.int, k _ h⟩
theorem br_ge : Brc G (rI0 fun i j => .bl (decide (j ≤ i))) .ge := by
  intro ι A H x y v u Q k0 R rx ry h k
  cases x <;> cases y <;> first | exact (show False from h).elim | exact ⟨_, _, rx.int, ry.int, k _ h⟩
/-- None stands for None alone -/
theorem VR.nonB {ι : List Addr} {H : Hp} {x : D} {v : V} (r : VR G ι H x v) : decide (v = .non) = isNon x := by
  cases x with
  | non => rw [r.non]; rfl
  | bl b => rw [r.bl]; rfl
  | int b => rw [r.int]; rfl
  | str b => rw [r.str]; rfl
  | ty n => unfold VR at r; rw [r]; rfl
  | fn k => rw [r.fn]; rfl
  | ref i => obtain ⟨a, e, _⟩ := r.ref; rw [e]; rfl
  | tup ds => obtain ⟨a, _, e, _⟩ := r.tup; rw [e]; rfl
  | rol ds => obtain ⟨a, _, e, _⟩ := r.rol; rw [e]; rfl
  | tux ds => obtain ⟨a, _, e, _⟩ := r.tuxT; rw [e]; rfl
  | lam k => unfold VR at r; obtain ⟨a, c', e, _⟩ := r; rw [e]; rfl
  | exc c p => unfold VR at r; obtain ⟨a, d, e, _⟩ := r; rw [e]; rfl
theorem VR.blB {ι : List Addr} {H : Hp} {x : D} {v : V} {b : Bool} (r : VR G ι H x v) : decide (v = .bl b) = isBlD b x := by
  cases x with
  | non => rw [r.non]; rfl
  | bl a => rw [r.bl]; by_cases h : a = b <;> simp [h, isBlD]
  | int b => rw [r.int]; rfl
  | str b => rw [r.str]; rfl
  | ty n => unfold VR at r; rw [r]; rfl
  | fn k => rw [r.fn]; rfl
  | ref i => obtain ⟨a, e, _⟩ := r.ref; rw [e]; rfl
  | tup ds => obtain ⟨a, _, e, _⟩ := r.tup; rw [e]; rfl
  | rol ds => obtain ⟨a, _, e, _⟩ := r.rol; rw [e]; rfl
  | tux ds => obtain ⟨a, _, e, _⟩ := r.tuxT; rw [e]; rfl
  | lam k => unfold VR at r; obtain ⟨a, c', e, _⟩ := r; rw [e]; rfl
  | exc c p => unfold VR at r; obtain ⟨a, d, e, _⟩ := r; rw [e]; rfl
theorem br_is : Brc G (fun x y H Q => (y = .non ∧ Q (.bl (decide (x = .non))) H) ∨ rIsT false x y H Q) .is := by
  intro ι A H x y v u Q k0 R rx ry h k
  cases y with
  | non => exact .inl ⟨ry.non, by rw [rx.nonB]; exact k _ h⟩
  | bl b => exact .inr ⟨b, ry.bl, by show Q (.bl (decide (v = .bl b))) H; rw [rx.blB]; exact k _ h⟩
  | _ => exact (show False from h).elim
theorem br_isnot : Brc G (fun x y H Q => (y = .non ∧ Q (.bl (!decide (x = .non))) H) ∨ rIsT true x y H Q) .isnot := by
  intro ι A H x y v u Q k0 R rx ry h k
  cases y with
  | non => exact .inl ⟨ry.non, by rw [rx.nonB]; exact k _ h⟩
  | bl b => exact .inr ⟨b, ry.bl, by show Q (.bl (!decide (v = .bl b))) H; rw [rx.blB]; exact k _ h⟩
  | _ => exact (show False from h).elim
/-- membership in a list or a tuple -/
theorem in_items {ι : List Addr} {A : AH} {H : Hp} {x y : D} {v u : V} {k0 : Bool → Prop} {neg : Bool} {Q : VK} (R : Rep G ι A H) (rx : VR G ι H x v) (ry : VR G ι H y u)
    (h : opt (itemsD A y) fun xs => opt (toP A 12 x) fun p => opt (xs.mapM (toP A 12)) fun ps => k0 (if neg = true then !(ps.any fun q => PyData.eqv q p) else ps.any fun q => PyData.eqv q p))
    (k : ∀ b, k0 b → Q (.bl b) H) : rInP G.K neg v u H Q := by
  obtain ⟨xs, e1, h⟩ := opt_some h
  obtain ⟨p, e2, h⟩ := opt_some h
  obtain ⟨ps, e3, h⟩ := opt_some h
  obtain ⟨a1, a2⟩ := toP_dp R _ _ _ _ e2 rx
  obtain ⟨a, vs, eu, hs, rs⟩ := R.items ry e1
  obtain ⟨b1, b2⟩ := toPs_dp R _ _ _ _ e3 rs
  refine ⟨a, ps, p, a1, ?_, eu, a2, b2, toP_depth _ _ _ e2, k _ h⟩
  rw [eu]
  exact hs.imp (fun q => .lst q b1) (fun q => .tup q b1)
theorem in_dict {ι : List Addr} {A : AH} {H : Hp} {x : D} {i : Nat} {kvs : List (Key × D)} {v u : V} {k0 : Bool → Prop} {neg : Bool} {Q : VK} (R : Rep G ι A H) (rx : VR G ι H x v) (ry : VR G ι H (.ref i) u) (hA : A[i]? = some (.dct kvs))
    (h : opt (keyD x) fun key => k0 (if neg = true then !(valD kvs key).isSome else (valD kvs key).isSome))
    (k : ∀ b, k0 b → Q (.bl b) H) : rInD neg v u H Q := by
  obtain ⟨key, e1, h⟩ := opt_some h
  obtain ⟨a, eu, hi⟩ := ry.ref
  obtain ⟨ws, q, rk⟩ := R.dct hi hA
  obtain ⟨c1, c2⟩ := rk.val key
  refine ⟨a, valV ws key, eu, ?_, ?_⟩
  · rw [keyD_V e1 rx]; exact DGet.k q
  · have e2 : (valV ws key).isSome = (valD kvs key).isSome := by
      cases e : valD kvs key with
      | none => rw [c2 e]; rfl
      | some d => obtain ⟨w, ew, _⟩ := c1 d e; rw [ew]; rfl
    rw [e2]
    exact k _ h
theorem br_in : Brc G (fun x y H Q => rInP G.K false x y H Q ∨ rInD false x y H Q) .inn := by
  intro ι A H x y v u Q k0 R rx ry h k
  cases y with
  | ref i =>
    cases e : A[i]? with
    | none =>
      refine .inl (in_items R rx ry (neg := false) (k0 := k0) ?_ k)
      have h' := h
      unfold cmpP at h'
      simp only [e] at h'
      exact h'
    | some c =>
      cases c with
      | dct kvs =>
        refine .inr (in_dict R rx ry e (k0 := k0) ?_ k)
        have h' := h
        unfold cmpP at h'
        simp only [e] at h'
        exact h'
      | _ =>
        refine .inl (in_items R rx ry (neg := false) (k0 := k0) ?_ k)
        have h' := h
        unfold cmpP at h'
        simp only [e] at h'
        exact h'
  | _ => exact .inl (in_items R rx ry (neg := false) (k0 := k0) h k)
theorem br_notin : Brc G (fun x y H Q => rInP G.K true x y H Q ∨ rInD true x y H Q) .notin := by
  intro ι A H x y v u Q k0 R rx ry h k
  cases y with
  | ref i =>
    cases e : A[i]? with
    | none =>
      refine .inl (in_items R rx ry (neg := true) (k0 := k0) ?_ k)
      have h' := h
      unfold cmpP at h'
      simp only [e] at h'
      exact h'
    | some c =>
      cases c with
      | dct kvs =>
        refine .inr (in_dict R rx ry e (k0 := k0) ?_ k)
        have h' := h
        unfold cmpP at h'
        simp only [e] at h'
        exact h'
      | _ =>
        refine .inl (in_items R rx ry (neg := true) (k0 := k0) ?_ k)
        have h' := h
        unfold cmpP at h'
        simp only [e] at h'
        exact h'
  | _ => exact .inl (in_items R rx ry (neg := true) (k0 := k0) h k)
/-! ### subscripts -/
def rDG : R2 := fun x y H Q => ∃ a v, x = .ref a ∧ DGet H a y (some v) ∧ Q v H
theorem atI_VRs {ι : List Addr} {H : Hp} {ds : List D} {vs : List V} {j : Int} {d : D} (r : VRs G ι H ds vs) (h : atI ds j = some d) : ∃ v, atI vs j = some v ∧ VR G ι H d v := by
  unfold atI at h ⊢
  rw [r.len] at h
  cases e : ixN vs.length j with
  | none => rw [e] at h; cases h
  | some i =>
    rw [e] at h
    exact VRs.get r h
theorem br_idx : Br2 G (fun x y H Q => rIxL G.K x y H Q ∨ (rIxT G.K x y H Q ∨ rDG x y H Q)) idxP := by
  intro ι A H x y v u Q Q0 R rx ry h k
  cases x with
  | tup ds =>
    cases y with
    | int j =>
      obtain ⟨d, e, h⟩ := opt_some h
      obtain ⟨a, vs, ev, q, r⟩ := rx.tup
      obtain ⟨w, ew, rw_⟩ := atI_VRs r e
      exact .inr (.inl ⟨a, vs, j, w, ev, ry.int, q, ew, (k _ _ h).now R rw_⟩)
    | _ => exact (show False from h).elim
  | rol ds =>
    cases y with
    | int j =>
      obtain ⟨d, e, h⟩ := opt_some h
      obtain ⟨a, vs, ev, q, r⟩ := rx.rol
      obtain ⟨w, ew, rw_⟩ := atI_VRs r e
      exact .inl ⟨a, vs, j, w, ev, ry.int, q.l, ew, (k _ _ h).now R rw_⟩
    | _ => exact (show False from h).elim
  | ref i =>
    obtain ⟨a, ev, hi⟩ := rx.ref
    unfold idxP at h
    cases e : A[i]? with
    | none => simp only [e] at h
    | some c =>
      cases c with
      | lst xs =>
        simp only [e] at h
        cases y with
        | int j =>
          obtain ⟨d, e1, h⟩ := opt_some h
          obtain ⟨vs, q, r⟩ := R.lst hi e
          obtain ⟨w, ew, rw_⟩ := atI_VRs r e1
          exact .inl ⟨a, vs, j, w, ev, ry.int, .of q, ew, (k _ _ h).now R rw_⟩
        | _ => exact (show False from h).elim
      | ro xs =>
        simp only [e] at h
        cases y with
        | int j =>
          obtain ⟨d, e1, h⟩ := opt_some h
          obtain ⟨vs, q, r⟩ := R.ro hi e
          obtain ⟨w, ew, rw_⟩ := atI_VRs r e1
          exact .inl ⟨a, vs, j, w, ev, ry.int, q, ew, (k _ _ h).now R rw_⟩
        | _ => exact (show False from h).elim
      | dct kvs =>
        simp only [e] at h
        obtain ⟨key, e1, h⟩ := opt_some h
        obtain ⟨d, e2, h⟩ := opt_some h
        obtain ⟨ws, q, r⟩ := R.dct hi e
        obtain ⟨w, ew, rw_⟩ := (r.val key).1 d e2
        exact .inr (.inr ⟨a, w, ev, by rw [keyD_V e1 ry, ← ew]; exact DGet.k q, (k _ _ h).now R rw_⟩)
  | _ => exact (show False from h).elim
end
end Zw
set_option Elab.async false
set_option linter.all false
set_option maxRecDepth 100000
set_option maxHeartbeats 4000000
/-! Zf: which tree an expression of the text is; the wishes of expressions. -/
namespace Zw
open PySem PySem.Spec PyProof.Rows L2

def notStar : Expr → Bool
  | .Starred _ _ => false
  | _ => true
theorem star_cons {e : Expr} {es : List Expr} {env : Env} (h : notStar e = true) : starEach (e :: es) env = (false, eval e env) :: starEach es env := by
  cases e <;> first | rfl | cases h
theorem star_plain {pos : Pos} {env : Env} : ∀ {es : List Expr}, es.all notStar = true → (backTo pos (starEach es env)).any (·.1) = false
  | [], _ => rfl
  | e :: es, h => by
    rw [List.all_cons, Bool.and_eq_true] at h
    rw [star_cons h.1]
    show (false || (backTo pos (starEach es env)).any (·.1)) = false
    rw [star_plain h.2]; rfl
theorem star_allno {pos : Pos} {env : Env} : ∀ {es : List Expr}, es.all notStar = true → (backTo pos (starEach es env)).all (fun x => !x.1) = true
  | [], _ => rfl
  | e :: es, h => by
    rw [List.all_cons, Bool.and_eq_true] at h
    rw [star_cons h.1]
    show (!false && (backTo pos (starEach es env)).all (fun x => !x.1)) = true
    rw [star_allno h.2]; rfl
/-- what tests itself by its truth -/
def plainT : Expr → Bool
  | .UnaryOp .Not _ _ | .BoolOp _ _ _ | .IfExp _ _ _ _ | .Compare _ _ _ _ => false
  | _ => true
theorem plainT_of {e : Expr} {env : Env} (h : plainT e = true) (whole : Sem Value) : isTrue e env whole = (do let v ← whole; standAt e.pos; holding [v] (truthy v)) := by
  cases e with
  | UnaryOp o x p => cases o <;> first | rfl | cases h
  | BoolOp o x p => cases h
  | IfExp a b c p => cases h
  | Compare a b c p => cases h
  | _ => rfl
def notSet : Expr → Bool
  | .Set _ _ _ => false
  | _ => true
theorem nomarks {op : CmpOp} {b : Expr} (h : notSet b = true) : behindInMarks op b = false := by
  cases b <;> first | rfl | cases h
theorem nofold {e : Expr} {env : Env} (h : notSet e = true) (x : Value) : foldedSetIterable e env x = pure x := by
  cases e <;> first | rfl | cases h
def notSlice : Expr → Bool
  | .Slice _ _ _ _ => false
  | _ => true
theorem plainIx {b : Expr} (h : notSlice b = true) : PlainIx b := fun o i => by
  cases b <;> first | rfl | cases h
def notSuper : Expr → Bool
  | .Call _ _ _ _ => false
  | _ => true
theorem plainBase {o : Expr} {m : Str} {env : Env} {wh : Sem Value} (h : notSuper o = true) : attributeBase o m env wh = wh := by
  cases o <;> first | rfl | cases h

section
variable {G : GE} {X : Cx} {W : WX} {e : Expr}
theorem le_op2 {r : R2} {rD : D → D → AH → DK → Prop} {ta tb : WE} (h : PE X e (tOp r (LE G W ta) (LE G W tb))) (br : Br2 G r rD) :
    PE X e (LE G W (fun δ A Q Z => ta δ A (fun x A1 => tb δ A1 (fun y A2 => rD x y A2 Q) Z) Z)) :=
  PE.weak h fun σ H Q ⟨ι, A, δ, Q0, E0, R, S, t, kQ, kE⟩ => ⟨ι, A, δ, _, E0, R, S, t, fun x A1 h1 ι1 H1 v s1 R1 r1 =>
    ⟨ι1, A1, δ, _, E0, R1, S.mono s1, h1, fun y A2 h2 ι2 H2 u s2 R2 r2 => br ι2 A2 H2 x y v u Q Q0 R2 (VR.mono s2 _ _ r1) r2 h2 (fun d A' q => (kQ d A' q).stp (s1.trans s2)), fun c p A' q => (kE c p A' q).stp s1⟩, kE⟩
theorem le_cmp {r : R2} {o : CO} {ta tb : WE} (h : PE X e (tOp r (LE G W ta) (LE G W tb))) (br : Brc G r o) :
    PE X e (LE G W (fun δ A Q Z => ta δ A (fun x A1 => tb δ A1 (fun y A2 => cmpP o x y A2 fun k => Q (.bl k) A2) Z) Z)) :=
  le_op2 (rD := fun x y A Q => cmpP o x y A fun k => Q (.bl k) A) h fun ι A H x y v u Q Q0 R rx ry h k => br ι A H x y v u Q (fun b => Q0 (.bl b) A) R rx ry h fun b q => (k _ _ q).now R .mkBl
theorem lt_cmp {r : R2} {o : CO} {ta tb : WE} (h : PT X e (tTest (tOp r (LE G W ta) (LE G W tb)))) (br : Brc G r o) :
    PT X e (LT G W (fun δ A Q Z => ta δ A (fun x A1 => tb δ A1 (fun y A2 => cmpP o x y A2 fun k => Q k A2) Z) Z)) :=
  PT.weak h fun σ H Q ⟨ι, A, δ, Q0, E0, R, S, t, kQ, kE⟩ => ⟨ι, A, δ, _, E0, R, S, t, fun x A1 h1 ι1 H1 v s1 R1 r1 =>
    ⟨ι1, A1, δ, _, E0, R1, S.mono s1, h1, fun y A2 h2 ι2 H2 u s2 R2 r2 => br ι2 A2 H2 x y v u (fun z H' => ∃ k, z = .bl k ∧ Q k H') (fun b => Q0 b A2) R2 (VR.mono s2 _ _ r1) r2 h2
      (fun b q => ⟨b, rfl, ((kQ b A2 q).stp (s1.trans s2)).now R2⟩), fun c p A' q => (kE c p A' q).stp s1⟩, kE⟩
/-- a value at once -/
theorem le_c {v : V} {d : D} (h : PE X e (tC v)) (hv : ∀ ι H, VR G ι H d v) : PE X e (LE G W (fun _ A Q _ => Q d A)) :=
  PE.weak h fun σ H Q ⟨ι, A, δ, Q0, E0, R, S, t, kQ, kE⟩ => (kQ _ _ t).now R (hv ι H)
theorem le_var {i : Nat} (h : PE X e (tVar i)) : PE X e (LE G W (fun δ A Q _ => opt (getS δ i) fun d => Q d A)) :=
  PE.weak h fun σ H Q ⟨ι, A, δ, Q0, E0, R, S, t, kQ, kE⟩ => by
    obtain ⟨d, e1, q⟩ := opt_some t
    have e2 : δ[i]? = some (some d) := by
      unfold getS at e1
      split at e1
      · rename_i z; cases e1; exact z
      · cases e1
    obtain ⟨v, e3, r⟩ := S.2 i d e2
    exact ⟨v, e3, (kQ _ _ q).now R r⟩
theorem le_tup {t : DSt → AH → (List D → AH → Prop) → DX → Prop} (h : PE X e (tTup (LA G W t))) : PE X e (LE G W (fun δ A Q Z => t δ A (fun ds A1 => ds.length ≤ LIM ∧ Q (.tup ds) A1) Z)) :=
  PE.weak h fun σ H Q ⟨ι, A, δ, Q0, E0, R, S, t, kQ, kE⟩ => ⟨ι, A, δ, _, E0, R, S, t, fun ds A1 ⟨hl, q⟩ ι1 H1 vs s1 R1 r1 => ⟨by rw [← r1.len]; exact lim_line hl, ((kQ _ _ q).stp s1).tup R1 r1⟩, kE⟩
theorem le_lst {t : DSt → AH → (List D → AH → Prop) → DX → Prop} (h : PE X e (tLst (LA G W t))) : PE X e (LE G W (fun δ A Q Z => t δ A (fun ds A1 => ds.length ≤ LIM ∧ Q (.ref A1.length) (A1 ++ [.lst ds])) Z)) :=
  PE.weak h fun σ H Q ⟨ι, A, δ, Q0, E0, R, S, t, kQ, kE⟩ => ⟨ι, A, δ, _, E0, R, S, t, fun ds A1 ⟨hl, q⟩ ι1 H1 vs s1 R1 r1 => ⟨by rw [← r1.len]; exact lim_line hl, ((kQ _ _ q).stp s1).lst R1 r1⟩, kE⟩
theorem la_nil : PA X [] (LA G W fun _ A Q _ => Q [] A) := PA.weak pa_nil fun σ H Q ⟨ι, A, δ, Q0, E0, R, S, t, kQ, kE⟩ => kQ _ _ t ι H [] .refl R VRs.nil
theorem la_cons {es : List Expr} {ta : WE} {t : DSt → AH → (List D → AH → Prop) → DX → Prop} (ns : notStar e = true) (h : PE X e (LE G W ta)) (hr : PA X es (LA G W t)) :
    PA X (e :: es) (LA G W fun δ A Q Z => ta δ A (fun x A1 => t δ A1 (fun xs A2 => Q (x :: xs) A2) Z) Z) :=
  PA.weak (pa_cons h hr (star_cons ns)) fun σ H Q ⟨ι, A, δ, Q0, E0, R, S, t, kQ, kE⟩ => ⟨ι, A, δ, _, E0, R, S, t, fun x A1 h1 ι1 H1 v s1 R1 r1 =>
    ⟨ι1, A1, δ, _, E0, R1, S.mono s1, h1, fun xs A2 h2 ι2 H2 vs s2 R2 r2 => ((kQ _ _ h2).stp s1) ι2 H2 (v :: vs) s2 R2 (.cons (VR.mono s2 _ _ r1) r2), fun c p A' q => (kE c p A' q).stp s1⟩, kE⟩
theorem le_neg {ta : WE} (h : PE X e (tUn (rU fun i => .int (-i)) (LE G W ta))) : PE X e (LE G W (fun δ A Q Z => ta δ A (fun x A1 => match x with | .int i => Q (.int (-i)) A1 | _ => False) Z)) :=
  PE.weak h fun σ H Q ⟨ι, A, δ, Q0, E0, R, S, t, kQ, kE⟩ => ⟨ι, A, δ, _, E0, R, S, t, fun x A1 h1 ι1 H1 v s1 R1 r1 => by
    cases x with
    | int i => exact ⟨i, r1.int, ((kQ _ _ h1).stp s1).now R1 .mkInt⟩
    | _ => exact (show False from h1).elim, kE⟩
/-- truth -/
theorem truP_V {ι : List Addr} {A : AH} {H : Hp} {x : D} {v : V} {k : Bool → Prop} {Q : Bool → Hp → Prop} (R : Rep G ι A H) (r : VR G ι H x v) (h : truP A x k) (hk : ∀ b, k b → Q b H) : ∃ b, TruV G.K v H b ∧ Q b H := by
  cases x with
  | bl b => rw [r.bl]; exact ⟨b, rfl, hk _ h⟩
  | int i => rw [r.int]; exact ⟨_, rfl, hk _ h⟩
  | non => rw [r.non]; exact ⟨false, rfl, hk _ h⟩
  | tup ds =>
    obtain ⟨a, vs, e, q, z⟩ := r.tup
    rw [e]
    refine ⟨_, .inr (.inl ⟨vs, q, rfl⟩), ?_⟩
    have e2 : vs.isEmpty = ds.isEmpty := by
      have := z.len
      cases ds <;> cases vs <;> first | rfl | simp at this
    rw [e2]; exact hk _ h
  | ref i =>
    obtain ⟨a, e, hi⟩ := r.ref
    rw [e]
    unfold truP at h
    cases e1 : A[i]? with
    | none => simp only [e1] at h
    | some c =>
      cases c with
      | lst xs =>
        simp only [e1] at h
        obtain ⟨vs, q, z⟩ := R.lst hi e1
        refine ⟨_, .inl ⟨vs, .of q, rfl⟩, ?_⟩
        have e2 : vs.isEmpty = xs.isEmpty := by
          have := z.len
          cases xs <;> cases vs <;> first | rfl | simp at this
        rw [e2]; exact hk _ h
      | dct xs =>
        simp only [e1] at h
        obtain ⟨vs, q, z⟩ := R.dct hi e1
        refine ⟨_, .inr (.inr ⟨vs, q, rfl⟩), ?_⟩
        have e2 : vs.isEmpty = xs.isEmpty := by
          have := z.len
          cases xs <;> cases vs <;> first | rfl | simp at this
        rw [e2]; exact hk _ h
      | ro xs => simp only [e1] at h
  | _ => exact (show False from h).elim
end
end Zw
set_option Elab.async false
set_option linter.all false
set_option maxRecDepth 100000
set_option maxHeartbeats 4000000
/-! Zg: tests, chains, slices, built-ins, methods. -/
namespace Zw
open PySem PySem.Spec PyProof.Rows L2
section
variable {G : GE} {X : Cx} {W : WX} {e : Expr}
/-- a test by its value's truth -/
theorem lt_of {t : WE} (h : PE X e (LE G W t)) (hK : X.K = G.K) (hp : plainT e = true) : PT X e (LT G W (asT t)) :=
  PT.weak (pt_truth h (fun w => plainT_of hp w)) fun σ H Q ⟨ι, A, δ, Q0, E0, R, S, t, kQ, kE⟩ => ⟨ι, A, δ, _, E0, R, S, t, fun x A1 h1 ι1 H1 v s1 R1 r1 => by
    rw [hK]
    exact truP_V R1 r1 h1 fun b q => ((kQ b _ q).stp s1).now R1, kE⟩
theorem lt_not {ta : WT} (h : PT X e (LT G W ta)) {pos : Pos} : PT X (.UnaryOp .Not e pos) (LT G W fun δ A Q Z => ta δ A (fun k A1 => Q (!k) A1) Z) :=
  PT.weak (pt_not h) fun σ H Q ⟨ι, A, δ, Q0, E0, R, S, t, kQ, kE⟩ => ⟨ι, A, δ, _, E0, R, S, t, fun b A1 q => kQ _ _ q, kE⟩
theorem le_not {ta : WE} (h : PE X e (LE G W ta)) (hK : X.K = G.K) {pos : Pos} : PE X (.UnaryOp .Not e pos) (LE G W fun δ A Q Z => ta δ A (fun x A1 => truP A1 x fun k => Q (.bl (!k)) A1) Z) :=
  PE.weak (pe_notT h) fun σ H Q ⟨ι, A, δ, Q0, E0, R, S, t, kQ, kE⟩ => ⟨ι, A, δ, _, E0, R, S, t, fun x A1 h1 ι1 H1 v s1 R1 r1 => by
    rw [hK]
    exact truP_V (Q := fun b H1 => Q (.bl (!b)) H1) R1 r1 h1 fun b q => ((kQ _ _ q).stp s1).now R1 .mkBl, kE⟩
theorem lt_and {b : Expr} {rest : List Expr} {pos : Pos} {ta tb : WT} (ha : PT X e (LT G W ta)) (hb : PW X (.BoolOp .And (b :: rest) pos) (LT G W tb)) :
    PW X (.BoolOp .And (e :: b :: rest) pos) (LT G W fun δ A Q Z => ta δ A (fun k A1 => if k = true then tb δ A1 Q Z else Q false A1) Z) :=
  PW.weak (pw_and ha hb) fun σ H Q ⟨ι, A, δ, Q0, E0, R, S, t, kQ, kE⟩ => ⟨ι, A, δ, _, E0, R, S, t, fun k A1 h1 ι1 H1 s1 R1 => by
    cases k with
    | true => exact ⟨ι1, A1, δ, Q0, E0, R1, S.mono s1, h1, fun b A' q => (kQ b A' q).stp s1, fun c p A' q => (kE c p A' q).stp s1⟩
    | false => exact ((kQ _ _ h1).stp s1).now R1, kE⟩
theorem lt_or {b : Expr} {rest : List Expr} {pos : Pos} {ta tb : WT} (ha : PT X e (LT G W ta)) (hb : PW X (.BoolOp .Or (b :: rest) pos) (LT G W tb)) :
    PW X (.BoolOp .Or (e :: b :: rest) pos) (LT G W fun δ A Q Z => ta δ A (fun k A1 => if k = true then Q true A1 else tb δ A1 Q Z) Z) :=
  PW.weak (pw_or ha hb) fun σ H Q ⟨ι, A, δ, Q0, E0, R, S, t, kQ, kE⟩ => ⟨ι, A, δ, _, E0, R, S, t, fun k A1 h1 ι1 H1 s1 R1 => by
    cases k with
    | false => exact ⟨ι1, A1, δ, Q0, E0, R1, S.mono s1, h1, fun b A' q => (kQ b A' q).stp s1, fun c p A' q => (kE c p A' q).stp s1⟩
    | true => exact ((kQ _ _ h1).stp s1).now R1, kE⟩
theorem le_and {b : Expr} {rest : List Expr} {pos : Pos} {ta tb : WE} (ha : PE X e (LE G W ta)) (hK : X.K = G.K) (hb : PE X (.BoolOp .And (b :: rest) pos) (LE G W tb)) :
    PE X (.BoolOp .And (e :: b :: rest) pos) (LE G W fun δ A Q Z => ta δ A (fun x A1 => truP A1 x fun k => if k = true then tb δ A1 Q Z else Q x A1) Z) :=
  PE.weak (pe_andT ha hb) fun σ H Q ⟨ι, A, δ, Q0, E0, R, S, t, kQ, kE⟩ => ⟨ι, A, δ, _, E0, R, S, t, fun x A1 h1 ι1 H1 v s1 R1 r1 => by
    rw [hK]
    refine truP_V (Q := fun k H1 => if k = true then LE G W tb σ H1 Q else Q v H1) R1 r1 h1 fun k q => ?_
    cases k with
    | true => exact ⟨ι1, A1, δ, Q0, E0, R1, S.mono s1, q, fun b A' q => (kQ b A' q).stp s1, fun c p A' q => (kE c p A' q).stp s1⟩
    | false => exact ((kQ _ _ q).stp s1).now R1 r1, kE⟩
theorem le_or {b : Expr} {rest : List Expr} {pos : Pos} {ta tb : WE} (ha : PE X e (LE G W ta)) (hK : X.K = G.K) (hb : PE X (.BoolOp .Or (b :: rest) pos) (LE G W tb)) :
    PE X (.BoolOp .Or (e :: b :: rest) pos) (LE G W fun δ A Q Z => ta δ A (fun x A1 => truP A1 x fun k => if k = true then Q x A1 else tb δ A1 Q Z) Z) :=
  PE.weak (pe_orT ha hb) fun σ H Q ⟨ι, A, δ, Q0, E0, R, S, t, kQ, kE⟩ => ⟨ι, A, δ, _, E0, R, S, t, fun x A1 h1 ι1 H1 v s1 R1 r1 => by
    rw [hK]
    refine truP_V (Q := fun k H1 => if k = true then Q v H1 else LE G W tb σ H1 Q) R1 r1 h1 fun k q => ?_
    cases k with
    | false => exact ⟨ι1, A1, δ, Q0, E0, R1, S.mono s1, q, fun b A' q => (kQ b A' q).stp s1, fun c p A' q => (kE c p A' q).stp s1⟩
    | true => exact ((kQ _ _ q).stp s1).now R1 r1, kE⟩
theorem le_ifx {a b : Expr} {pos : Pos} {tc : WT} {ta tb : WE} (hc : PT X e (LT G W tc)) (ha : PE X a (LE G W ta)) (hb : PE X b (LE G W tb)) :
    PE X (.IfExp e a b pos) (LE G W fun δ A Q Z => tc δ A (fun k A1 => if k = true then ta δ A1 Q Z else tb δ A1 Q Z) Z) :=
  PE.weak (pe_ifExp hc ha hb) fun σ H Q ⟨ι, A, δ, Q0, E0, R, S, t, kQ, kE⟩ => ⟨ι, A, δ, _, E0, R, S, t, fun k A1 h1 ι1 H1 s1 R1 => by
    cases k <;> exact ⟨ι1, A1, δ, Q0, E0, R1, S.mono s1, h1, fun b A' q => (kQ b A' q).stp s1, fun c p A' q => (kE c p A' q).stp s1⟩, kE⟩
theorem pt_ifx {a b : Expr} {pos : Pos} {tc ta tb : L2.TT} (hc : PT X e tc) (ha : PT X a ta) (hb : PT X b tb) : PT X (.IfExp e a b pos) (fun σ H Q => tc σ H fun c H1 => if c = true then ta σ H1 Q else tb σ H1 Q) := by
  refine ⟨fun pins s σ H Q I h => ?_⟩
  show wpAny _ _ (do if ← isTrue e X.env (eval e X.env) then isTrue a X.env (eval a X.env) else isTrue b X.env (eval b X.env)) _ _ _
  refine wpAny_bind (thn (hc.run pins s σ H _ I h) fun d s1 ⟨H1, I1, q1⟩ => ?_)
  cases d with
  | true => exact ha.run pins s1 σ H1 Q I1 q1
  | false => exact hb.run pins s1 σ H1 Q I1 q1
theorem lt_ifx {a b : Expr} {pos : Pos} {tc ta tb : WT} (hc : PT X e (LT G W tc)) (ha : PT X a (LT G W ta)) (hb : PT X b (LT G W tb)) :
    PT X (.IfExp e a b pos) (LT G W fun δ A Q Z => tc δ A (fun k A1 => if k = true then ta δ A1 Q Z else tb δ A1 Q Z) Z) :=
  PT.weak (pt_ifx hc ha hb) fun σ H Q ⟨ι, A, δ, Q0, E0, R, S, t, kQ, kE⟩ => ⟨ι, A, δ, _, E0, R, S, t, fun k A1 h1 ι1 H1 s1 R1 => by
    cases k <;> exact ⟨ι1, A1, δ, Q0, E0, R1, S.mono s1, h1, fun b A' q => (kQ b A' q).stp s1, fun c p A' q => (kE c p A' q).stp s1⟩, kE⟩
/-! ### chains of two comparisons -/
theorem le_chain {r r' : R2} {o o' : CO} {ta tb tc : WE} (h : PE X e (tChain r r' (LE G W ta) (LE G W tb) (LE G W tc))) (br : Brc G r o) (br' : Brc G r' o') :
    PE X e (LE G W fun δ A Q Z => ta δ A (fun x A1 => tb δ A1 (fun y A2 => cmpP o x y A2 fun k => if k = true then tc δ A2 (fun z A3 => cmpP o' y z A3 fun k' => Q (.bl k') A3) Z else Q (.bl false) A2) Z) Z) :=
  PE.weak h fun σ H Q ⟨ι, A, δ, Q0, E0, R, S, t, kQ, kE⟩ => ⟨ι, A, δ, _, E0, R, S, t, fun x A1 h1 ι1 H1 v s1 R1 r1 =>
    ⟨ι1, A1, δ, _, E0, R1, S.mono s1, h1, fun y A2 h2 ι2 H2 u s2 R2 r2 => br ι2 A2 H2 x y v u _ _ R2 (VR.mono s2 _ _ r1) r2 h2 (fun b q => ⟨b, rfl, by
      cases b with
      | false => exact ((kQ _ _ q).stp (s1.trans s2)).now R2 .mkBl
      | true => exact ⟨ι2, A2, δ, _, E0, R2, (S.mono s1).mono s2, q, fun z A3 h3 ι3 H3 w s3 R3 r3 => br' ι3 A3 H3 y z u w _ _ R3 (VR.mono s3 _ _ r2) r3 h3 fun b' q' => ((kQ _ _ q').stp ((s1.trans s2).trans s3)).now R3 .mkBl,
          fun c p A' q => (kE c p A' q).stp (s1.trans s2)⟩⟩), fun c p A' q => (kE c p A' q).stp s1⟩, kE⟩
theorem lt_chain {r r' : R2} {o o' : CO} {ta tb tc : WE} (h : PT X e (tTest (tChain r r' (LE G W ta) (LE G W tb) (LE G W tc)))) (br : Brc G r o) (br' : Brc G r' o') :
    PT X e (LT G W fun δ A Q Z => ta δ A (fun x A1 => tb δ A1 (fun y A2 => cmpP o x y A2 fun k => if k = true then tc δ A2 (fun z A3 => cmpP o' y z A3 fun k' => Q k' A3) Z else Q false A2) Z) Z) :=
  PT.weak h fun σ H Q ⟨ι, A, δ, Q0, E0, R, S, t, kQ, kE⟩ => ⟨ι, A, δ, _, E0, R, S, t, fun x A1 h1 ι1 H1 v s1 R1 r1 =>
    ⟨ι1, A1, δ, _, E0, R1, S.mono s1, h1, fun y A2 h2 ι2 H2 u s2 R2 r2 => br ι2 A2 H2 x y v u _ _ R2 (VR.mono s2 _ _ r1) r2 h2 (fun b q => ⟨b, rfl, by
      cases b with
      | false => exact ⟨false, rfl, ((kQ _ _ q).stp (s1.trans s2)).now R2⟩
      | true => exact ⟨ι2, A2, δ, _, E0, R2, (S.mono s1).mono s2, q, fun z A3 h3 ι3 H3 w s3 R3 r3 => br' ι3 A3 H3 y z u w (fun z H' => ∃ k, z = .bl k ∧ Q k H') _ R3 (VR.mono s3 _ _ r2) r3 h3 fun b' q' => ⟨b', rfl, ((kQ _ _ q').stp ((s1.trans s2).trans s3)).now R3⟩,
          fun c p A' q => (kE c p A' q).stp (s1.trans s2)⟩⟩), fun c p A' q => (kE c p A' q).stp s1⟩, kE⟩
/-! ### subscripts, slices -/
/-- o[i] behind o and i, by a built-in type's own __getitem__ -/
theorem tail_by {prog : Program} {w : World} {A : Around} {E : Value → Shared → Prop} {s : Shared} {value slice : Expr} {o i : Value} {T id : String} {Q : Value → Shared → Prop}
    (hT : s.TypeIs o T) (hl : typeLookup (.type T) "__getitem__" = pure (some (.builtin id)))
    (hs : subscripted slice false o i = operate [o, i] (getItem o i)) (h : wpAny (model prog w) A (getItem o i) Q E s) : wpAny (model prog w) A (subscriptTail value slice o i) Q E s := by
  unfold subscriptTail
  refine wpAny_bind ?_
  rw [getitemInPython_of_ne hT.not_modules]
  refine wpAny_bind (wpAny_specialOf hT hl ?_)
  have done : wpAny (model prog w) A (subscripted slice false o i) (fun r t => wpAny (model prog w) A (letTemporaryGo value o r >>= fun _ => pure r) Q E t) E s := by
    rw [hs]
    refine wpAny_operating (wpAny_mono h (fun r t q => ?_) fun _ _ x => x)
    exact wpAny_bind (wpAny_letTemporaryGo (wpAny_pure q))
  first
    | exact wpAny_bind done
    | exact wpAny_pure (wpAny_bind done)
    | exact wpAny_bind (wpAny_pure (wpAny_bind done))
theorem ix_dict (hu : X.A.units + 1 < cLine) : IxR X rDG := by
  intro value slice pins s σ H x y v u Q I rx ry h hs
  obtain ⟨a, z, ex, g, q⟩ := h
  subst ex
  cases (show v = Value.ref a from rx)
  exact tail_by (dict_typeIs I g) PySem.F.slot_dict_getitem.lookup hs (d_getItem hu I g ry fun w' s' I' r' => ⟨z, H, I', r', q⟩)
theorem le_idx {a b : Expr} {pos : Pos} {ta tb : WE} (hu : X.A.units + 1 < cLine) (hK : X.K = G.K) (ha : PE X a (LE G W ta)) (hb : PE X b (LE G W tb)) (hn : notSlice b = true) :
    PE X (.Subscript a b pos) (LE G W fun δ A Q Z => ta δ A (fun x A1 => tb δ A1 (fun y A2 => idxP x y A2 Q) Z) Z) := by
  refine le_op2 (r := fun x y H Q => rIxL G.K x y H Q ∨ (rIxT G.K x y H Q ∨ rDG x y H Q)) ?_ br_idx
  rw [← hK]
  exact pe_ix (ix_list.or (ix_tup.or (ix_dict hu))) ha hb (plainIx hn)
theorem lo_no : PO X none (LO G W fun _ A Q _ => Q none A) := PO.weak po_none fun σ H Q ⟨ι, A, δ, Q0, E0, R, S, t, kQ, kE⟩ => (kQ _ _ t).now R
theorem lo_yes {t : WE} (h : PE X e (LE G W t)) : PO X (some e) (LO G W fun δ A Q Z => t δ A (fun x A1 => match x with | .int i => Q (some i) A1 | _ => False) Z) :=
  PO.weak (po_some h) fun σ H Q ⟨ι, A, δ, Q0, E0, R, S, t, kQ, kE⟩ => ⟨ι, A, δ, _, E0, R, S, t, fun x A1 h1 ι1 H1 v s1 R1 r1 => by
    cases x with
    | int i => exact ⟨i, r1.int, ((kQ _ _ h1).stp s1).now R1⟩
    | _ => exact (show False from h1).elim, kE⟩
theorem cut_VRs {ι : List Addr} {H : Hp} {ds : List D} {vs : List V} {lo hi : Option Int} (r : VRs G ι H ds vs) : VRs G ι H (cutD ds lo hi) (cutV vs lo hi) := by
  unfold cutD cutV
  rw [r.len]
  exact VRs.take _ (VRs.drop _ r)
theorem le_sl {a : Expr} {lo hi : Option Expr} {p2 pos : Pos} {ta : WE} {tl th : DSt → AH → (Option Int → AH → Prop) → DX → Prop} (hK : X.K = G.K) (ha : PE X a (LE G W ta)) (hl : PO X lo (LO G W tl)) (hh : PO X hi (LO G W th)) :
    PE X (.Subscript a (.Slice lo hi none p2) pos) (LE G W fun δ A Q Z => ta δ A (fun x A1 => tl δ A1 (fun l A2 => th δ A2 (fun h A3 => slP x l h A3 Q) Z) Z) Z) :=
  PE.weak (pe_slice (sl_list.or sl_tup) ha hl hh) fun σ H Q ⟨ι, A, δ, Q0, E0, R, S, t, kQ, kE⟩ => ⟨ι, A, δ, _, E0, R, S, t, fun x A1 h1 ι1 H1 v s1 R1 r1 =>
    ⟨ι1, A1, δ, _, E0, R1, S.mono s1, h1, fun l A2 h2 ι2 H2 s2 R2 => ⟨ι2, A2, δ, _, E0, R2, (S.mono s1).mono s2, h2, fun h A3 h3 ι3 H3 s3 R3 => by
      have r3 := VR.mono s3 _ _ (VR.mono s2 _ _ r1)
      have kk : ∀ d A', Q0 d A' → PostV G ι3 H3 Q d A' := fun d A' q => (kQ d A' q).stp ((s1.trans s2).trans s3)
      cases x with
      | tup ds =>
        obtain ⟨a, vs, ev, q, z⟩ := r3.tup
        obtain ⟨hne, h3⟩ := h3
        refine .inr ⟨a, vs, ev, by rw [hK]; exact q, ?_, (kk _ _ h3).tup R3 (cut_VRs z)⟩
        rw [← z.len]; exact hne
      | ref i =>
        obtain ⟨xs, e1, h3⟩ := opt_some h3
        obtain ⟨a, ev, hi⟩ := r3.ref
        obtain ⟨vs, q, z⟩ := R3.sqL hi e1
        exact .inl ⟨a, vs, ev, by rw [hK]; exact q, (kk _ _ h3).lst R3 (cut_VRs z)⟩
      | rol ds =>
        obtain ⟨a, vs, ev, q, z⟩ := r3.rol
        exact .inl ⟨a, vs, ev, by rw [hK]; exact q.l, (kk _ _ h3).lst R3 (cut_VRs z)⟩
      | _ => exact (show False from h3).elim, fun c p A' q => (kE c p A' q).stp (s1.trans s2)⟩, fun c p A' q => (kE c p A' q).stp s1⟩, kE⟩

/-! ### built-ins -/
/-- a call by values -/
def Brn (G : GE) (r : List V → Hp → VK → Prop) (rD : List D → AH → DK → Prop) : Prop := ∀ (ι : List Addr) (A : AH) (H : Hp) (xs : List D) (vs : List V) (Q : VK) (Q0 : DK), Rep G ι A H → VRs G ι H xs vs → rD xs A Q0 → (∀ d A', Q0 d A' → PostV G ι H Q d A') → r vs H Q
theorem le_cb {r : List V → Hp → VK → Prop} {rD : List D → AH → DK → Prop} {t : DSt → AH → (List D → AH → Prop) → DX → Prop} (h : PE X e (tCB r (LA G W t))) (br : Brn G r rD) :
    PE X e (LE G W fun δ A Q Z => t δ A (fun ds A1 => rD ds A1 Q) Z) :=
  PE.weak h fun σ H Q ⟨ι, A, δ, Q0, E0, R, S, t, kQ, kE⟩ => ⟨ι, A, δ, _, E0, R, S, t, fun ds A1 h1 ι1 H1 vs s1 R1 r1 => br ι1 A1 H1 ds vs Q Q0 R1 r1 h1 fun d A' q => (kQ d A' q).stp s1, kE⟩
theorem VRs.one {ι : List Addr} {H : Hp} {d : D} {vs : List V} (h : VRs G ι H [d] vs) : ∃ v, vs = [v] ∧ VR G ι H d v := by
  unfold VRs at h
  obtain ⟨v, r, e, h1, h2⟩ := h
  unfold VRs at h2
  subst h2
  exact ⟨v, e, h1⟩
theorem VRs.two {ι : List Addr} {H : Hp} {d d' : D} {vs : List V} (h : VRs G ι H [d, d'] vs) : ∃ v v', vs = [v, v'] ∧ VR G ι H d v ∧ VR G ι H d' v' := by
  unfold VRs at h
  obtain ⟨v, r, e, h1, h2⟩ := h
  obtain ⟨v', e2, h3⟩ := VRs.one h2
  subst e2
  exact ⟨v, v', e, h1, h3⟩
theorem biP_len {xs : List D} {A : AH} {Q : DK} (h : biP .len xs A Q) : ∃ x, xs = [x] := by
  unfold biP at h
  split at h <;> first | exact h.elim | exact ⟨_, rfl⟩ | contradiction
theorem biP_abs {xs : List D} {A : AH} {Q : DK} (h : biP .abs xs A Q) : ∃ i, xs = [.int i] ∧ Q (.int (if i < 0 then -i else i)) A := by
  unfold biP at h
  split at h <;> first | exact h.elim | exact ⟨_, rfl, h⟩ | contradiction
theorem biP_int {xs : List D} {A : AH} {Q : DK} (h : biP .int xs A Q) : (∃ i, xs = [.int i] ∧ Q (.int i) A) ∨ ∃ b, xs = [.bl b] ∧ Q (.int (if b then 1 else 0)) A := by
  unfold biP at h
  split at h <;> first | exact h.elim | exact .inl ⟨_, rfl, h⟩ | exact .inr ⟨_, rfl, h⟩ | contradiction
theorem biP_min2 {xs : List D} {A : AH} {Q : DK} (h : biP .min2 xs A Q) : ∃ i j, xs = [.int i, .int j] ∧ Q (.int (if j < i then j else i)) A := by
  unfold biP at h
  split at h <;> first | exact h.elim | exact ⟨_, _, rfl, h⟩ | contradiction
theorem biP_max2 {xs : List D} {A : AH} {Q : DK} (h : biP .max2 xs A Q) : ∃ i j, xs = [.int i, .int j] ∧ Q (.int (if j > i then j else i)) A := by
  unfold biP at h
  split at h <;> first | exact h.elim | exact ⟨_, _, rfl, h⟩ | contradiction
theorem biP_list {xs : List D} {A : AH} {Q : DK} (h : biP .list xs A Q) : ∃ x, xs = [x] ∧ opt (itemsD A x) fun xs => Q (.ref A.length) (A ++ [.lst xs]) := by
  unfold biP at h
  split at h <;> first | exact h.elim | exact ⟨_, rfl, h⟩ | contradiction
theorem biP_tuple {xs : List D} {A : AH} {Q : DK} (h : biP .tuple xs A Q) : (∃ ds, xs = [.tup ds] ∧ Q (.tup ds) A) ∨ ∃ i, xs = [.ref i] ∧ opt (cellL A i) fun xs => Q (.tup xs) A := by
  unfold biP at h
  split at h <;> first | exact h.elim | exact .inl ⟨_, rfl, h⟩ | exact .inr ⟨_, rfl, h⟩ | contradiction
theorem biP_all {xs : List D} {A : AH} {Q : DK} (h : biP .all xs A Q) : ∃ i, xs = [.ref i] ∧ opt (cellL A i) fun xs => opt (bisD xs) fun bs => Q (.bl (bs.all id)) A := by
  unfold biP at h
  split at h <;> first | exact h.elim | exact ⟨_, rfl, h⟩ | contradiction
theorem biP_any {xs : List D} {A : AH} {Q : DK} (h : biP .any xs A Q) : ∃ i, xs = [.ref i] ∧ opt (cellL A i) fun xs => opt (bisD xs) fun bs => Q (.bl (bs.any id)) A := by
  unfold biP at h
  split at h <;> first | exact h.elim | exact ⟨_, rfl, h⟩ | contradiction
theorem biP_dict {xs : List D} {A : AH} {Q : DK} (h : biP .dict xs A Q) : ∃ i, xs = [.ref i] ∧ opt (cellL A i) fun xs => opt (pairsD xs) fun kvs => Q (.ref A.length) (A ++ [.dct (kvs.foldl (fun acc kv => putD acc kv.1 kv.2) [])]) := by
  unfold biP at h
  split at h <;> first | exact h.elim | exact ⟨_, rfl, h⟩ | contradiction
theorem biP_sum {xs : List D} {A : AH} {Q : DK} (h : biP .sum xs A Q) : (∃ i, xs = [.ref i] ∧ opt (cellL A i) fun xs => opt (intsD xs) fun ns => Q (.int ns.sum) A) ∨ ∃ ds, xs = [.tup ds] ∧ opt (intsD ds) fun ns => Q (.int ns.sum) A := by
  unfold biP at h
  split at h <;> first | exact h.elim | exact .inl ⟨_, rfl, h⟩ | exact .inr ⟨_, rfl, h⟩ | contradiction
theorem biP_min1 {xs : List D} {A : AH} {Q : DK} (h : biP .min1 xs A Q) : ∃ i, xs = [.ref i] ∧ opt (cellL A i) fun xs => opt (intsD xs) fun ns => 0 < ns.length ∧ ∀ m, m ∈ ns → (∀ y, y ∈ ns → m ≤ y) → Q (.int m) A := by
  unfold biP at h
  split at h <;> first | exact h.elim | exact ⟨_, rfl, h⟩ | contradiction
theorem biP_max1 {xs : List D} {A : AH} {Q : DK} (h : biP .max1 xs A Q) : ∃ i, xs = [.ref i] ∧ opt (cellL A i) fun xs => opt (intsD xs) fun ns => 0 < ns.length ∧ ∀ m, m ∈ ns → (∀ y, y ∈ ns → y ≤ m) → Q (.int m) A := by
  unfold biP at h
  split at h <;> first | exact h.elim | exact ⟨_, rfl, h⟩ | contradiction
def sortP (i : Nat) (A : AH) (Q : DK) : Prop := match A[i]? with
  | some (.lst xs) => opt (intsD xs) fun ns => ∀ ns' : List Int, ns'.Perm ns → ns'.Pairwise (· ≤ ·) → Q (.ref A.length) (A ++ [.lst (ns'.map .int)])
  | some (.dct kvs) => opt (keysI kvs) fun ns => ns.length < 64 ∧ ∀ ns' : List Int, ns'.Perm ns → ns'.Pairwise (· ≤ ·) → Q (.ref A.length) (A ++ [.lst (ns'.map .int)])
  | _ => False
theorem biP_sorted {xs : List D} {A : AH} {Q : DK} (h : biP .sorted xs A Q) : ∃ i, xs = [.ref i] ∧ sortP i A Q := by
  unfold biP at h
  split at h <;> first | exact h.elim | contradiction | skip
  exact ⟨_, rfl, h⟩
theorem methP_append {x : D} {xs : List D} {A : AH} {Q : DK} (h : methP .append x xs A Q) : ∃ i y, x = .ref i ∧ xs = [y] ∧ opt (cellW A i) fun xs => xs.length < LIM ∧ Q .non (A.set i (.lst (xs ++ [y]))) := by
  unfold methP at h
  split at h <;> first | exact h.elim | exact ⟨_, _, rfl, rfl, h⟩ | contradiction
theorem methP_pop0 {x : D} {xs : List D} {A : AH} {Q : DK} (h : methP .pop0 x xs A Q) : ∃ i, x = .ref i ∧ xs = [] ∧ opt (cellW A i) fun xs => opt xs[xs.length - 1]? fun y => Q y (A.set i (.lst xs.dropLast)) := by
  unfold methP at h
  split at h <;> first | exact h.elim | exact ⟨_, rfl, rfl, h⟩ | contradiction
theorem methP_pop1 {x : D} {xs : List D} {A : AH} {Q : DK} (h : methP .pop1 x xs A Q) : ∃ i j, x = .ref i ∧ xs = [.int j] ∧ opt (cellW A i) fun xs => (-(2 ^ 63) ≤ j ∧ j < 2 ^ 63) ∧ opt (seqIndex? j xs.length) fun k => opt xs[k]? fun y => Q y (A.set i (.lst (xs.eraseIdx k))) := by
  unfold methP at h
  split at h <;> first | exact h.elim | exact ⟨_, _, rfl, rfl, h⟩ | contradiction
theorem methP_reverse {x : D} {xs : List D} {A : AH} {Q : DK} (h : methP .reverse x xs A Q) : ∃ i, x = .ref i ∧ xs = [] ∧ opt (cellW A i) fun xs => Q .non (A.set i (.lst xs.reverse)) := by
  unfold methP at h
  split at h <;> first | exact h.elim | exact ⟨_, rfl, rfl, h⟩ | contradiction
theorem methP_extend {x : D} {xs : List D} {A : AH} {Q : DK} (h : methP .extend x xs A Q) : ∃ i j, x = .ref i ∧ xs = [.ref j] ∧ opt (cellW A i) fun xs => opt (cellW A j) fun ys => xs.length + ys.length ≤ LIM ∧ Q .non (A.set i (.lst (xs ++ ys))) := by
  unfold methP at h
  split at h <;> first | exact h.elim | exact ⟨_, _, rfl, rfl, h⟩ | contradiction
def rLenA (K : PySem.W.Frag) : List V → Hp → VK → Prop := fun xs H Q => (∃ p ys, xs = [.ref p] ∧ (SqL K H p ys ∨ SqT K H p ys) ∧ Q (.int ys.length) H) ∨ ∃ a kvs, xs = [V.ref a] ∧ H a = some (.dK kvs) ∧ Q (.int kvs.length) H
theorem call_lenA : CallR X (.builtin "len") (rLenA X.K) := CallR.or call_len_seq call_lenD
theorem br_len : Brn G (rLenA G.K) (biP .len) := by
  intro ι A H xs vs Q Q0 R r h k
  obtain ⟨x, ex⟩ := biP_len h
  subst ex
  cases x with
  | tup ds =>
    obtain ⟨v, e, rv⟩ := r.one
    obtain ⟨a, us, ev, q, z⟩ := rv.tup
    subst ev e
    refine .inl ⟨a, us, rfl, .inr q, ?_⟩
    rw [← z.len]
    exact (k _ _ h).now R .mkInt
  | rol ds =>
    obtain ⟨v, e, rv⟩ := r.one
    obtain ⟨a, us, ev, q, z⟩ := rv.rol
    subst ev e
    refine .inl ⟨a, us, rfl, .inl q.l, ?_⟩
    rw [← z.len]
    exact (k _ _ h).now R .mkInt
  | ref i =>
    obtain ⟨v, e, rv⟩ := r.one
    obtain ⟨a, ev, hi⟩ := rv.ref
    subst ev e
    unfold biP at h
    cases e1 : A[i]? with
    | none => simp only [e1] at h
    | some c =>
      cases c with
      | lst ys =>
        simp only [e1] at h
        obtain ⟨us, q, z⟩ := R.lst hi e1
        refine .inl ⟨a, us, rfl, .inl (.of q), ?_⟩
        rw [← z.len]
        exact (k _ _ h).now R .mkInt
      | ro ys =>
        simp only [e1] at h
        obtain ⟨us, q, z⟩ := R.ro hi e1
        refine .inl ⟨a, us, rfl, .inl q, ?_⟩
        rw [← z.len]
        exact (k _ _ h).now R .mkInt
      | dct ys =>
        simp only [e1] at h
        obtain ⟨us, q, z⟩ := R.dct hi e1
        refine .inr ⟨a, us, rfl, q, ?_⟩
        rw [← z.len]
        exact (k _ _ h).now R .mkInt
  | _ => exact (show False from h).elim
theorem br_abs : Brn G (fun xs H Q => ∃ i, xs = [.int i] ∧ Q (.int (if i < 0 then -i else i)) H) (biP .abs) := by
  intro ι A H xs vs Q Q0 R r h k
  obtain ⟨i, ex, h⟩ := biP_abs h
  subst ex
  obtain ⟨v, e, rv⟩ := r.one
  exact ⟨i, by rw [e, rv.int], (k _ _ h).now R .mkInt⟩
theorem br_int1 : Brn G (fun xs H Q => (∃ i, xs = [.int i] ∧ Q (.int i) H) ∨ ∃ k, xs = [.bl k] ∧ Q (.int (if k then 1 else 0)) H) (biP .int) := by
  intro ι A H xs vs Q Q0 R r h k
  rcases biP_int h with ⟨i, ex, h⟩ | ⟨b, ex, h⟩
  · subst ex
    obtain ⟨v, e, rv⟩ := r.one
    exact .inl ⟨i, by rw [e, rv.int], (k _ _ h).now R .mkInt⟩
  · subst ex
    obtain ⟨v, e, rv⟩ := r.one
    exact .inr ⟨b, by rw [e, rv.bl], (k _ _ h).now R .mkInt⟩
theorem br_min2 : Brn G (fun xs H Q => ∃ i j, xs = [.int i, .int j] ∧ Q (.int (if j < i then j else i)) H) (biP .min2) := by
  intro ι A H xs vs Q Q0 R r h k
  obtain ⟨i, j, ex, h⟩ := biP_min2 h
  subst ex
  obtain ⟨v, v', e, rv, rv'⟩ := r.two
  exact ⟨i, j, by rw [e, rv.int, rv'.int], (k _ _ h).now R .mkInt⟩
theorem br_max2 : Brn G (fun xs H Q => ∃ i j, xs = [.int i, .int j] ∧ Q (.int (if j > i then j else i)) H) (biP .max2) := by
  intro ι A H xs vs Q Q0 R r h k
  obtain ⟨i, j, ex, h⟩ := biP_max2 h
  subst ex
  obtain ⟨v, v', e, rv, rv'⟩ := r.two
  exact ⟨i, j, by rw [e, rv.int, rv'.int], (k _ _ h).now R .mkInt⟩
theorem br_list : Brn G (fun xs H Q => ∃ p ys, xs = [.ref p] ∧ (SqL G.K H p ys ∨ SqT G.K H p ys) ∧ ∀ l, H l = none → Q (.ref l) (upd H l (.lst ys))) (biP .list) := by
  intro ι A H xs vs Q Q0 R r h k
  obtain ⟨x, ex, h⟩ := biP_list h
  subst ex
  obtain ⟨v, e, rv⟩ := r.one
  obtain ⟨ys, e1, h⟩ := opt_some h
  obtain ⟨a, us, ev, q, z⟩ := R.items rv e1
  exact ⟨a, us, by rw [e, ev], q, (k _ _ h).lst R z⟩
theorem br_tuple : Brn G (fun xs H Q => ∃ p ys, xs = [.ref p] ∧ ((SqL G.K H p ys ∧ ∀ l, H l = none → Q (.ref l) (upd H l (.tup ys))) ∨ (SqT G.K H p ys ∧ Q (.ref p) H))) (biP .tuple) := by
  intro ι A H xs vs Q Q0 R r h k
  rcases biP_tuple h with ⟨ds, ex, h⟩ | ⟨i, ex, h⟩
  · subst ex
    obtain ⟨v, e, rv⟩ := r.one
    obtain ⟨a, us, ev, q, z⟩ := rv.tup
    refine ⟨a, us, by rw [e, ev], .inr ⟨q, (k _ _ h).now R ?_⟩⟩
    rw [ev] at rv; exact rv
  · subst ex
    obtain ⟨v, e, rv⟩ := r.one
    obtain ⟨a, ev, hi⟩ := rv.ref
    obtain ⟨ys, e1, h⟩ := opt_some h
    obtain ⟨us, q, z⟩ := R.sqL hi e1
    exact ⟨a, us, by rw [e, ev], .inl ⟨q, (k _ _ h).tup R z⟩⟩
theorem bis_V {ι : List Addr} {H : Hp} : ∀ {xs : List D} {bs : List Bool} {vs : List V}, bisD xs = some bs → VRs G ι H xs vs → vs = bs.map V.bl
  | [], bs, vs, h, r => by cases h; unfold VRs at r; subst r; rfl
  | .bl b :: xs, bs, vs, h, r => by
    have h : (bisD xs).map (b :: ·) = some bs := h
    unfold VRs at r
    obtain ⟨v, us, e, h1, h2⟩ := r
    cases e1 : bisD xs with
    | none => rw [e1] at h; cases h
    | some cs =>
      rw [e1] at h; cases h
      rw [e, h1.bl, bis_V e1 h2]; rfl
theorem ints_V {ι : List Addr} {H : Hp} : ∀ {xs : List D} {ns : List Int} {vs : List V}, intsD xs = some ns → VRs G ι H xs vs → vs = ns.map V.int
  | [], ns, vs, h, r => by cases h; unfold VRs at r; subst r; rfl
  | .int b :: xs, ns, vs, h, r => by
    have h : (intsD xs).map (b :: ·) = some ns := h
    unfold VRs at r
    obtain ⟨v, us, e, h1, h2⟩ := r
    cases e1 : intsD xs with
    | none => rw [e1] at h; cases h
    | some cs =>
      rw [e1] at h; cases h
      rw [e, h1.int, ints_V e1 h2]; rfl
theorem VRs.ints {ι : List Addr} {H : Hp} : ∀ ns : List Int, VRs G ι H (ns.map .int) (ns.map V.int)
  | [] => VRs.nil
  | n :: ns => VRs.cons .mkInt (VRs.ints ns)
theorem keys_V {ι : List Addr} {H : Hp} : ∀ {kvs : List (Key × D)} {ns : List Int} {ws : List (Key × V)}, keysI kvs = some ns → KRs G ι H kvs ws → ws.map (·.1) = ns.map Sum.inl
  | [], ns, ws, h, r => by cases h; have r : ws = [] := r; subst r; rfl
  | (.inl i, d) :: kvs, ns, ws, h, r => by
    have h : (keysI kvs).map (i :: ·) = some ns := h
    obtain ⟨v, us, e, h1, h2⟩ := r
    cases e1 : keysI kvs with
    | none => rw [e1] at h; cases h
    | some cs =>
      rw [e1] at h; cases h
      rw [e, List.map_cons, List.map_cons, keys_V e1 h2]
  | (.inr i, d) :: kvs, ns, ws, h, r => by cases h
theorem br_any : Brn G (rAny G.K) (biP .any) := by
  intro ι A H xs vs Q Q0 R r h k
  obtain ⟨i, ex, h⟩ := biP_any h
  subst ex
  obtain ⟨v, e, rv⟩ := r.one
  obtain ⟨a, ev, hi⟩ := rv.ref
  obtain ⟨ys, e1, h⟩ := opt_some h
  obtain ⟨bs, e2, h⟩ := opt_some h
  obtain ⟨us, q, z⟩ := R.sqL hi e1
  have := bis_V e2 z
  subst this
  exact ⟨a, bs, by rw [e, ev], q, (k _ _ h).now R .mkBl⟩
/-- sum of a tuple of whole numbers -/
def rSumT (K : PySem.W.Frag) : List V → Hp → VK → Prop := fun vs H Q => ∃ (a : Addr) (ns : List Int), vs = [V.ref a] ∧ SqT K H a (ns.map V.int) ∧ Q (.int ns.sum) H
theorem sum_rawT {prog : Program} {w : World} {A : Around} {E : Value → Shared → Prop} {s : Shared} {l : Addr} {its : List Value} {ns : List Int} {Q : Value → Shared → Prop} (hh : A.handled = none) (hl : s.heap.IsTuple l its.toArray) (hi : IntsAre its ns)
    (h : ∀ h' tk t', (∀ b o, s.heap.get? b = some o → h'.get? b = some o) → Q (.int ns.sum t') { s with heap := h', toks := tk }) : wpAny (model prog w) A (call (.builtin "sum") [.ref l]) Q E s := by
  obtain ⟨xs, e⟩ := hi.allInts.items
  have hn : numsOf (intItems xs).toList = ns := by rw [← e]; exact hi.numsOf
  rw [nums_intItems] at hn
  rw [e] at hl
  have hlt : l < s.heap.objs.size := by obtain ⟨_, q, _⟩ := hl; exact Heap.lt_size q
  refine call_sum_walkG (wpAny_pyIter_tuple hl ?_)
  refine ⟨_, [_, l], [_], _, _, _, numAt xs, rfl, Walks.tuple (A := A.in1) hh _ l (Nat.ne_of_lt hlt) (intItems xs), ⟨⟨_, Heap.get?_push_size _ rfl, rfl, rfl⟩, hl.push _⟩, fun c hc => ?_, (fun _ _ => intItems_at), fun h' tk t' hk => ?_⟩
  · show c < (s.heap.push _).objs.size
    rw [Heap.size_push]
    rcases List.mem_cons.mp hc with rfl | hc
    · exact Nat.lt_succ_self _
    · rcases List.mem_cons.mp hc with rfl | hc
      · exact Nat.lt_succ_of_lt hlt
      · cases hc
  · have hold : ∀ c o, s.heap.get? c = some o → h'.get? c = some o := fun c o e => by
      refine hk c o (fun hm => ?_) (Heap.get?_push_of_some _ e)
      rcases List.mem_cons.mp hm with e1 | hm
      · have := Heap.lt_size e; rw [e1] at this; exact Nat.lt_irrefl _ this
      · cases hm
    have := h h' tk t' hold
    rw [← hn] at this
    have e2 : preSum (numAt xs) (intItems xs).size = (xs.toList.map (·.1)).sum := by
      rw [preSum_eq, List.take_of_length_le (by simp [intItems])]
    rw [e2]; exact this
theorem cr_sumT {X : Cx} (hc : X.calm = true) : CallR X (.builtin "sum") (rSumT X.K) := by
  intro pins s σ H vs us Q I r h
  obtain ⟨a, ns, rfl, hs, q⟩ := h
  obtain ⟨its, rv, hl, _⟩ := I.tuple hs
  rw [Vals.ref1 r]
  exact sum_rawT (I.ok.hd hc) hl rv.ints fun h' tk t' hk => ⟨.int _, H, I.kept hk, ⟨_, rfl⟩, q⟩
theorem br_sum : Brn G (fun xs H Q => rSum G.K xs H Q ∨ rSumT G.K xs H Q) (biP .sum) := by
  intro ι A H xs vs Q Q0 R r h k
  rcases biP_sum h with ⟨i, ex, h⟩ | ⟨ds, ex, h⟩
  · subst ex
    obtain ⟨v, e, rv⟩ := r.one
    obtain ⟨a, ev, hi⟩ := rv.ref
    obtain ⟨ys, e1, h⟩ := opt_some h
    obtain ⟨bs, e2, h⟩ := opt_some h
    obtain ⟨us, q, z⟩ := R.sqL hi e1
    have := ints_V e2 z
    subst this
    exact .inl ⟨a, bs, by rw [e, ev], q, (k _ _ h).now R .mkInt⟩
  · subst ex
    obtain ⟨v, e, rv⟩ := r.one
    obtain ⟨a, us, ev, q, z⟩ := rv.tup
    obtain ⟨bs, e2, h⟩ := opt_some h
    have := ints_V e2 z
    subst this
    exact .inr ⟨a, bs, by rw [e, ev], q, (k _ _ h).now R .mkInt⟩
theorem br_min1 : Brn G (rMin G.K) (biP .min1) := by
  intro ι A H xs vs Q Q0 R r h k
  obtain ⟨i, ex, h⟩ := biP_min1 h
  subst ex
  obtain ⟨v, e, rv⟩ := r.one
  obtain ⟨a, ev, hi⟩ := rv.ref
  obtain ⟨ys, e1, h⟩ := opt_some h
  obtain ⟨bs, e2, h⟩ := opt_some h
  obtain ⟨us, q, z⟩ := R.sqL hi e1
  have := ints_V e2 z
  subst this
  exact ⟨a, bs, by rw [e, ev], q, h.1, fun m h1 h2 => (k _ _ (h.2 m h1 h2)).now R .mkInt⟩
theorem br_max1 : Brn G (rMax G.K) (biP .max1) := by
  intro ι A H xs vs Q Q0 R r h k
  obtain ⟨i, ex, h⟩ := biP_max1 h
  subst ex
  obtain ⟨v, e, rv⟩ := r.one
  obtain ⟨a, ev, hi⟩ := rv.ref
  obtain ⟨ys, e1, h⟩ := opt_some h
  obtain ⟨bs, e2, h⟩ := opt_some h
  obtain ⟨us, q, z⟩ := R.sqL hi e1
  have := ints_V e2 z
  subst this
  exact ⟨a, bs, by rw [e, ev], q, h.1, fun m h1 h2 => (k _ _ (h.2 m h1 h2)).now R .mkInt⟩
/-- sorted of ints, of a dict's int keys -/
def rSortA (K : PySem.W.Frag) : List V → Hp → VK → Prop := fun xs H Q => rSortedI K xs H Q ∨ ∃ (a : Addr) (kvs : List (Key × V)) (ks : List Int), xs = [.ref a] ∧ Rd H a (.dK kvs) ∧ kvs.map (·.1) = ks.map Sum.inl ∧ ks.length < 64 ∧
    ∀ (ys : List Int) (p : Addr), ys.Perm ks → ys.Pairwise (· ≤ ·) → H p = none → Q (.ref p) (upd H p (.lst (ys.map V.int)))
theorem call_sortA (hc : X.calm = true) : CallR X (.builtin "sorted") (rSortA X.K) := CallR.or cr_sortedI (call_sortedDI hc)
theorem br_sorted : Brn G (rSortA G.K) (biP .sorted) := by
  intro ι A H xs vs Q Q0 R r h k
  obtain ⟨i, ex, hh⟩ := biP_sorted h
  subst ex
  clear h
  have h := hh
  obtain ⟨v, e, rv⟩ := r.one
  obtain ⟨a, ev, hi⟩ := rv.ref
  unfold sortP at h
  cases e1 : A[i]? with
  | none => simp only [e1] at h
  | some c =>
    cases c with
    | lst ys =>
      simp only [e1] at h
      obtain ⟨bs, e2, h⟩ := opt_some h
      obtain ⟨us, q, z⟩ := R.lst hi e1
      have := ints_V e2 z
      subst this
      exact .inl ⟨a, bs, by rw [e, ev], .of q, fun ns' p h1 h2 hp => (k _ _ (h ns' h1 h2)).lst R (VRs.ints ns') p hp⟩
    | dct kvs =>
      simp only [e1] at h
      obtain ⟨bs, e2, h3, h⟩ := opt_some h
      obtain ⟨us, q, z⟩ := R.dct hi e1
      exact .inr ⟨a, us, bs, by rw [e, ev], .of q, keys_V e2 z, h3, fun ns' p h1 h2 hp => (k _ _ (h ns' h1 h2)).lst R (VRs.ints ns') p hp⟩
    | ro ys => simp only [e1] at h
theorem br_all : Brn G (rAll G.K) (biP .all) := by
  intro ι A H xs vs Q Q0 R r h k
  obtain ⟨i, ex, h⟩ := biP_all h
  · subst ex
    obtain ⟨v, e, rv⟩ := r.one
    obtain ⟨a, ev, hi⟩ := rv.ref
    obtain ⟨ys, e1, h⟩ := opt_some h
    obtain ⟨bs, e2, h⟩ := opt_some h
    obtain ⟨us, q, z⟩ := R.sqL hi e1
    exact ⟨a, bs, by rw [e, ev], by rw [← bis_V e2 z]; exact q, (k _ _ h).now R .mkBl⟩
/-! ### methods of lists -/
theorem recv_ty {ι : List Addr} {A : AH} {H : Hp} {x : D} {v : V} (R : Rep G ι A H) (r : VR G ι H x v) (h : recvP x A) : tyV G.K "list" v H := by
  cases x with
  | ref i =>
    obtain ⟨xs, e, _⟩ := opt_some h
    obtain ⟨a, ev, hi⟩ := r.ref
    obtain ⟨vs, q, z⟩ := R.lst hi (cellW_at e)
    rw [ev]
    exact .inl ⟨rfl, _, SqL.of q⟩
  | _ => exact (show False from h).elim
def Brm (G : GE) (r : V → List V → Hp → VK → Prop) (m : ME) : Prop := ∀ (ι : List Addr) (A : AH) (H : Hp) (x : D) (v : V) (xs : List D) (vs : List V) (Q : VK) (Q0 : DK), Rep G ι A H → VR G ι H x v → VRs G ι H xs vs → methP m x xs A Q0 → (∀ d A', Q0 d A' → PostV G ι H Q d A') → r v vs H Q
theorem le_bm {r : V → List V → Hp → VK → Prop} {m : ME} {to : WE} {t : DSt → AH → (List D → AH → Prop) → DX → Prop} (h : PE X e (tBM G.K "list" r (LE G W to) (LA G W t))) (br : Brm G r m) :
    PE X e (LE G W fun δ A Q Z => to δ A (fun x A1 => recvP x A1 ∧ t δ A1 (fun ds A2 => methP m x ds A2 Q) Z) Z) :=
  PE.weak h fun σ H Q ⟨ι, A, δ, Q0, E0, R, S, t, kQ, kE⟩ => ⟨ι, A, δ, _, E0, R, S, t, fun x A1 ⟨hr, h1⟩ ι1 H1 v s1 R1 r1 => ⟨recv_ty R1 r1 hr,
    ι1, A1, δ, _, E0, R1, S.mono s1, h1, fun ds A2 h2 ι2 H2 vs s2 R2 r2 => br ι2 A2 H2 x v ds vs Q Q0 R2 (VR.mono s2 _ _ r1) r2 h2 fun d A' q => (kQ d A' q).stp (s1.trans s2), fun c p A' q => (kE c p A' q).stp s1⟩, kE⟩
theorem le_bm0 {r : V → List V → Hp → VK → Prop} {m : ME} {to : WE} (h : PE X e (tBM0 G.K "list" r (LE G W to))) (br : Brm G r m) :
    PE X e (LE G W fun δ A Q Z => to δ A (fun x A1 => recvP x A1 ∧ methP m x [] A1 Q) Z) :=
  PE.weak h fun σ H Q ⟨ι, A, δ, Q0, E0, R, S, t, kQ, kE⟩ => ⟨ι, A, δ, _, E0, R, S, t, fun x A1 ⟨hr, h1⟩ ι1 H1 v s1 R1 r1 => ⟨recv_ty R1 r1 hr,
    br ι1 A1 H1 x v [] [] Q Q0 R1 r1 VRs.nil h1 fun d A' q => (kQ d A' q).stp s1⟩, kE⟩
theorem PostV.set {ι : List Addr} {A : AH} {H : Hp} {Q : VK} {d : D} {v : V} {i : Nat} {a : Addr} {ys : List D} {vs us : List V} (h : PostV G ι H Q d (A.set i (.lst ys))) (R : Rep G ι A H) (hi : ι[i]? = some a) (ha : H a = some (.lst vs)) (r : VRs G ι H ys us) (rd : VR G ι H d v) :
    Q v (upd H a (.lst us)) := by
  obtain ⟨st, R2⟩ := R.setL (xs := []) hi ha r
  exact h ι _ v st R2 (VR.mono st _ _ rd)
theorem br_append : Brm G rAppend .append := by
  intro ι A H x v xs vs Q Q0 R rx rs h k
  obtain ⟨i, y, ex, exs, h⟩ := methP_append h
  · subst ex exs
    obtain ⟨us, e1, hl, h⟩ := opt_some h
    obtain ⟨a, ev, hi⟩ := rx.ref
    obtain ⟨u, e, ru⟩ := rs.one
    obtain ⟨ws, q, z⟩ := R.lst hi (cellW_at e1)
    exact ⟨a, ws, u, ev, e, q, by rw [← z.len]; exact lim_lt hl, (k _ _ h).set R hi q (VRs.append z (.cons ru .nil)) .mkNon⟩
theorem dropLast_VRs {ι : List Addr} {H : Hp} {xs : List D} {vs : List V} (r : VRs G ι H xs vs) : VRs G ι H xs.dropLast vs.dropLast := by
  rw [List.dropLast_eq_take, List.dropLast_eq_take, r.len]
  exact VRs.take _ r
theorem br_pop0 : Brm G rPop .pop0 := by
  intro ι A H x v xs vs Q Q0 R rx rs h k
  obtain ⟨i, ex, exs, h⟩ := methP_pop0 h
  · subst ex exs
    obtain ⟨us, e1, h⟩ := opt_some h
    obtain ⟨y, e2, h⟩ := opt_some h
    obtain ⟨a, ev, hi⟩ := rx.ref
    obtain ⟨ws, q, z⟩ := R.lst hi (cellW_at e1)
    obtain ⟨w, ew, rw_⟩ := VRs.get z e2
    have en : vs = [] := by unfold VRs at rs; exact rs
    exact ⟨a, ws, w, ev, en, q, by rw [← z.len]; exact ew, (k _ _ h).set R hi q (dropLast_VRs z) rw_⟩
theorem br_pop1 : Brm G rPopAt .pop1 := by
  intro ι A H x v xs vs Q Q0 R rx rs h k
  obtain ⟨i, j, ex, exs, h⟩ := methP_pop1 h
  · subst ex exs
    obtain ⟨us, e1, ⟨b1, b2⟩, h⟩ := opt_some h
    obtain ⟨n, e2, h⟩ := opt_some h
    obtain ⟨y, e3, h⟩ := opt_some h
    obtain ⟨a, ev, hi⟩ := rx.ref
    obtain ⟨u, e, ru⟩ := rs.one
    obtain ⟨ws, q, z⟩ := R.lst hi (cellW_at e1)
    obtain ⟨w, ew, rw_⟩ := VRs.get z e3
    exact ⟨a, ws, j, n, w, ev, by rw [e, ru.int], q, b1, b2, by rw [← z.len]; exact e2, ew, (k _ _ h).set R hi q (VRs.erase n z) rw_⟩
theorem br_reverse : Brm G rReverse .reverse := by
  intro ι A H x v xs vs Q Q0 R rx rs h k
  obtain ⟨i, ex, exs, h⟩ := methP_reverse h
  · subst ex exs
    obtain ⟨us, e1, h⟩ := opt_some h
    obtain ⟨a, ev, hi⟩ := rx.ref
    obtain ⟨ws, q, z⟩ := R.lst hi (cellW_at e1)
    have en : vs = [] := by unfold VRs at rs; exact rs
    exact ⟨a, ws, ev, en, q, (k _ _ h).set R hi q z.rev .mkNon⟩
theorem br_extend : Brm G rExtend .extend := by
  intro ι A H x v xs vs Q Q0 R rx rs h k
  obtain ⟨i, j, ex, exs, h⟩ := methP_extend h
  · subst ex exs
    obtain ⟨us, e1, h⟩ := opt_some h
    obtain ⟨ts, e2, hl, h⟩ := opt_some h
    obtain ⟨a, ev, hi⟩ := rx.ref
    obtain ⟨u, e, ru⟩ := rs.one
    obtain ⟨b, eb, hb⟩ := ru.ref
    obtain ⟨ws, q, z⟩ := R.lst hi (cellW_at e1)
    obtain ⟨ps, q2, z2⟩ := R.lst hb (cellW_at e2)
    exact ⟨a, b, ws, ps, ev, by rw [e, eb], q, q2, by rw [← z.len, ← z2.len]; exact lim_line hl, (k _ _ h).set R hi q (VRs.append z z2) .mkNon⟩
end
end Zw
set_option Elab.async false
set_option linter.all false
set_option maxRecDepth 100000
set_option maxHeartbeats 4000000
/-! Zh: calls of defs, dict displays, what is walked, comprehensions. -/
namespace Zw
open PySem PySem.Spec PyProof.Rows L2

/-! ### calls of defs -/
/-- a def's promise over D's -/
def liftSp (G : GE) (sp : DSp) : Sp := fun vs H Q E => ∃ (ι : List Addr) (A : AH) (ds : List D) (Q0 : DK) (E0 : DX), Rep G ι A H ∧ VRs G ι H ds vs ∧ sp ds A Q0 E0 ∧ (∀ d A', Q0 d A' → PostV G ι H Q d A') ∧
  ∀ c p A', E0 c p A' → ∀ ι' H' cls d, Stp ι H ι' H' → Rep G ι' A' H' → XR G ι' H' c p cls d → E cls d H'
/-- how keywords bind: m values by place, then those of ks, in the parameters' order by perm -/
def KwB (K : PySem.W.Frag) (fd : FuncData) (ps : List Str) (m : Nat) (ks : List Str) (perm : List Nat) : Prop :=
  ∀ (s : Shared) (us ws : List Value), K.In s.heap → us.length = m → ws.length = ks.length → BindsTo s fd ⟨us, ks.zip ws⟩ (ps.zip (perm.map fun i => (us ++ ws).getD i .none))
/-- the def number k stands and keeps its promise -/
def FnI (G : GE) (L k : Nat) (sp : DSp) (kws : List (Nat × List Str × List Nat)) : Prop :=
  ∃ fd ps, FnOk G.P G.w G.K G.mg G.base (L2.CX G.P G.w) L (G.T k) fd ps (liftSp G sp) ∧ PySem.W.keepIn G.K (.ref (G.T k)) = true ∧ Binds G.K fd ps [] ∧ ∀ q ∈ kws, KwB G.K fd ps q.1 q.2.1 q.2.2

section
variable {G : GE} {X : Cx} {W : WX} {e : Expr}
theorem pe_call0SD {k : Nat} {f : Addr} {fd : FuncData} {ps : List Str} {sp : Sp} {E : L2.St → XK} {x : Str} {p pos : Pos} {CX : CXT} (F : FnOk X.prog X.w X.K X.mg X.base CX k f fd ps sp) (hr : Room k X.A) (hg : Gl X x) (hm : X.mg x = some (.ref f))
    (hk : PySem.W.keepIn X.K (.ref f) = true) (hb : Binds X.K fd ps []) (hx : ∀ σ, PassesAt CX X σ (E σ)) (hdb : (x == ("__debug__" : Str)) = false) : PE X (.Call (.Name x p) [] [] pos) (tCallSD sp [] E tNil) :=
  ⟨fun pins s σ H Q I h => wpAny_Call_Name_kw (ld_glob I hg hm (PySem.W.callWith_K0 I.kIn hk (run_fnSD (us := []) F hr hb .nil (hx σ) I .nil h)) hdb)⟩

/-! keywords -/
theorem kw_some {env : Env} {pos : Pos} : ∀ {kws : List Keyword}, kws.all (fun k => k.arg.isSome) = true → (backToKw pos (keywordEach kws env)).all (·.1.isSome) = true
  | [], _ => rfl
  | ⟨n, v, p⟩ :: r, h => by
    rw [List.all_cons, Bool.and_eq_true] at h
    show (n.isSome && (backToKw pos (keywordEach r env)).all (·.1.isSome)) = true
    rw [kw_some h.2, show n.isSome = true from h.1]; rfl
theorem kw_names {env : Env} {pos : Pos} : ∀ {kws : List Keyword}, (backToKw pos (keywordEach kws env)).filterMap (·.1) = kws.filterMap (·.arg)
  | [] => rfl
  | ⟨n, v, p⟩ :: r => by
    have ih := kw_names (env := env) (pos := pos) (kws := r)
    cases n with
    | none => exact ih
    | some n => exact congrArg (n :: ·) ih
theorem kw_noNone {env : Env} {pos : Pos} : ∀ {kws : List Keyword}, kws.all (fun k => k.arg.isSome) = true → (backToKw pos (keywordEach kws env)).any (·.1.isNone) = false
  | [], _ => rfl
  | ⟨n, v, p⟩ :: r, h => by
    rw [List.all_cons, Bool.and_eq_true] at h
    show (n.isNone || (backToKw pos (keywordEach r env)).any (·.1.isNone)) = false
    rw [kw_noNone h.2]
    have h1 : n.isSome = true := h.1
    cases n with
    | none => cases h1
    | some n => rfl
theorem vals_perm {vs : List V} {us : List Value} (r : Vals vs us) : ∀ perm : List Nat, Vals (perm.map fun i => vs.getD i .non) (perm.map fun i => us.getD i .none)
  | [] => .nil
  | i :: p => by
    refine .cons ?_ (vals_perm r p)
    show RelV (vs.getD i .non) (us.getD i .none)
    rw [List.getD_eq_getElem?_getD, List.getD_eq_getElem?_getD]
    cases e : vs[i]? with
    | none => rw [r.none_of e]; rfl
    | some v => obtain ⟨u, h1, h2⟩ := r.get e; rw [h1]; exact h2
theorem run_kw {pins : List (Addr × Obj)} {σ : L2.St} {k m : Nat} {f : Addr} {fd : FuncData} {ps ks : List Str} {perm : List Nat} {sp : Sp} {E : L2.St → XK} {CX : CXT} {s2 : Shared} {H2 : Hp} {us ws : List Value} {vs zs : List V} {Q : VK}
    (F : FnOk X.prog X.w X.K X.mg X.base CX k f fd ps sp) (hr : Room k X.A) (hb : KwB X.K fd ps m ks perm) (hx : ∀ σ, PassesAt CX X σ (E σ)) (I2 : Inv X pins σ H2 s2) (r1 : Vals vs us) (r2 : Vals zs ws) (l1 : vs.length = m) (l2 : zs.length = ks.length)
    (h2 : sp (perm.map fun i => (vs ++ zs).getD i .non) H2 Q (E σ)) : wpAny (model X.prog X.w) X.A (call (.ref f) us (ks.zip ws)) (EP X pins σ Q) X.xe s2 := by
  refine wpAny_call (codeAny_mono (F.run X.A X.stack s2 H2 ⟨us, ks.zip ws⟩ (perm.map fun i => (us ++ ws).getD i .none) (perm.map fun i => (vs ++ zs).getD i .non) Q (E σ) hr I2.env0
    (hb s2 us ws I2.kIn (by rw [← r1.length]; exact l1) (by rw [← r2.length]; exact l2)) (vals_perm (r1.append r2) perm) h2) fun r s' hq => ?_)
  cases r with
  | error e => exact hx σ pins H2 s2 e s' I2 hq
  | ok fl =>
    cases fl with
    | ret u => exact I2.after hq
    | _ => exact False.elim hq
section
variable {k m : Nat} {f : Addr} {fd : FuncData} {ps ks : List Str} {perm : List Nat} {sp : Sp} {E : L2.St → XK} {x : Str} {p pos : Pos} {CX : CXT} {es : List Expr} {kws : List Keyword} {t tk : TA}
/-- f(e, .., k = v, ..), the exceptions by the caller's slots -/
theorem pe_callKSD (F : FnOk X.prog X.w X.K X.mg X.base CX k f fd ps sp) (hr : Room k X.A) (hg : Gl X x) (hm : X.mg x = some (.ref f)) (hk : PySem.W.keepIn X.K (.ref f) = true) (hb : KwB X.K fd ps m ks perm) (hx : ∀ σ, PassesAt CX X σ (E σ))
    (hdb : (x == ("__debug__" : Str)) = false) (ha : PA X (e :: es) t) (hkw : PK X kws tk) (hs : (e :: es).all notStar = true) (hn : kws.all (fun k => k.arg.isSome) = true) (hks : kws.filterMap (·.arg) = ks) :
    PE X (.Call (.Name x p) (e :: es) kws pos) (fun σ H Q => t σ H fun vs H1 => tk σ H1 fun zs H2 => vs.length = m ∧ zs.length = ks.length ∧ sp (perm.map fun i => (vs ++ zs).getD i .non) H2 Q (E σ)) := by
  refine ⟨fun pins s σ H Q I h => ?_⟩
  refine wpAny_Call_Name_kw (ld_glob I hg hm ?_ hdb)
  rw [List.all_cons, Bool.and_eq_true] at hs
  refine PySem.W.callWith_KW (h₀ := X.base) I.ok.mod.kin hk (kw_some hn) (thn (ha.run pos pins s σ H _ I h) fun us s1 ⟨vs, H1, I1, r, q⟩ => ?_) ?_ (star_cons hs.1)
  · refine thn (hkw.run pos pins s1 σ H1 _ I1 q) fun ws s2 ⟨zs, H2, I2, rz, l1, l2, q2⟩ => ⟨I2.kIn, ?_⟩
    rw [kw_names, hks]
    exact run_kw F hr hb hx I2 r rz l1 l2 q2
  · rw [star_plain (by rw [List.all_cons, hs.1, hs.2]; rfl), kw_noNone hn]; rfl
theorem pe_callK0SD (F : FnOk X.prog X.w X.K X.mg X.base CX k f fd ps sp) (hr : Room k X.A) (hg : Gl X x) (hm : X.mg x = some (.ref f)) (hk : PySem.W.keepIn X.K (.ref f) = true) (hb : KwB X.K fd ps 0 ks perm) (hx : ∀ σ, PassesAt CX X σ (E σ))
    (hdb : (x == ("__debug__" : Str)) = false) (hkw : PK X kws tk) (hn : kws.all (fun k => k.arg.isSome) = true) (hks : kws.filterMap (·.arg) = ks) :
    PE X (.Call (.Name x p) [] kws pos) (fun σ H Q => tk σ H fun zs H2 => zs.length = ks.length ∧ sp (perm.map fun i => zs.getD i .non) H2 Q (E σ)) := by
  refine ⟨fun pins s σ H Q I h => ?_⟩
  refine wpAny_Call_Name_kw (ld_glob I hg hm ?_ hdb)
  refine PySem.W.callWith_KW0 (h₀ := X.base) I.ok.mod.kin hk (kw_some hn) ?_ (by rw [kw_noNone hn]; rfl)
  refine thn (hkw.run pos pins s σ H _ I h) fun ws s2 ⟨zs, H2, I2, rz, l2, q2⟩ => ⟨I2.kIn, ?_⟩
  rw [kw_names, hks]
  exact run_kw (vs := []) (us := []) F hr hb hx I2 .nil rz rfl l2 q2
end
/-- the wish of a call -/
theorem le_callOf {sp : DSp} {t : DSt → AH → (List D → AH → Prop) → DX → Prop} {t' : TE} (h : PE X e t') (k : ∀ σ H Q, LA G W t σ H (fun vs H1 => liftSp G sp vs H1 Q (L2.WE W σ)) → t' σ H Q) :
    PE X e (LE G W fun δ A Q Z => t δ A (fun ds A1 => sp ds A1 Q Z) Z) :=
  PE.weak h fun σ H Q ⟨ι, A, δ, Q0, E0, R, S, t, kQ, kE⟩ => k σ H Q ⟨ι, A, δ, _, E0, R, S, t, fun ds A1 h1 ι1 H1 vs s1 R1 r1 =>
    ⟨ι1, A1, ds, Q0, E0, R1, r1, h1, fun d A' q => (kQ d A' q).stp s1, fun c p A' q ι' H' cls d s2 R2 r2 => (kE c p A' q).stp s1 ι' H' cls d s2 R2 r2⟩, kE⟩
/-- keywords as arguments -/
theorem lk_nil : PK X [] (LA G W fun _ A Q _ => Q [] A) := ⟨fun po pins s σ H Q I ⟨ι, A, δ, Q0, E0, R, S, t, kQ, kE⟩ => pk_nil.run po pins s σ H Q I (kQ _ _ t ι H [] .refl R VRs.nil)⟩
theorem lk_cons {kws : List Keyword} {nm : Option Str} {kpos : Pos} {ta : WE} {t : DSt → AH → (List D → AH → Prop) → DX → Prop} (h : PE X e (LE G W ta)) (hr : PK X kws (LA G W t)) :
    PK X (⟨nm, e, kpos⟩ :: kws) (LA G W fun δ A Q Z => ta δ A (fun x A1 => t δ A1 (fun xs A2 => Q (x :: xs) A2) Z) Z) :=
  ⟨fun po pins s σ H Q I ⟨ι, A, δ, Q0, E0, R, S, t, kQ, kE⟩ => (pk_cons h hr).run po pins s σ H Q I ⟨ι, A, δ, _, E0, R, S, t, fun x A1 h1 ι1 H1 v s1 R1 r1 =>
    ⟨ι1, A1, δ, _, E0, R1, S.mono s1, h1, fun xs A2 h2 ι2 H2 vs s2 R2 r2 => ((kQ _ _ h2).stp s1) ι2 H2 (v :: vs) s2 R2 (.cons (VR.mono s2 _ _ r1) r2), fun c p A' q => (kE c p A' q).stp s1⟩, kE⟩⟩
theorem perm_VRs {ι : List Addr} {H : Hp} {ds : List D} {vs : List V} (r : VRs G ι H ds vs) : ∀ {perm : List Nat} {es : List D}, perm.mapM (fun i => ds[i]?) = some es → VRs G ι H es (perm.map fun i => vs.getD i .non)
  | [], es, h => by rw [List.mapM_nil] at h; cases h; exact VRs.nil
  | i :: p, es, h => by
    rw [List.mapM_cons] at h
    cases e1 : ds[i]? with
    | none => rw [e1] at h; cases h
    | some d =>
      cases e2 : p.mapM (fun i => ds[i]?) with
      | none => rw [e1, e2] at h; cases h
      | some es' =>
        rw [e1, e2] at h; cases h
        obtain ⟨v, ev, rv⟩ := r.get e1
        refine VRs.cons ?_ (perm_VRs r e2)
        show VR G ι H d (vs.getD i .non)
        rw [List.getD_eq_getElem?_getD, ev]; exact rv
theorem le_callk {m : Nat} {ks : List Str} {perm : List Nat} {sp : DSp} {ta tb : DSt → AH → (List D → AH → Prop) → DX → Prop}
    (h : PE X e (fun σ H Q => LA G W ta σ H fun vs H1 => LA G W tb σ H1 fun zs H2 => vs.length = m ∧ zs.length = ks.length ∧ liftSp G sp (perm.map fun i => (vs ++ zs).getD i .non) H2 Q (L2.WE W σ))) :
    PE X e (LE G W fun δ A Q Z => ta δ A (fun xs A1 => tb δ A1 (fun ys A2 => xs.length = m ∧ ys.length = ks.length ∧ opt (perm.mapM fun i => (xs ++ ys)[i]?) fun zs => sp zs A2 Q Z) Z) Z) :=
  PE.weak h fun σ H Q ⟨ι, A, δ, Q0, E0, R, S, t, kQ, kE⟩ => ⟨ι, A, δ, _, E0, R, S, t, fun xs A1 h1 ι1 H1 vs s1 R1 r1 =>
    ⟨ι1, A1, δ, _, E0, R1, S.mono s1, h1, fun ys A2 ⟨l1, l2, h2⟩ ι2 H2 us s2 R2 r2 => by
      obtain ⟨zs, ez, h2⟩ := opt_some h2
      exact ⟨by rw [← r1.len]; exact l1, by rw [← r2.len]; exact l2, ι2, A2, zs, Q0, E0, R2, perm_VRs (VRs.append (VRs.mono s2 _ _ r1) r2) ez, h2, fun d A' q => (kQ d A' q).stp (s1.trans s2),
        fun c p A' q ι' H' cls d s3 R3 r3 => (kE c p A' q).stp (s1.trans s2) ι' H' cls d s3 R3 r3⟩, fun c p A' q => (kE c p A' q).stp s1⟩, kE⟩

/-! ### dict displays: the keys are written texts -/
def pairsOf (G : GE) (W : WX) : List Key → List WE → List (TE × TE)
  | k :: ks, t :: ts => (tC (kV k), LE G W t) :: pairsOf G W ks ts
  | _, _ => []
/-- several expressions in a row -/
def rowP : List WE → DSt → AH → (List D → AH → Prop) → DX → Prop
  | [], _, A, Q, _ => Q [] A
  | t :: ts, δ, A, Q, Z => t δ A (fun x A1 => rowP ts δ A1 (fun xs A2 => Q (x :: xs) A2) Z) Z
theorem pairs_of {σ : L2.St} : ∀ {ks : List Key} {ts : List WE} {ι : List Addr} {A : AH} {δ : DSt} {H : Hp} {Q0 : List D → AH → Prop} {E0 : DX} {K : List (V × V) → Hp → Prop}, ks.length = ts.length → Rep G ι A H → SR G ι H δ σ → rowP ts δ A Q0 E0 →
    (∀ ds A', Q0 ds A' → ∀ ι' H' vs, Stp ι H ι' H' → Rep G ι' A' H' → VRs G ι' H' ds vs → K ((ks.map kV).zip vs) H') → (∀ c p A', E0 c p A' → PostX G ι H W σ c p A') → tPairs (pairsOf G W ks ts) σ H K
  | [], [], ι, A, δ, H, Q0, E0, K, _, R, S, h, kQ, kE => kQ _ _ h ι H [] .refl R VRs.nil
  | k :: ks, t :: ts, ι, A, δ, H, Q0, E0, K, hl, R, S, h, kQ, kE => by
    refine ⟨ι, A, δ, _, E0, R, S, h, fun x A1 h1 ι1 H1 v s1 R1 r1 => ?_, kE⟩
    exact pairs_of (ks := ks) (ts := ts) (by simpa using hl) R1 (S.mono s1) h1 (fun ds A' q ι' H' vs s2 R2 r2 => kQ _ _ q ι' H' (v :: vs) (s1.trans s2) R2 (VRs.cons (VR.mono s2 _ _ r1) r2)) fun c p A' q => (kE c p A' q).stp s1
def foldD (kvs : List (Key × D)) : List (Key × D) := kvs.foldl (fun acc kv => putD acc kv.1 kv.2) []
theorem KRs.merge {ι : List Addr} {H : Hp} : ∀ {more : List (Key × D)} {mv : List (Key × V)} {acc : List (Key × D)} {av : List (Key × V)}, KRs G ι H more mv → KRs G ι H acc av → KRs G ι H (more.foldl (fun acc kv => putD acc kv.1 kv.2) acc) (mergeK av mv)
  | [], mv, acc, av, h, h' => by have h : mv = [] := h; subst h; exact h'
  | (k, d) :: r, mv, acc, av, h, h' => by
    obtain ⟨v, rv, e, h1, h2⟩ := h
    subst e
    have t := KRs.merge h2 (KRs.put k h' h1)
    exact t
theorem pairs_V {ι : List Addr} {H : Hp} : ∀ {xs : List D} {kvs : List (Key × D)} {vs : List V}, pairsD xs = some kvs → VRs G ι H xs vs → ∃ (ps : List Addr) (ws : List (Key × V)), vs = ps.map V.ref ∧ Paired (fun p kv => SqT G.K H p [kV kv.1, kv.2]) ps ws ∧ KRs G ι H kvs ws
  | [], kvs, vs, h, r => by
    cases h
    unfold VRs at r
    subst r
    exact ⟨[], [], rfl, .nil, rfl⟩
  | x :: xs, kvs, vs, h, r => by
    unfold pairsD at h
    split at h <;> first | cases h | skip
    · rename_i e; cases e
    · rename_i k v r' e
      cases e
      cases ek : keyD k with
      | none => rw [ek] at h; cases h
      | some key =>
        rw [ek] at h
        cases er : pairsD xs with
        | none => simp only [er] at h; cases h
        | some ks =>
          simp only [er] at h
          cases h
          unfold VRs at r
          obtain ⟨u, us, eu, h1, h2⟩ := r
          obtain ⟨a, ws, e1, q, z⟩ := h1.tup
          obtain ⟨v1, v2, e2, r1, r2⟩ := z.two
          obtain ⟨ps, wss, e3, pp, kr⟩ := pairs_V er h2
          subst e1 e2 e3 eu
          refine ⟨a :: ps, (key, v2) :: wss, rfl, .cons ?_ pp, v2, wss, rfl, r2, kr⟩
          rw [keyD_V ek r1] at q
          exact q
theorem br_dict : Brn G (fun xs H Q => ∃ (a : Addr) (ps : List Addr) (kvs : List (Key × V)), xs = [.ref a] ∧ SqL G.K H a (ps.map V.ref) ∧ Paired (fun p kv => SqT G.K H p [kV kv.1, kv.2]) ps kvs ∧
    ∀ p, H p = none → Q (.ref p) (upd H p (.dK (mergeK [] kvs)))) (biP .dict) := by
  intro ι A H xs vs Q Q0 R r h k
  obtain ⟨i, ex, h⟩ := biP_dict h
  subst ex
  obtain ⟨v, e, rv⟩ := r.one
  obtain ⟨a, ev, hi⟩ := rv.ref
  obtain ⟨ys, e1, h⟩ := opt_some h
  obtain ⟨kvs, e2, h⟩ := opt_some h
  obtain ⟨us, q, z⟩ := R.sqL hi e1
  obtain ⟨ps, ws, e3, pp, kr⟩ := pairs_V e2 z
  subst e3
  exact ⟨a, ps, ws, by rw [e, ev], q, pp, (k _ _ h).dct R (KRs.merge kr rfl)⟩
theorem KRs.zip {ι : List Addr} {H : Hp} : ∀ {ks : List Key} {ds : List D} {vs : List V}, VRs G ι H ds vs → KRs G ι H (ks.zip ds) (ks.zip vs)
  | [], _, _, _ => rfl
  | k :: ks, [], vs, h => by unfold VRs at h; subst h; rfl
  | k :: ks, d :: ds, vs, h => by
    unfold VRs at h
    obtain ⟨v, r, e, h1, h2⟩ := h
    subst e
    exact ⟨v, _, rfl, h1, KRs.zip h2⟩
theorem zip_keys : ∀ (ks : List Key) (vs : List V), (ks.map kV).zip vs = (ks.zip vs).map fun kv => (kV kv.1, kv.2)
  | [], _ => rfl
  | _ :: _, [] => rfl
  | k :: ks, v :: vs => by
    show (kV k, v) :: (ks.map kV).zip vs = (kV k, v) :: ((ks.zip vs).map fun kv => (kV kv.1, kv.2))
    rw [zip_keys ks vs]
/-- a tracked dict becomes a cell -/
theorem Rep.adoptC {ι : List Addr} {A : AH} {H : Hp} (R : Rep G ι A H) {p : Addr} {c : Cell} (hn : p ∉ ι) (hc : CRep G (ι ++ [p]) H c p) : Rep G (ι ++ [p]) (A ++ [c]) H := by
  have mn : Mn ι H (ι ++ [p]) H := ⟨List.prefix_append _ _, fun b v e i => e⟩
  refine ⟨by rw [List.length_append, List.length_append, R.len]; rfl, ?_, fun i c' e => ?_, R.tabs⟩
  · refine List.nodup_append.mpr ⟨R.nd, List.nodup_cons.mpr ⟨by simp, List.nodup_nil⟩, fun a h1 b h2 => ?_⟩
    rw [List.mem_singleton.mp h2]
    rintro rfl
    exact hn h1
  · by_cases hi : i < A.length
    · rw [List.getElem?_append_left hi] at e
      obtain ⟨a, e1, h⟩ := R.at_ i c' e
      exact ⟨a, mn.ix e1, h.stepM mn rfl⟩
    · have hi2 : i = A.length := by
        have := (List.getElem?_eq_some_iff.mp e).1
        rw [List.length_append, List.length_singleton] at this
        omega
      subst hi2
      rw [List.getElem?_append_right (Nat.le_refl _), Nat.sub_self] at e
      cases e
      exact ⟨p, by rw [← R.len, List.getElem?_append_right (Nat.le_refl _), Nat.sub_self]; rfl, hc⟩
/-- from the state ahead of p, that was made on the way, to the state where p is a cell -/
theorem stp_adopt {ι ι' : List Addr} {H H' : Hp} {p : Addr} {o : HO} (hp : H p = none) (s : Stp ι H ι' H') (hp' : H' p = some o) : Stp ι H (ι' ++ [p]) H' :=
  ⟨s.pre.trans (List.prefix_append _ _), fun a h => by
    rcases List.mem_append.mp h with h | h
    · exact s.new a h
    · rw [List.mem_singleton.mp h]; exact .inr (fun o e => by rw [hp] at e; cases e), s.fr, s.there⟩
/-- .. and p is written -/
theorem stp_apart {ι ι' : List Addr} {H H' : Hp} {p : Addr} {u : HO} (hp : H p = none) (s : Stp ι H ι' H') : Stp ι H ι' (upd H' p u) :=
  ⟨s.pre, s.new, fun a o e q => by rw [upd_ne (ne_of_none e hp)]; exact s.fr a o e q, fun a o e n => by
    obtain ⟨o', e', n'⟩ := s.there a o e n
    exact ⟨o', by rw [upd_ne (ne_of_none e hp)]; exact e', n'⟩⟩
/-- p was made ahead of the step -/
theorem stp_under {ι ι' : List Addr} {H H' : Hp} {p : Addr} {o : HO} (hp : H p = none) (s : Stp ι (upd H p o) ι' H') : Stp ι H ι' H' := by
  refine ⟨s.pre, fun a z => ?_, fun a u e q => ?_, fun a u e n => ?_⟩
  · rcases s.new a z with y | y
    · exact .inl y
    · exact .inr fun o' e => y o' (by rw [upd_ne (ne_of_none e hp)]; exact e)
  · exact s.fr a u (by rw [upd_ne (ne_of_none e hp)]; exact e) q
  · exact s.there a u (by rw [upd_ne (ne_of_none e hp)]; exact e) n
theorem keys_ne : ∀ {ks : List Key}, ks ≠ [] → (ks.map kV) ≠ []
  | [], h => absurd rfl h
  | _ :: _, _ => by simp
theorem le_disp {ks : List Key} {ts : List WE} (hl : ks.length = ts.length) (h : PE X e (tDisp (pairsOf G W ks ts))) :
    PE X e (LE G W fun δ A Q Z => rowP ts δ A (fun ds A1 => ks.length ≤ 15 ∧ ds.length = ks.length ∧ Q (.ref A1.length) (A1 ++ [.dct (foldD (ks.zip ds))])) Z) :=
  PE.weak h fun σ H Q ⟨ι, A, δ, Q0, E0, R, S, t, kQ, kE⟩ p hp => by
    have sn : Stp ι H ι (upd H p (.dK [])) := stp_new hp
    refine pairs_of hl (R.new hp) (S.mono sn) t (fun ds A' ⟨l15, hlen, q⟩ ι' H' vs s1 R1 r1 => ?_) fun c p A' q => (kE c p A' q).stp sn
    have hn : p ∉ ι := R.fresh hp
    have hp1 : H' p = some (.dK []) := s1.fr p _ upd_same (.inr ⟨hn, fun z => z⟩)
    refine ⟨hp1, ks.zip vs, zip_keys ks vs, ?_, ?_⟩
    · rw [List.length_zip]
      exact Nat.le_trans (Nat.min_le_left _ _) l15
    · have hn1 : p ∉ ι' := fun z => by
        rcases s1.new p z with z | z
        · exact hn z
        · exact (show False from z _ upd_same).elim
      obtain ⟨R2, mn⟩ := R1.apart (u := .dK (mergeK [] (ks.zip vs))) hp1 (fun z => z) (fun z => z) hn1
      have mn2 : Mn ι' H' (ι' ++ [p]) (upd H' p (.dK (mergeK [] (ks.zip vs)))) := ⟨List.prefix_append _ _, mn.imm⟩
      have R3 := R2.adoptC (c := .dct (foldD (ks.zip ds))) hn1 ⟨_, upd_same, KRs.monoM mn2 _ _ (KRs.merge (KRs.zip r1) rfl)⟩
      have st : Stp ι H (ι' ++ [p]) (upd H' p (.dK (mergeK [] (ks.zip vs)))) := stp_adopt hp (stp_apart hp (stp_under hp s1)) upd_same
      exact kQ _ _ q _ _ _ st R3 (.mkRef R2.at_new)
end
end Zw
set_option Elab.async false
set_option linter.all false
set_option maxRecDepth 100000
set_option maxHeartbeats 4000000
/-! Zha: enumerate(tuple). -/
namespace PySem
open AutoSeq1 (wpAny_loadPart')
theorem zw_enumerate_newT (l : Addr) (items : Array Value) (n : Nat) (dct : Option Addr) (sl : Array (Option Value)) : Meets (Builtin.«enumerate.__new__» ⟨[.type "enumerate", .ref l], []⟩)
    (fun _ R s => s.heap.get? l = some { cls := .type "tuple", dict := dct, data := .seq items n, slots := sl } ∧ R (.ok (.ret (.ref (s.heap.push { cls := .type "tuple_iterator", data := .fields #[.ref l, .int 0 0] }).objs.size)))
      { s with heap := (s.heap.push { cls := .type "tuple_iterator", data := .fields #[.ref l, .int 0 0] }).push { cls := .type "enumerate", data := .fields #[.none, .bool false, .ref s.heap.objs.size, rawInt 0, .none, .none] } }) :=
  .of_wp fun prog w A R s h => by
    obtain ⟨hp, g, d, tk, os⟩ := s; obtain ⟨hl, h⟩ := h
    have hsub := sub_enumerate
    have hL : Heap.IsTuple (Shared.heap ⟨hp, g, d, tk, os⟩) l items := ⟨_, hl, rfl, n, rfl⟩
    wp_walk using wpAny_loadPart' hl
    refine wpAny_stack_any fun st => wpAny_pure ?_
    split
    · rename_i c _ _ _ _ _
      cases (c == Value.type "enumerate")
      · wp_walk using wpAny_loadPart' hl, wpAny_pyIter_tuple hL
        exact ⟨_, rfl, h⟩
      · wp_walk using wpAny_loadPart' hl, wpAny_pyIter_tuple hL
        exact ⟨_, rfl, h⟩
    · wp_walk using wpAny_loadPart' hl, wpAny_pyIter_tuple hL
      exact ⟨_, rfl, h⟩
section
variable {prog : Program} {w : World} {A : Around} {E : Value → Shared → Prop} {s : Shared}
theorem zw_call_enumerate {l : Addr} {items : Array Value} {Q : Value → Shared → Prop} (hL : s.heap.IsTuple l items)
    (h : ∀ h', IsEnum h' (s.heap.objs.size + 1) s.heap.objs.size 0 .none → h'.IsTupleIter s.heap.objs.size l 0 → h'.objs.size = s.heap.objs.size + 2 →
      (∀ b o, s.heap.get? b = some o → h'.get? b = some o) → Q (.ref (s.heap.objs.size + 1)) { s with heap := h' }) :
    wpAny (model prog w) A (call (.type "enumerate") [.ref l]) Q E s := by
  obtain ⟨⟨c, dct, dt, sl⟩, hl, hc, n, hd⟩ := hL
  replace hc : c = .type "tuple" := hc
  replace hd : dt = .seq items n := hd
  subst hc hd
  refine callType_new F.called_enumerate (by decide) (F.typeCall_enumerate_1 _) (F.newCall_enumerate_1 _) (fun obj => F.args_object_init_2 obj _) F.entry_enumerate_new
    (zw_enumerate_newT l items n dct sl) ⟨hl, ?_⟩
  have hz : (s.heap.push { cls := .type "tuple_iterator", data := .fields #[.ref l, .int 0 0] }).objs.size = s.heap.objs.size + 1 := Heap.size_push ..
  show _ ∧ _
  rw [hz]
  have he : IsEnum ((s.heap.push { cls := .type "tuple_iterator", data := .fields #[.ref l, .int 0 0] }).push
      { cls := .type "enumerate", data := .fields #[.none, .bool false, .ref s.heap.objs.size, rawInt 0, .none, .none] }) (s.heap.objs.size + 1) s.heap.objs.size 0 .none := by
    have := Heap.get?_push_size (s.heap.push { cls := .type "tuple_iterator", data := .fields #[.ref l, .int 0 0] })
      (o := { cls := .type "enumerate", data := .fields #[.none, .bool false, .ref s.heap.objs.size, rawInt 0, .none, .none] }) rfl
    rw [hz] at this; exact this
  refine ⟨⟨_, he, rfl⟩, h _ he ⟨_, Heap.get?_push_of_some _ (Heap.get?_push_size _ rfl), rfl, rfl⟩ (by rw [Heap.size_push, hz]) fun b o y => Heap.get?_push_of_some _ (Heap.get?_push_of_some _ y)⟩
end
end PySem
namespace Zw
open PySem PySem.Spec PyProof.Rows L2
/-- the tuple at a, each item in a new pair -/
def Itet (K : PySem.W.Frag) (a : Addr) : It :=
  ⟨fun i H => ∃ (xs : List V) (x : V), SqT K H a xs ∧ xs[i]? = some x, fun i H v H' => ∃ T x, v = .ref T ∧ H T = none ∧ H' = upd H T (.tup [.int (i : Nat), x]) ∧ ∀ xs, SqT K H a xs → xs[i]? = some x, fun i H => ∃ xs : List V, SqT K H a xs ∧ xs.length ≤ i⟩
theorem itup_ne {h : Heap} {a it e t : Addr} {i : Nat} {c : Int} {old : Value} {items : Array Value} (hT : h.IsTuple a items) (hI : h.IsTupleIter it t i) (he : IsEnum h e it c old) : a ≠ it ∧ e ≠ a := by
  obtain ⟨o1, g1, c1, _⟩ := hT
  obtain ⟨o2, g2, c2, _⟩ := hI
  refine ⟨fun z => ?_, fun z => ?_⟩
  · rw [z, g2] at g1
    cases g1
    rw [c1] at c2
    exact absurd c2 (by decide)
  · have g3 : h.get? e = some _ := he
    rw [z, g1] at g3
    cases g3
    exact absurd (show Value.type "enumerate" = Value.type "tuple" from c1) (by decide)
theorem turn_enumT {P : Program} {w : World} {K : PySem.W.Frag} {elts : List Expr} {kk : Nat} {tpos : Pos} (a e it : Addr) :
    Turn P w K (.Tuple elts kk tpos) (Itet K a) [e, it] e (fun i h => (∃ old, IsEnum h e it ((i : Nat) : Int) old) ∧ h.IsTupleIter it a i ∧ e ≠ it) where
  mem := by simp
  obj := fun i h st b hb => by
    obtain ⟨⟨old, he⟩, ⟨o, ho, hc, hd⟩, _⟩ := st
    have e' : b = e ∨ b = it := by simpa using hb
    rcases e' with z | z
    · rw [z]; exact ⟨_, he, fun v q => nomatch q⟩
    · rw [z]; exact ⟨o, ho, fun v q => by rw [hd] at q; cases q⟩
  keep := fun i h h' st k => let ⟨⟨old, he⟩, hi, hne⟩ := st; ⟨⟨old, k e (by simp) _ he⟩, hi.at fun o q => k it (by simp) o q, hne⟩
  item := by
    intro X hP hw hK hc i pins s σ H E I hf st hg
    subst hP hw hK
    obtain ⟨⟨old, he⟩, hit, hne⟩ := st
    obtain ⟨xs, x, hq, hx⟩ := hg
    obtain ⟨its, rv, p, hz⟩ := I.tuple hq
    obtain ⟨u, hu, ru⟩ := rv.get hx
    have hel : e < s.heap.objs.size := Heap.lt_size he
    have hil : it < s.heap.objs.size := by obtain ⟨_, q, _⟩ := hit; exact Heap.lt_size q
    have hlen := rv.length
    have hi : i < its.toArray.size := by
      have := (List.getElem?_eq_some_iff.mp hx).1
      show i < its.toArray.size
      rw [List.size_toArray]; omega
    obtain ⟨n1, n2⟩ := itup_ne (h := s.heap) (items := its.toArray) p hit he
    refine wpAny_pyNext_enum_itemD (Draws.tuple (prog := X.prog) (w := X.w) (A := X.A.in1) (I.ok.hd hc) it a n1 its.toArray) he ⟨hit, p⟩ hi hne (by simp [hne, n2]) fun y h' tk hy ho hst hT hsz hk => ?_
    have ey : y = u := by
      have hu' : its.toArray[i]? = some u := by simpa using hu
      rw [hu'] at hy
      exact (Option.some.inj hy).symm
    subst ey
    refine ⟨_, rfl, wpAny_letOwnedTupleGo_enum (s := { s with heap := h', toks := tk + 1 }) ho fun h'' he' sb => ?_⟩
    have hT2 : h''.get? s.heap.objs.size = some { cls := .type "tuple", data := .seq #[.int i tk, y] } := (sb.2 _ (Nat.ne_of_gt hel)).trans hT
    have new : ObjOk X.prog X.w (upd H s.heap.objs.size (.tup [.int (i : Nat), x])) h'' s.heap.objs.size (.tup [.int (i : Nat), x]) :=
      ⟨by show 2 ≤ sizeLine; decide, [.int i tk, y], .cons ⟨_, rfl⟩ (.cons ru .nil), ⟨_, hT2, rfl, _, rfl⟩⟩
    have I1 : Inv X pins σ (upd H s.heap.objs.size (.tup [.int (i : Nat), x])) { s with heap := h'', toks := tk + 1 } :=
      I.turnedNew (ch := [e, it]) (fun b ob hb q => (sb.2 b (fun z => hb (by simp [z]))).trans (hk b ob (fun z => hb (by simp [z])) (fun z => hb (by simp [z])) q)) hf (Nat.le_refl _) new
    refine ⟨.ref s.heap.objs.size, _, I1, rfl, ⟨_, x, rfl, I.hok.fresh (Nat.le_refl _), rfl, fun ys hy => by rw [I.tuple_inj hy hq]; exact hx⟩, ⟨⟨y, ?_⟩, hst.1.at fun o q => (sb.2 it (Ne.symm hne)).trans q, hne⟩, fun b hb => ?_⟩
    · have e1 : ((i + 1 : Nat) : Int) = (i : Int) + 1 := by omega
      rw [e1]; exact he'
    · have hb' : b < s.heap.objs.size := by
        have e' : b = e ∨ b = it := by simpa using hb
        rcases e' with z | z
        · rw [z]; exact hel
        · rw [z]; exact hil
      rw [upd_ne (Nat.ne_of_lt hb')]
      exact (hf b hb).1
  done := by
    intro X hP hw hK hc i pins s σ H E I hf st hg
    subst hP hw hK
    obtain ⟨⟨old, he⟩, hit, hne⟩ := st
    obtain ⟨xs, hq, hx⟩ := hg
    obtain ⟨its, rv, p, hz⟩ := I.tuple hq
    obtain ⟨f0, f1, f2, f3, f4, f5⟩ := hf it (by simp)
    have hl := rv.length
    have hT : s.TypeIs (.ref e) "enumerate" := ⟨_, he, rfl⟩
    have hxn : its.toArray[i]? = none := by simp; omega
    unfold pyNext
    refine wpAny_bind (wpAny_attempt (wpAny_callSpecial?_slot (name := Str.ofString "__next__") hT F.slot_enumerate_next
      (wpAny_call_entry F.slot_enumerate_next hT F.entry_enumerate_next ?_ (F.args_enumerate_next_1 _))))
    show wpAny _ _ (field (.ref e) 2 >>= _) _ _ _
    refine wpAny_bind (wpAny_field he rfl (x := .ref it) rfl ?_)
    refine wpAny_bind (wpAny_nextOf_tuple_end (I.ok.hd hc) hit p hxn fun h' x he' hx' => ?_)
    obtain ⟨o, ho, hc'⟩ := hx'
    refine wpAny_bind (wpAny_isInstance (T := "StopIteration") (b := true) ⟨o, ho, hc'⟩ isSubtype_stop ?_)
    exact wpAny_pure ⟨rfl, I.turned (t' := s.toks) (fun b o hb q => he' b o hb q) f0 f1 f3 f4 f5⟩
  self := fun A i s Q E st h => let ⟨⟨_, he⟩, _⟩ := st; wpAny_pyIter_enum he h
theorem pi_enumA {X : Cx} {e : Expr} {ta : TA} {p pos tpos : Pos} {elts : List Expr} {kk : Nat} (hg : Gl X "enumerate") (hm : X.mg "enumerate" = none) (ha : PA X [e] ta) (hs : starEach [e] X.env = [(false, eval e X.env)] := by rfl) :
    PI X (.Tuple elts kk tpos) (.Call (.Name "enumerate" p) [e] [] pos) (fun σ H R => ta σ H fun vs H1 => ∃ a xs, vs = [.ref a] ∧ ((SqL X.K H1 a xs ∧ R (Ite X.K a) H1) ∨ (SqT X.K H1 a xs ∧ R (Itet X.K a) H1))) := by
  refine ⟨fun pins s σ H R I h => ?_⟩
  refine Call_ (ld_blt I hg hm boot_enumerate (PyProof.Rows.callWith_type1 (thn (ha.run pos pins s σ H _ I h) fun us s1 ⟨vs, H1, I1, r1, q1⟩ => ?_) hs rfl))
  obtain ⟨a, xs, ex, hq⟩ := q1
  subst ex
  cases r1 with
  | cons r rr =>
    cases rr
    cases r
    have far : ∀ b, b ∈ [s1.heap.objs.size + 1, s1.heap.objs.size] → s1.heap.objs.size ≤ b := fun b hb => by
      have e' : b = s1.heap.objs.size + 1 ∨ b = s1.heap.objs.size := by simpa using hb
      rcases e' with z | z
      · rw [z]; exact Nat.le_add_right _ _
      · rw [z]; exact Nat.le_refl _
    rcases hq with ⟨hq, q⟩ | ⟨hq, q⟩
    · obtain ⟨its, rv, p', hz⟩ := I1.list hq
      refine call_enumerate_list p'.isList fun h' he hit hsz hk => wpAny_pyIter_enum he ?_
      have I2 : Inv X pins σ H1 { s1 with heap := h' } := I1.kept (t' := s1.toks) hk
      exact ⟨s1.heap.objs.size + 1, [s1.heap.objs.size + 1, s1.heap.objs.size], _, _, H1, rfl, I2, turn_enum a (s1.heap.objs.size + 1) s1.heap.objs.size, ⟨⟨.none, he⟩, hit, Nat.succ_ne_self _⟩, fun b hb => I1.fpOk (far b hb) (I1.hok.fresh (far b hb)), q⟩
    · obtain ⟨its, rv, p', hz⟩ := I1.tuple hq
      refine zw_call_enumerate p' fun h' he hit hsz hk => wpAny_pyIter_enum he ?_
      have I2 : Inv X pins σ H1 { s1 with heap := h' } := I1.kept (t' := s1.toks) hk
      exact ⟨s1.heap.objs.size + 1, [s1.heap.objs.size + 1, s1.heap.objs.size], _, _, H1, rfl, I2, turn_enumT a (s1.heap.objs.size + 1) s1.heap.objs.size, ⟨⟨.none, he⟩, hit, Nat.succ_ne_self _⟩, fun b hb => I1.fpOk (far b hb) (I1.hok.fresh (far b hb)), q⟩
end Zw
set_option Elab.async false
set_option linter.all false
set_option maxRecDepth 100000
set_option maxHeartbeats 4000000
/-! Zi: what is walked; comprehensions; isinstance. -/
namespace Zw
open PySem PySem.Spec PyProof.Rows L2

/-- the iterator gives just these, as long as gd holds -/
def ItOk (G : GE) (ι1 : List Addr) (H1 : Hp) (J : It) (xs : List D) (gd : AH → Prop) : Prop := ∀ (ι : List Addr) (A : AH) (H : Hp), Stp ι1 H1 ι H → Rep G ι A H → gd A →
  (∀ (i : Nat) (x : D), xs[i]? = some x → J.go i H ∧ ∀ v H', J.yld i H v H' → ∃ ι', Stp ι H ι' H' ∧ Rep G ι' A H' ∧ VR G ι' H' x v) ∧ J.stop xs.length H
abbrev WI := DSt → AH → (List D → (AH → Prop) → AH → Prop) → DX → Prop
def LI (G : GE) (W : WX) (t : WI) : TI := fun σ H R => ∃ (ι : List Addr) (A : AH) (δ : DSt) (Q0 : List D → (AH → Prop) → AH → Prop) (E0 : DX), Rep G ι A H ∧ SR G ι H δ σ ∧ t δ A Q0 E0 ∧
  (∀ xs gd A', Q0 xs gd A' → ∀ ι' H' J, Stp ι H ι' H' → Rep G ι' A' H' → ItOk G ι' H' J xs gd → R J H') ∧ ∀ c p A', E0 c p A' → PostX G ι H W σ c p A'

section
variable {G : GE} {X : Cx} {W : WX} {e tg : Expr}
theorem PI.weak {t t' : TI} (h : PI X tg e t) (k : ∀ σ H R, t' σ H R → t σ H R) : PI X tg e t' := ⟨fun pins s σ H R I q => h.run pins s σ H R I (k σ H R q)⟩
def iSeq (K : PySem.W.Frag) (tl : TE) : TI := fun σ H R => tl σ H fun x H1 => ∃ a, x = .ref a ∧ (((∃ xs, SqL K H1 a xs) ∧ R (Itl K a) H1) ∨ ((∃ xs, SqT K H1 a xs) ∧ R (Itt K a) H1))
theorem fp_new {pins : List (Addr × Obj)} {σ : L2.St} {H : Hp} {s : Shared} (I : Inv X pins σ H s) : ∀ b ∈ [s.heap.objs.size], FpOk X pins H b := fun b hb => by
  rw [List.mem_singleton.mp hb]
  exact I.fpOk (Nat.le_refl _) (I.hok.fresh (Nat.le_refl _))
/-- over a list or a tuple -/
theorem pi_seq {tl : TE} (hl : PE X e tl) : PI X tg e (iSeq X.K tl) := ⟨fun pins s σ H R I h => thn (hl.run pins s σ H _ I h) fun v s1 ⟨x, H1, I1, r1, a, ea, q1⟩ => by
  subst ea
  cases (show v = Value.ref a from r1)
  have old : ∀ {o : Obj} (b : Addr) (u : Obj), s1.heap.get? b = some u → (s1.heap.push o).get? b = some u := fun b u z => Heap.get?_push_of_some _ z
  rcases q1 with ⟨⟨xs, hq⟩, q⟩ | ⟨⟨xs, hq⟩, q⟩
  · obtain ⟨its, _, p, _⟩ := I1.list hq
    exact wpAny_pyIter_list p.isList ⟨_, [s1.heap.objs.size], _, Itl X.K a, H1, rfl, I1.kept (t' := s1.toks) old, turn_list a _, ⟨_, Heap.get?_push_size _ rfl, rfl, rfl⟩, fp_new I1, q⟩
  · obtain ⟨its, _, p, _⟩ := I1.tuple hq
    exact wpAny_pyIter_tuple (show s1.heap.IsTuple a its.toArray from p) ⟨_, [s1.heap.objs.size], _, Itt X.K a, H1, rfl, I1.kept (t' := s1.toks) old, turn_tuple a _, ⟨_, Heap.get?_push_size _ rfl, rfl, rfl⟩, fp_new I1, q⟩⟩
theorem itok_tup {ι : List Addr} {H : Hp} {a : Addr} {vs : List V} {ds : List D} (h : SqT G.K H a vs) (r : VRs G ι H ds vs) : ItOk G ι H (Itt G.K a) ds fun _ => True := fun ι' A' H' s R _ => by
  have h' := s.mn.rdT h
  have r' := VRs.mono s _ _ r
  refine ⟨fun i x e => ?_, vs, h', by rw [← r.len]; exact Nat.le_refl _⟩
  obtain ⟨v, ev, rv⟩ := r'.get e
  refine ⟨⟨vs, v, h', ev⟩, fun u H2 y => ?_⟩
  obtain ⟨e2, y⟩ := y
  subst e2
  have e3 := y vs h'
  rw [ev] at e3; cases e3
  exact ⟨ι', .refl, R, rv⟩
theorem itok_lst {ι : List Addr} {H : Hp} {a : Addr} {n : Nat} {ds : List D} (hi : ι[n]? = some a) : ItOk G ι H (Itl G.K a) ds fun A' => cellL A' n = some ds := fun ι' A' H' s R hg => by
  obtain ⟨vs, h', r'⟩ := R.sqL (s.ix hi) hg
  refine ⟨fun i x e => ?_, vs, h', by rw [← r'.len]; exact Nat.le_refl _⟩
  obtain ⟨v, ev, rv⟩ := r'.get e
  refine ⟨⟨vs, v, h', ev⟩, fun u H2 y => ?_⟩
  obtain ⟨e2, y⟩ := y
  subst e2
  have e3 := y vs h'
  rw [ev] at e3; cases e3
  exact ⟨ι', .refl, R, rv⟩
theorem itok_rol {ι : List Addr} {H : Hp} {a : Addr} {vs : List V} {ds : List D} (h : SqI G.K H a vs) (r : VRs G ι H ds vs) : ItOk G ι H (Itl G.K a) ds fun _ => True := fun ι' A' H' s R _ => by
  have h' := (s.mn.rdI h).l
  have r' := VRs.mono s _ _ r
  refine ⟨fun i x e => ?_, vs, h', by rw [← r.len]; exact Nat.le_refl _⟩
  obtain ⟨v, ev, rv⟩ := r'.get e
  refine ⟨⟨vs, v, h', ev⟩, fun u H2 y => ?_⟩
  obtain ⟨e2, y⟩ := y
  subst e2
  have e3 := y vs h'
  rw [ev] at e3; cases e3
  exact ⟨ι', .refl, R, rv⟩
theorem rng_get (lo : Int) (n i : Nat) : (rngD lo n)[i]? = if i < n then some (.int (lo + (i : Int))) else none := by
  unfold rngD
  rw [List.getElem?_map]
  by_cases h : i < n
  · rw [if_pos h, List.getElem?_range h]; rfl
  · rw [if_neg h, List.getElem?_eq_none (by rw [List.length_range]; omega)]; rfl
theorem itok_rng {ι : List Addr} {H : Hp} (lo : Int) (n : Nat) : ItOk G ι H (Itr lo n) (rngD lo n) fun _ => True := fun ι' A' H' s R _ => by
  refine ⟨fun i x e => ?_, by show n ≤ (rngD lo n).length; unfold rngD; rw [List.length_map, List.length_range]; exact Nat.le_refl _⟩
  rw [rng_get] at e
  by_cases h : i < n
  · rw [if_pos h] at e; cases e
    refine ⟨h, fun v H2 y => ?_⟩
    obtain ⟨e2, e3⟩ := y
    subst e2 e3
    exact ⟨ι', .refl, R, .mkInt⟩
  · rw [if_neg h] at e; cases e
theorem li_seq {t : Zw.WE} (hK : X.K = G.K) (h : PE X e (LE G W t)) : PI X tg e (LI G W fun δ A Q Z => t δ A (fun x A1 => itP x A1 fun xs gd => Q xs gd A1) Z) :=
  PI.weak (pi_seq h) fun σ H Rr ⟨ι, A, δ, Q0, E0, R, S, t, kQ, kE⟩ => ⟨ι, A, δ, _, E0, R, S, t, fun x A1 h1 ι1 H1 v s1 R1 r1 => by
    cases x with
    | tup ds =>
      obtain ⟨a, vs, ev, q, z⟩ := r1.tup
      rw [hK]
      exact ⟨a, ev, .inr ⟨⟨vs, q⟩, kQ _ _ _ h1 ι1 H1 _ s1 R1 (itok_tup q z)⟩⟩
    | tux ds =>
      obtain ⟨a, vs, ev, q, z⟩ := r1.tuxT
      rw [hK]
      exact ⟨a, ev, .inr ⟨⟨vs, q⟩, kQ _ _ _ h1 ι1 H1 _ s1 R1 (itok_tup q z)⟩⟩
    | rol ds =>
      obtain ⟨a, vs, ev, q, z⟩ := r1.rol
      rw [hK]
      exact ⟨a, ev, .inl ⟨⟨vs, q.l⟩, kQ _ _ _ h1 ι1 H1 _ s1 R1 (itok_rol q z)⟩⟩
    | ref i =>
      obtain ⟨xs, e1, h1⟩ := opt_some h1
      obtain ⟨a, ev, hi⟩ := r1.ref
      obtain ⟨vs, q, z⟩ := R1.sqL hi e1
      rw [hK]
      exact ⟨a, ev, .inl ⟨⟨vs, q⟩, kQ _ _ _ h1 ι1 H1 _ s1 R1 (itok_lst hi)⟩⟩
    | _ => exact (show False from h1).elim, kE⟩
theorem rev_get {α : Type} {xs : List α} {i : Nat} {x : α} (h : xs.reverse[i]? = some x) : i < xs.length ∧ xs[xs.length - 1 - i]? = some x := by
  have hi : i < xs.length := by have := (List.getElem?_eq_some_iff.mp h).1; rwa [List.length_reverse] at this
  refine ⟨hi, ?_⟩
  rwa [List.getElem?_reverse hi] at h
theorem itok_revT {ι : List Addr} {H : Hp} {a : Addr} {vs : List V} {ds : List D} (h : SqT G.K H a vs) (r : VRs G ι H ds vs) : ItOk G ι H (RT.ItvT G.K a vs.length) ds.reverse fun _ => True := fun ι' A' H' s R _ => by
  have h' := s.mn.rdT h
  have r' := VRs.mono s _ _ r
  refine ⟨fun i x e => ?_, by show vs.length ≤ ds.reverse.length; rw [List.length_reverse, r.len]; exact Nat.le_refl _⟩
  obtain ⟨hi, e⟩ := rev_get e
  rw [r.len] at hi e
  obtain ⟨v, ev, rv⟩ := r'.get e
  refine ⟨⟨hi, vs, v, h', ev⟩, fun u H2 y => ?_⟩
  obtain ⟨e2, y⟩ := y
  subst e2
  have e3 := y vs h'
  rw [ev] at e3; cases e3
  exact ⟨ι', .refl, R, rv⟩
theorem itok_revI {ι : List Addr} {H : Hp} {a : Addr} {vs : List V} {ds : List D} (h : SqI G.K H a vs) (r : VRs G ι H ds vs) : ItOk G ι H (Itv G.K a vs.length) ds.reverse fun _ => True := fun ι' A' H' s R _ => by
  have h' := (s.mn.rdI h).l
  have r' := VRs.mono s _ _ r
  refine ⟨fun i x e => ?_, by show vs.length ≤ ds.reverse.length; rw [List.length_reverse, r.len]; exact Nat.le_refl _⟩
  obtain ⟨hi, e⟩ := rev_get e
  rw [r.len] at hi e
  obtain ⟨v, ev, rv⟩ := r'.get e
  refine ⟨⟨hi, vs, v, h', ev⟩, fun u H2 y => ?_⟩
  obtain ⟨e2, y⟩ := y
  subst e2
  have e3 := y vs h'
  rw [ev] at e3; cases e3
  exact ⟨ι', .refl, R, rv⟩
theorem itok_revL {ι : List Addr} {H : Hp} {a : Addr} {n : Nat} {ds : List D} (hi : ι[n]? = some a) : ItOk G ι H (Itv G.K a ds.length) ds.reverse fun A' => cellL A' n = some ds := fun ι' A' H' s R hg => by
  obtain ⟨vs, h', r'⟩ := R.sqL (s.ix hi) hg
  refine ⟨fun i x e => ?_, by show ds.length ≤ ds.reverse.length; rw [List.length_reverse]; exact Nat.le_refl _⟩
  obtain ⟨hi, e⟩ := rev_get e
  obtain ⟨v, ev, rv⟩ := r'.get e
  refine ⟨⟨hi, vs, v, h', ev⟩, fun u H2 y => ?_⟩
  obtain ⟨e2, y⟩ := y
  subst e2
  have e3 := y vs h'
  rw [ev] at e3; cases e3
  exact ⟨ι', .refl, R, rv⟩
theorem enm_get : ∀ {xs : List D} {n i : Nat} {x : D}, (enmD n xs)[i]? = some x → ∃ d, x = .tup [.int ((n + i : Nat) : Int), d] ∧ xs[i]? = some d
  | [], n, i, x, h => by unfold enmD at h; simp at h
  | d :: xs, n, i, x, h => by
    unfold enmD at h
    cases i with
    | zero => simp at h; exact ⟨d, h.symm, rfl⟩
    | succ i =>
      simp at h
      obtain ⟨d', e1, e2⟩ := enm_get h
      exact ⟨d', by rw [e1]; congr 3; push_cast; omega, by simpa using e2⟩
theorem enm_len : ∀ {xs : List D} {n : Nat}, (enmD n xs).length = xs.length
  | [], _ => rfl
  | _ :: xs, n => by unfold enmD; rw [List.length_cons, List.length_cons, enm_len]
theorem itok_enmL {ι : List Addr} {H : Hp} {a : Addr} {n : Nat} {ds : List D} (hi : ι[n]? = some a) : ItOk G ι H (Ite G.K a) (enmD 0 ds) fun A' => cellL A' n = some ds := fun ι' A' H' s R hg => by
  obtain ⟨vs, h', r'⟩ := R.sqL (s.ix hi) hg
  refine ⟨fun i x e => ?_, vs, h', by rw [← r'.len, enm_len]; exact Nat.le_refl _⟩
  obtain ⟨d, ex, e⟩ := enm_get e
  obtain ⟨v, ev, rv⟩ := r'.get e
  refine ⟨⟨vs, v, h', ev⟩, fun u H2 y => ?_⟩
  obtain ⟨T, w, e1, hT, e2, y⟩ := y
  subst e1 e2
  have e3 := y vs h'
  rw [ev] at e3; cases e3
  refine ⟨ι', stp_new hT, R.new hT, ?_⟩
  rw [ex, Nat.zero_add]
  exact .mkTup (.of upd_same) (VRs.cons .mkInt (VRs.cons (VR.mono (stp_new hT) _ _ rv) VRs.nil))
theorem itok_enmI {ι : List Addr} {H : Hp} {a : Addr} {vs : List V} {ds : List D} (h : SqI G.K H a vs) (r : VRs G ι H ds vs) : ItOk G ι H (Ite G.K a) (enmD 0 ds) fun _ => True := fun ι' A' H' s R _ => by
  have h' := (s.mn.rdI h).l
  have r' := VRs.mono s _ _ r
  refine ⟨fun i x e => ?_, vs, h', by rw [← r.len, enm_len]; exact Nat.le_refl _⟩
  obtain ⟨d, ex, e⟩ := enm_get e
  obtain ⟨v, ev, rv⟩ := r'.get e
  refine ⟨⟨vs, v, h', ev⟩, fun u H2 y => ?_⟩
  obtain ⟨T, w, e1, hT, e2, y⟩ := y
  subst e1 e2
  have e3 := y vs h'
  rw [ev] at e3; cases e3
  refine ⟨ι', stp_new hT, R.new hT, ?_⟩
  rw [ex, Nat.zero_add]
  exact .mkTup (.of upd_same) (VRs.cons .mkInt (VRs.cons (VR.mono (stp_new hT) _ _ rv) VRs.nil))
theorem itok_enmT {ι : List Addr} {H : Hp} {a : Addr} {vs : List V} {ds : List D} (h : SqT G.K H a vs) (r : VRs G ι H ds vs) : ItOk G ι H (Itet G.K a) (enmD 0 ds) fun _ => True := fun ι' A' H' s R _ => by
  have h' := s.mn.rdT h
  have r' := VRs.mono s _ _ r
  refine ⟨fun i x e => ?_, vs, h', by rw [← r.len, enm_len]; exact Nat.le_refl _⟩
  obtain ⟨d, ex, e⟩ := enm_get e
  obtain ⟨v, ev, rv⟩ := r'.get e
  refine ⟨⟨vs, v, h', ev⟩, fun u H2 y => ?_⟩
  obtain ⟨T, w, e1, hT, e2, y⟩ := y
  subst e1 e2
  have e3 := y vs h'
  rw [ev] at e3; cases e3
  refine ⟨ι', stp_new hT, R.new hT, ?_⟩
  rw [ex, Nat.zero_add]
  exact .mkTup (.of upd_same) (VRs.cons .mkInt (VRs.cons (VR.mono (stp_new hT) _ _ rv) VRs.nil))
theorem li_rev {t : Zw.WE} {p pos : Pos} (hK : X.K = G.K) (hg : Gl X "reversed") (hm : X.mg "reversed" = none) (ns : notStar e = true) (h : PE X e (LE G W t)) :
    PI X tg (.Call (.Name "reversed" p) [e] [] pos) (LI G W fun δ A Q Z => t δ A (fun x A1 => itP x A1 fun xs gd => Q xs.reverse gd A1) Z) :=
  PI.weak (RT.pi_revA hg hm h (star_cons ns)) fun σ H Rr ⟨ι, A, δ, Q0, E0, R, S, t, kQ, kE⟩ => ⟨ι, A, δ, _, E0, R, S, t, fun x A1 h1 ι1 H1 v s1 R1 r1 => by
    cases x with
    | tup ds =>
      obtain ⟨a, vs, ev, q, z⟩ := r1.tup
      rw [hK]
      exact ⟨a, vs, ev, .inr ⟨q, kQ _ _ _ h1 ι1 H1 _ s1 R1 (itok_revT q z)⟩⟩
    | tux ds =>
      obtain ⟨a, vs, ev, q, z⟩ := r1.tuxT
      rw [hK]
      exact ⟨a, vs, ev, .inr ⟨q, kQ _ _ _ h1 ι1 H1 _ s1 R1 (itok_revT q z)⟩⟩
    | rol ds =>
      obtain ⟨a, vs, ev, q, z⟩ := r1.rol
      rw [hK]
      exact ⟨a, vs, ev, .inl ⟨q.l, kQ _ _ _ h1 ι1 H1 _ s1 R1 (itok_revI q z)⟩⟩
    | ref i =>
      obtain ⟨xs, e1, h1⟩ := opt_some h1
      obtain ⟨a, ev, hi⟩ := r1.ref
      obtain ⟨vs, q, z⟩ := R1.sqL hi e1
      rw [hK]
      refine ⟨a, vs, ev, .inl ⟨q, ?_⟩⟩
      rw [← z.len]
      exact kQ _ _ _ h1 ι1 H1 _ s1 R1 (itok_revL hi)
    | _ => exact (show False from h1).elim, kE⟩
theorem li_enm {t : Zw.WE} {p pos tpos : Pos} {elts : List Expr} {kk : Nat} (hK : X.K = G.K) (hg : Gl X "enumerate") (hm : X.mg "enumerate" = none) (ns : notStar e = true) (h : PE X e (LE G W t)) :
    PI X (.Tuple elts kk tpos) (.Call (.Name "enumerate" p) [e] [] pos) (LI G W fun δ A Q Z => t δ A (fun x A1 => itP x A1 fun xs gd => Q (enmD 0 xs) gd A1) Z) :=
  PI.weak (pi_enumA hg hm (pa_cons h pa_nil (star_cons ns)) (by rw [star_cons ns]; rfl)) fun σ H Rr ⟨ι, A, δ, Q0, E0, R, S, t, kQ, kE⟩ => ⟨ι, A, δ, _, E0, R, S, t, fun x A1 h1 ι1 H1 v s1 R1 r1 => by
    cases x with
    | tup ds =>
      obtain ⟨a, vs, ev, q, z⟩ := r1.tup
      rw [hK]
      exact ⟨a, vs, by rw [ev], .inr ⟨q, kQ _ _ _ h1 ι1 H1 _ s1 R1 (itok_enmT q z)⟩⟩
    | tux ds =>
      obtain ⟨a, vs, ev, q, z⟩ := r1.tuxT
      rw [hK]
      exact ⟨a, vs, by rw [ev], .inr ⟨q, kQ _ _ _ h1 ι1 H1 _ s1 R1 (itok_enmT q z)⟩⟩
    | rol ds =>
      obtain ⟨a, vs, ev, q, z⟩ := r1.rol
      rw [hK]
      exact ⟨a, vs, by rw [ev], .inl ⟨q.l, kQ _ _ _ h1 ι1 H1 _ s1 R1 (itok_enmI q z)⟩⟩
    | ref i =>
      obtain ⟨xs, e1, h1⟩ := opt_some h1
      obtain ⟨a, ev, hi⟩ := r1.ref
      obtain ⟨vs, q, z⟩ := R1.sqL hi e1
      rw [hK]
      exact ⟨a, vs, by rw [ev], .inl ⟨q, kQ _ _ _ h1 ι1 H1 _ s1 R1 (itok_enmL hi)⟩⟩
    | _ => exact (show False from h1).elim, kE⟩
theorem li_rng1 {t : Zw.WE} {p pos : Pos} (hg : Gl X "range") (hm : X.mg "range" = none) (ns : notStar e = true) (h : PE X e (LE G W t)) :
    PI X tg (.Call (.Name "range" p) [e] [] pos) (LI G W fun δ A Q Z => t δ A (fun x A1 => match x with | .int n => (-(2 ^ 62) ≤ n ∧ n < 2 ^ 62) ∧ Q (rngD 0 n.toNat) (fun _ => True) A1 | _ => False) Z) :=
  PI.weak (pi_range1 hg hm (pa_cons h pa_nil (star_cons ns)) (by rw [star_cons ns]; rfl)) fun σ H Rr ⟨ι, A, δ, Q0, E0, R, S, t, kQ, kE⟩ => ⟨ι, A, δ, _, E0, R, S, t, fun x A1 h1 ι1 H1 v s1 R1 r1 => by
    cases x with
    | int n => exact ⟨n, by rw [r1.int], h1.1.1, h1.1.2, kQ _ _ _ h1.2 ι1 H1 _ s1 R1 (itok_rng 0 n.toNat)⟩
    | _ => exact (show False from h1).elim, kE⟩
theorem li_rng2 {b : Expr} {ta tb : Zw.WE} {p pos : Pos} (hg : Gl X "range") (hm : X.mg "range" = none) (ns : notStar e = true) (nb : notStar b = true) (ha : PE X e (LE G W ta)) (hb : PE X b (LE G W tb)) :
    PI X tg (.Call (.Name "range" p) [e, b] [] pos) (LI G W fun δ A Q Z => ta δ A (fun x A1 => tb δ A1 (fun y A2 => match x, y with | .int lo, .int hi => (-(2 ^ 62) ≤ lo ∧ lo < 2 ^ 62 ∧ -(2 ^ 62) ≤ hi ∧ hi < 2 ^ 62) ∧ Q (rngD lo (hi - lo).toNat) (fun _ => True) A2 | _, _ => False) Z) Z) :=
  PI.weak (pi_range2 hg hm (pa_cons ha (pa_cons hb pa_nil (star_cons nb)) (star_cons ns)) (by rw [star_cons ns, star_cons nb]; rfl) (by rw [star_cons nb]; rfl)) fun σ H Rr ⟨ι, A, δ, Q0, E0, R, S, t, kQ, kE⟩ =>
    ⟨ι, A, δ, _, E0, R, S, t, fun x A1 h1 ι1 H1 v s1 R1 r1 => ⟨ι1, A1, δ, _, E0, R1, S.mono s1, h1, fun y A2 h2 ι2 H2 u s2 R2 r2 => by
      cases x with
      | int lo =>
        cases y with
        | int hi => exact ⟨lo, hi, by rw [r1.int, r2.int], h2.1, kQ _ _ _ h2.2 ι2 H2 _ (s1.trans s2) R2 (itok_rng lo (hi - lo).toNat)⟩
        | _ => exact (show False from h2).elim
      | _ => exact (show False from h2).elim, fun c p A' q => (kE c p A' q).stp s1⟩, kE⟩

/-! ### comprehensions -/
theorem wipe_len (δ : DSt) : ∀ vs : List Nat, (wipeD δ vs).length = δ.length
  | [] => rfl
  | v :: vs => by unfold wipeD; rw [List.length_set, wipe_len δ vs]
theorem wipe_SR {ι : List Addr} {H : Hp} {δ : DSt} {σ : L2.St} (S : SR G ι H δ σ) : ∀ vs : List Nat, SR G ι H (wipeD δ vs) (wipe σ vs)
  | [] => S
  | v :: vs => by
    have ih := wipe_SR S vs
    refine ⟨by unfold wipeD wipe; rw [List.length_set, List.length_set]; exact ih.1, fun i d e => ?_⟩
    unfold wipeD at e
    by_cases hv : v = i
    · subst hv
      by_cases hl : v < (wipeD δ vs).length
      · rw [List.getElem?_set_self hl] at e; cases e
      · rw [List.getElem?_eq_none (by rw [List.length_set]; omega)] at e; cases e
    · rw [List.getElem?_set_ne hv] at e
      obtain ⟨u, e1, r⟩ := ih.2 i d e
      refine ⟨u, ?_, r⟩
      unfold wipe
      rw [List.getElem?_set_ne hv]; exact e1
theorem SR.put {ι : List Addr} {H : Hp} {δ : DSt} {σ : L2.St} {d : D} {v : V} (S : SR G ι H δ σ) (i : Nat) (r : VR G ι H d v) : SR G ι H (δ.set i (some d)) (σ.set i (some v)) := by
  refine ⟨by rw [List.length_set, List.length_set]; exact S.1, fun j d' e => ?_⟩
  by_cases hj : i = j
  · subst hj
    by_cases hl : i < δ.length
    · rw [List.getElem?_set_self hl] at e; cases e
      exact ⟨v, List.getElem?_set_self (by rw [← S.1]; exact hl), r⟩
    · rw [List.getElem?_eq_none (by rw [List.length_set]; omega)] at e; cases e
  · rw [List.getElem?_set_ne hj] at e
    obtain ⟨u, e1, r'⟩ := S.2 j d' e
    exact ⟨u, by rw [List.getElem?_set_ne hj]; exact e1, r'⟩
theorem wipe_set {σ : L2.St} {g : Nat} {v : Option V} : ∀ {vs : List Nat}, g ∈ vs → wipe ((wipe σ vs).set g v) vs = wipe σ vs := by
  have aux : ∀ (us : List Nat) (τ : L2.St) (g : Nat) (v : Option V), g ∈ us → wipe (τ.set g v) us = wipe τ us := by
    intro us
    induction us with
    | nil => intro τ g v h; cases h
    | cons u us ih =>
      intro τ g v h
      unfold wipe
      by_cases hg : g ∈ us
      · rw [ih τ g v hg]
      · have e : g = u := by
          rcases List.mem_cons.mp h with z | z
          · exact z
          · exact absurd z hg
        subst e
        have comm : ∀ (us : List Nat) (τ : L2.St), g ∉ us → wipe (τ.set g v) us = (wipe τ us).set g v := by
          intro us
          induction us with
          | nil => intro τ _; rfl
          | cons w us ih2 =>
            intro τ hn
            unfold wipe
            rw [ih2 τ (fun z => hn (List.mem_cons_of_mem _ z)), List.set_comm]
            exact fun z => hn (by rw [z]; exact List.mem_cons_self)
        rw [comm us τ hg, List.set_set]
  have idem : ∀ (us : List Nat) (τ : L2.St), wipe (wipe τ us) us = wipe τ us := by
    intro us
    induction us with
    | nil => intro τ; rfl
    | cons u us ih =>
      intro τ
      show (wipe ((wipe τ us).set u none) us).set u none = (wipe τ us).set u none
      by_cases hu : u ∈ us
      · rw [aux us (wipe τ us) u none hu, ih]
      · have comm : ∀ (ws : List Nat) (τ : L2.St), u ∉ ws → wipe (τ.set u none) ws = (wipe τ ws).set u none := by
          intro ws
          induction ws with
          | nil => intro τ _; rfl
          | cons w ws ih2 =>
            intro τ hn
            unfold wipe
            rw [ih2 τ (fun z => hn (List.mem_cons_of_mem _ z)), List.set_comm]
            exact fun z => hn (by rw [z]; exact List.mem_cons_self)
        rw [comm us _ hu, ih, List.set_set]
  intro vs h
  rw [aux vs (wipe σ vs) g v h, idem]
/-- [e for x in it if c] -/
theorem comp_imp {g : Nat} {own : List Nat} {ti : WI} {tc : WT} {te : Zw.WE} (hg : g ∈ own) {σ : L2.St} {H : Hp} {Q : VK} :
    LE G W (fun δ A Q Z => ti δ A (fun xs gd A1 => compP gd g (wipeD δ own) (fun δ A k => tc δ A k fun _ _ _ => False) (fun δ A k => te δ A k fun _ _ _ => False) Q xs [] A1) Z) σ H Q →
    tLc (LI G W ti) (gName g) (LT G (fun _ _ _ _ => False) tc) (LE G (fun _ _ _ _ => False) te) own σ H Q :=
  fun ⟨ι, A, δ, Q0, E0, R, S, t, kQ, kE⟩ => ⟨ι, A, δ, _, E0, R, S, t, fun xs gd A1 h1 ι1 H1 J s1 R1 iok Dl hD => by
    refine ⟨fun i m Hc => m = xs.length - i ∧ i ≤ xs.length ∧ ∃ (ι' : List Addr) (A' : AH) (ad : List D) (av : List V), Stp ι1 H1 ι' Hc ∧ Rep G ι' A' Hc ∧ Dl ∉ ι' ∧ Hc Dl = some (.lst av) ∧ VRs G ι' Hc ad av ∧
      compP gd g (wipeD δ own) (fun δ A k => tc δ A k fun _ _ _ => False) (fun δ A k => te δ A k fun _ _ _ => False) Q0 (xs.drop i) ad A', ⟨xs.length, by simp, Nat.zero_le _, ι1, A1, [], [], stp_new hD, R1.new hD, R1.fresh hD, upd_same, VRs.nil, h1⟩, ?_⟩
    rintro i m Hc ⟨em, hi, ι', A', ad, av, st, Rc, hn, hDl, ra, hc⟩
    by_cases hlt : i < xs.length
    · obtain ⟨x, ex⟩ : ∃ x, xs[i]? = some x := ⟨xs[i], List.getElem?_eq_getElem hlt⟩
      have edrop : xs.drop i = x :: xs.drop (i + 1) := by
        have := List.drop_eq_getElem_cons hlt
        rw [this]
        have e3 : xs[i] = x := by rw [List.getElem?_eq_getElem hlt] at ex; exact Option.some.inj ex
        rw [e3]
      rw [edrop] at hc
      unfold compP at hc
      obtain ⟨hgd, hc⟩ := hc
      obtain ⟨hgo, hy⟩ := (iok ι' A' Hc st Rc hgd).1 i x ex
      refine .inr ⟨hgo, fun H' => ∃ m', m' < m ∧ (m' = xs.length - (i + 1) ∧ i + 1 ≤ xs.length ∧ ∃ (ι' : List Addr) (A' : AH) (ad : List D) (av : List V), Stp ι1 H1 ι' H' ∧ Rep G ι' A' H' ∧ Dl ∉ ι' ∧ H' Dl = some (.lst av) ∧ VRs G ι' H' ad av ∧
        compP gd g (wipeD δ own) (fun δ A k => tc δ A k fun _ _ _ => False) (fun δ A k => te δ A k fun _ _ _ => False) Q0 (xs.drop (i + 1)) ad A'), fun H' z => z, fun v H' y => ?_⟩
      obtain ⟨ι2, st2, R2, rx⟩ := hy v H' y
      have keepD : ∀ {ι3 : List Addr} {H3 : Hp}, Stp ι' Hc ι3 H3 → Dl ∉ ι3 ∧ H3 Dl = some (.lst av) := fun {ι3 H3} s3 => by
        refine ⟨fun z => ?_, s3.fr Dl _ hDl (.inr ⟨hn, fun z => z⟩)⟩
        rcases s3.new Dl z with z | z
        · exact hn z
        · exact (show False from z _ hDl).elim
      refine ⟨wipe_set hg, ι2, A', (wipeD δ own).set g (some x), _, fun _ _ _ => False, R2, (wipe_SR (S.mono ((s1.trans st).trans st2)) own).put g rx, hc, fun b A3 hb ι3 H3 st3 R3 => ?_, fun _ _ _ z => z.elim⟩
      have st13 := st2.trans st3
      cases b with
      | false =>
        obtain ⟨d1, d2⟩ := keepD st13
        exact ⟨xs.length - (i + 1), by omega, rfl, hlt, ι3, A3, ad, av, st.trans st13, R3, d1, d2, VRs.mono st13 _ _ ra, hb⟩
      | true =>
        refine ⟨ι3, A3, (wipeD δ own).set g (some x), _, fun _ _ _ => False, R3, ((wipe_SR (S.mono ((s1.trans st).trans st2)) own).put g rx).mono st3, hb, fun y A4 hb4 ι4 H4 w st4 R4 r4 => ?_, fun _ _ _ z => z.elim⟩
        obtain ⟨hl, hb4⟩ := hb4
        have st14 := st13.trans st4
        obtain ⟨d1, d2⟩ := keepD st14
        have ra4 := VRs.mono st14 _ _ ra
        refine ⟨av, d2, by rw [← ra4.len]; exact lim_lt hl, xs.length - (i + 1), by omega, rfl, hlt, ι4, A4, ad ++ [y], av ++ [w], ?_, ?_, d1, upd_same, ?_, hb4⟩
        · exact stp_apart hD (st.trans st14)
        · exact (R4.apart d2 (fun z => z) (fun z => z) d1).1
        · exact VRs.monoM (R4.apart d2 (fun z => z) (fun z => z) d1).2 _ _ (VRs.append ra4 (VRs.cons r4 VRs.nil))
    · have ei : i = xs.length := by omega
      subst ei
      rw [List.drop_length] at hc
      unfold compP at hc
      obtain ⟨hgd, hc⟩ := hc
      refine .inl ⟨(iok ι' A' Hc st Rc hgd).2, ?_⟩
      exact (kQ _ _ hc).stp s1 _ _ _ (stp_adopt hD st hDl) (Rc.adopt hDl hn ra) (.mkRef Rc.at_new), kE⟩
theorem le_comp {g : Nat} {own : List Nat} {ti : WI} {tc : WT} {te : Zw.WE} (hg : g ∈ own)
    (h : PE X e (tLc (LI G W ti) (gName g) (LT G (fun _ _ _ _ => False) tc) (LE G (fun _ _ _ _ => False) te) own)) :
    PE X e (LE G W fun δ A Q Z => ti δ A (fun xs gd A1 => compP gd g (wipeD δ own) (fun δ A k => tc δ A k fun _ _ _ => False) (fun δ A k => te δ A k fun _ _ _ => False) Q xs [] A1) Z) := PE.weak h fun σ H Q w => comp_imp hg w
end
end Zw
set_option Elab.async false
set_option linter.all false
set_option maxRecDepth 100000
set_option maxHeartbeats 4000000
/-! Zib: set comprehensions, over any kind of sets; sorted of a set of ints. -/
namespace Zw
open PySem PySem.Spec PyProof.Rows L2 PpSet
/-- a new set, empty -/
def set0 (w : World) : Obj := { cls := .type "set", dict := none, data := .set #[] 0 (.fresh 0 0 (!w.params.followText "set-order")) }
/-- a kind of sets: what is known of one, how it begins, what an add makes of it -/
structure SetK (P : Program) (w : World) where
  α : Type
  SO : Addr → α → HO
  a0 : α
  add : α → V → α → Prop
  new : ∀ (H : Hp) (h : Heap), ObjOk P w H (h.push (set0 w)) h.objs.size (SO h.objs.size a0)
  adds : ∀ (X : Cx), X.prog = P → X.w = w → ∀ {pins : List (Addr × Obj)} {σ : L2.St} {H : Hp} {s : Shared} {E : Value → Shared → Prop} {D : Addr} {a a' : α} {y : V} {u : Value} {Q : Value → Shared → Prop}, Inv X pins σ H s → H D = some (SO D a) → add a y a' → RelV y u →
    (∀ s', Inv X pins σ (upd H D (SO D a')) s' → Q .none s') → wpAny (model P w) X.A (call (.builtin "set.add") [.ref D, u]) Q E s
def kindI (P : Program) (w : World) : SetK P w where
  α := (Int → Bool) × Nat
  SO := fun D a => SetO w D a.1 a.2
  a0 := (fun _ => false, 0)
  add := fun a y a' => ∃ k, y = .int k ∧ a.2 + 1 < scanBound ∧ a' = (fun j => a.1 j || decide (j = k), if a.1 k = true then a.2 else a.2 + 1)
  new := fun H h => setO_new (setR_fresh w)
  adds := fun X hP hw {pins σ H s E D a a' y u Q} I hD ha ry h => by
    subst hP hw
    obtain ⟨k, ey, room, ea⟩ := ha
    subst ey ea
    obtain ⟨tk, eu⟩ := ry
    subst eu
    refine setR_add (setO_get I hD) room fun h' sb fr => h _ (I.write (e := D) (t' := s.toks + 1) (by rw [hD]; trivial) (.inl rfl) (fun b u n e => (sb.2 b n).trans e) ?_ (setO_new fr))
    obtain ⟨o, _, _, _, ho, _⟩ := fr
    exact ⟨o, ho⟩
section
variable {X : Cx}
/-- what a turn of {elt for tg in iter if ..} wishes; D the set -/
def tSK (S : SetK X.prog X.w) (wi : TI) (g : TG) (tt : TT) (te : TE) (vs : List Nat) : TE := fun σ H Q => wi σ H fun J H1 => ∀ D, H1 D = none →
  ∃ W : Nat → Nat → Hp → Prop, (∃ m, W 0 m (upd H1 D (S.SO D S.a0))) ∧ ∀ i m H, W i m H → (J.stop i H ∧ Q (.ref D) H) ∨ (J.go i H ∧ ∃ Nx : Hp → Prop, (∀ H', Nx H' → ∃ m', m' < m ∧ W (i + 1) m' H') ∧
    ∀ x H', J.yld i H x H' → g x (wipe σ vs) H' fun σ2 H2 => wipe σ2 vs = wipe σ vs ∧ tt σ2 H2 fun b H3 => if b = true then te σ2 H3 fun y H4 => ∃ a a', H4 D = some (S.SO D a) ∧ S.add a y a' ∧ Nx (upd H4 D (S.SO D a')) else Nx H3)
theorem pe_sk (S : SetK X.prog X.w) {elt tg iter : Expr} {ifs : List Expr} {scope : Scope} {own : List (PySem.Str × Nat)} {pos : Pos} {wi : TI} {g : TG} {tt : TT} {te : TE} (hc : X.calm = true) (hN : X.N.Nodup) (hi : PI X tg iter wi) (ok : BlkOk X.N X.env.scope scope own)
    (hg : ∀ (s : Shared) (H : Hp) (C : Addr) (cl : List (PySem.Str × Addr)) (fp : List Addr), PG (X.blk s H scope (compEnvC scope cl C X.env) fp) tg g) (ht : ∀ (s : Shared) (H : Hp) (C : Addr) (cl : List (PySem.Str × Addr)) (fp : List Addr), PTs (X.blk s H scope (compEnvC scope cl C X.env) fp) ifs tt)
    (he : ∀ (s : Shared) (H : Hp) (C : Addr) (cl : List (PySem.Str × Addr)) (fp : List Addr), PE (X.blk s H scope (compEnvC scope cl C X.env) fp) elt te) (hs : ∀ x, foldedSetIterable iter X.env x = pure x) :
    PE X (.SetComp elt [⟨tg, iter, ifs, 0⟩] scope pos) (tSK S wi g tt te (own.map (·.2))) := by
  refine ⟨fun pins s σ H Q I h => ?_⟩
  rw [eval_SetComp]
  have hfree : ∀ y ∈ scope.names, y.2 = .free → ∃ c, X.env.cells.lookup y.1 = some c := fun y hy e => (ok.free y hy e).elim (fun k => I.ok.has _ (.inl k)) fun k => I.ok.has _ (.inr k)
  refine wpAny_comprehension_free (use := none) rfl hs (closure_ok hfree) ok.kind (fun y hy e => by rw [ok.uniq y hy, e]) (thn (hi.run pins s σ H _ I h) fun xv s1 hx => thn hx fun itv s2 h2 => ?_)
  obtain ⟨it, fp, tn, J, H2, e, I2, T, st2, f2, q⟩ := h2
  subst e
  refine newSet_ok (newEnv_comp ?_)
  generalize hD : s2.heap.objs.size = D
  have hDn : H2 D = none := I2.hok.fresh (Nat.le_of_eq hD)
  obtain ⟨W, ⟨m0, w0⟩, turn⟩ := q D hDn
  generalize hs3 : ({ s2 with heap := s2.heap.push { cls := .type "set", dict := none, data := .set #[] 0 (.fresh 0 0 (!X.w.params.followText "set-order")) } } : Shared) = s3
  have I3 : Inv X pins σ (upd H2 D (S.SO D S.a0)) s3 := by
    rw [← hs3]
    refine I2.laid (t' := s2.toks) (fun b o e => Heap.get?_push_of_some _ e) (Nat.le_of_eq hD) ?_
    rw [← hD]
    exact S.new _ s2.heap
  have h3 : s3.heap = s2.heap.push { cls := .type "set", dict := none, data := .set #[] 0 (.fresh 0 0 (!X.w.params.followText "set-order")) } := by rw [← hs3]
  have sz : ∀ b ∈ fp, b < s2.heap.objs.size := fun b hb => by
    obtain ⟨o, e, _⟩ := T.obj _ _ st2 b hb
    exact Heap.lt_size e
  have f3 : ∀ b ∈ fp, FpOk X pins (upd H2 D (S.SO D S.a0)) b ∧ b < s3.heap.objs.size := fun b hb => by
    have hlt := sz b hb
    refine ⟨⟨?_, (f2 b hb).2⟩, by rw [h3, Heap.size_push]; exact Nat.lt_succ_of_lt hlt⟩
    rw [upd_ne (by rw [← hD]; exact Nat.ne_of_lt hlt)]
    exact (f2 b hb).1
  have st3 : tn 0 s3.heap := T.keep _ _ _ st2 fun b _ o e => by rw [h3]; exact Heap.get?_push_of_some _ e
  have I4 := block_start I3 ok hN f3
  have pg := hg s3 (upd H2 D (S.SO D S.a0)) s3.heap.objs.size (cellsFrom (s3.heap.objs.size + 1) scope.names (cloFrom X.env.cells scope.names [])) fp
  have pt := ht s3 (upd H2 D (S.SO D S.a0)) s3.heap.objs.size (cellsFrom (s3.heap.objs.size + 1) scope.names (cloFrom X.env.cells scope.names [])) fp
  have pe := he s3 (upd H2 D (S.SO D S.a0)) s3.heap.objs.size (cellsFrom (s3.heap.objs.size + 1) scope.names (cloFrom X.env.cells scope.names [])) fp
  show codeAny _ _ (.compStart (.SetComp elt [⟨tg, iter, ifs, 0⟩] scope pos) 0 (.ref it) (.ref D) (compEnvC scope (cellsFrom (s3.heap.objs.size + 1) scope.names (cloFrom X.env.cells scope.names [])) s3.heap.objs.size X.env)) (compPost (model X.prog X.w) X.A X.xe none _ (.ref D) s3.heap.objs.size) { s3 with heap := pushCells (s3.heap.push { cls := .type "dict", data := .dict #[] }) scope.names }
  have nfp : ∀ b ∈ fp, (upd H2 D (S.SO D S.a0)) b = none := fun b hb => (f3 b hb).1.1
  generalize hce : compEnvC scope (cellsFrom (s3.heap.objs.size + 1) scope.names (cloFrom X.env.cells scope.names [])) s3.heap.objs.size X.env = ce at I4 pg pt pe ⊢
  have cL : ce.locals = s3.heap.objs.size := by subst hce; rfl
  generalize hH3 : upd H2 D (S.SO D S.a0) = H3 at I3 I4 pg pt pe w0 nfp f3
  generalize hs4 : ({ s3 with heap := pushCells (s3.heap.push { cls := .type "dict", data := .dict #[] }) scope.names } : Shared) = s4 at I4 ⊢
  have st4 : tn 0 s4.heap := T.keep _ _ _ st3 fun b _ o e => by rw [← hs4]; exact pushCells_keeps _ _ _ _ (Heap.get?_push_of_some _ e)
  have stat : ∀ {σ' : L2.St} {H' : Hp} {s' : Shared}, Inv (X.blk s3 H3 scope ce fp) [] σ' H' s' → (∀ b ∈ fp, H' b = none) → ∀ b ∈ fp, FpOk (X.blk s3 H3 scope ce fp) [] H' b := fun {σ' H' s'} I' hn b hb =>
    ⟨hn b hb, (I'.ok.exf b hb).1, I'.ok.exfs b hb, .inl hb, fun x c e => (I'.ok.exf b hb).2 x c e, fun p hp => absurd (show p ∈ ([] : List (Addr × Obj)) ++ [] from hp) (by simp)⟩
  have loop : codeAny (model X.prog X.w) X.A (.compLoop (.SetComp elt [⟨tg, iter, ifs, 0⟩] scope pos) 0 (.ref it) (.ref D) ce) (compPost (model X.prog X.w) X.A X.xe none (fun v s' => ∃ x H', Inv X pins σ H' s' ∧ RelV x v ∧ Q x H') (.ref D) s3.heap.objs.size) s4 := by
    refine compLoopS_any (fun n s' => ∃ i H', Inv (X.blk s3 H3 scope ce fp) [] (wipe σ (own.map (·.2))) H' s' ∧ tn i s'.heap ∧ (∀ b ∈ fp, H' b = none) ∧ W i n H') ?_ m0 ⟨0, H3, I4, st4, nfp, w0⟩
    rintro n s5 ⟨i, H5, I5, st5, n5, w5⟩
    rcases turn i n H5 w5 with ⟨stop, qq⟩ | ⟨go, Nx, hNx, step⟩
    · have td := T.done (X.blk s3 H3 scope ce fp) rfl rfl rfl hc i [] s5 _ H5 (fun _ _ => False) I5 (stat I5 n5) st5 stop
      refine thnF td fun r s6 ⟨hr, I6⟩ => ?_
      subst hr
      have I7 : Inv X pins σ H5 s6 := I3.call' (ch := fp) I6.os I6.base I6.hok I6.bare fun b hb => ⟨(f3 b hb).1.2.2.2.1, (f3 b hb).1.2.1, (f3 b hb).1.2.2.2.2.1, (f3 b hb).1.2.2.2.2.2⟩
      have nC : H5 s3.heap.objs.size = none := by
        have z : H5 ce.locals = none := I6.free
        rw [cL] at z
        exact z
      obtain ⟨m, hn, _⟩ := I6.loc
      have hn : s6.heap.Ns ce.locals m := hn
      rw [cL] at hn
      refine ⟨m, hn, fun h'' sb => ?_⟩
      obtain ⟨f0, f1, f2, f3, f4, f5⟩ := I3.fpOk (Nat.le_refl _) nC
      exact ⟨.ref D, H5, I7.turned (t' := s6.toks) (fun b o hb e => (sb.2 b hb).trans e) f0 f1 f3 f4 f5, rfl, qq⟩
    · have ti := T.item (X.blk s3 H3 scope ce fp) rfl rfl rfl hc i [] s5 _ H5 (fun _ _ => False) I5 (stat I5 n5) st5 go
      refine thnF ti fun r s6 ⟨u, hr, h6⟩ => ?_
      subst hr
      refine thnF h6 fun _ s7 ⟨x, H7, I7, r7, y7, st7, n7⟩ => ?_
      have I7' := I7.pinned (stat I7 n7) (T.obj _ _ st7)
      refine thnF (pg.run _ s7 _ H7 x u _ I7' r7 (step x H7 y7)) fun _ s8 ⟨σ8, H8, I8, hw8, q8⟩ => ?_
      refine thnF (pt.run _ s8 σ8 H8 _ I8 q8) fun b s9 ⟨H9, I9, q9⟩ => ?_
      have fin : ∀ {s' : Shared} {H' : Hp}, Inv (X.blk s3 H3 scope ce fp) ([] ++ pinsAt fp s7.heap) σ8 H' s' → Nx H' → ∃ m, m < n ∧ ∃ i H', Inv (X.blk s3 H3 scope ce fp) [] (wipe σ (own.map (·.2))) H' s' ∧ tn i s'.heap ∧ (∀ b ∈ fp, H' b = none) ∧ W i m H' := fun {s' H'} I' nx => by
        obtain ⟨m', hm, w'⟩ := hNx H' nx
        have pin' : ∀ b ∈ fp, ∀ o, s7.heap.get? b = some o → s'.heap.get? b = some o ∧ H' b = none := fun b hb o e =>
          let z := I'.pin (b, o) (List.mem_append_right _ (List.mem_append_right _ (mem_pinsAt hb e)))
          ⟨z.1, z.2.1⟩
        have hl : (wipe σ (own.map (·.2))).length = σ8.length := by rw [← hw8, wipe_length]
        refine ⟨m', hm, i + 1, H', (I'.unpinned (pins := [])).weak hl (fun j v e => ?_), T.keep _ _ _ st7 fun b hb o e => (pin' b hb o e).1, fun b hb => ?_, w'⟩
        · rw [← hw8] at e
          exact (wipe_some e).1
        · obtain ⟨o, e, _⟩ := T.obj _ _ st7 b hb
          exact (pin' b hb o e).2
      cases b with
      | false =>
        simp only [Bool.false_eq_true, if_false] at q9 ⊢
        exact fin I9 q9
      | true =>
        simp only [if_true] at q9 ⊢
        refine thnF (pe.run _ s9 σ8 H9 _ I9 q9) fun z s10 ⟨yv, H10, I10, r10, a, a', hD10, hadd, nx⟩ => ?_
        exact S.adds (X.blk s3 H3 scope ce fp) rfl rfl I10 hD10 hadd r10 fun s11 I11 => fin I11 nx
  exact codeAny_compStart_set loop (T.self X.A 0 _ _ _ st4 loop)
end
end Zw
set_option Elab.async false
set_option linter.all false
set_option maxRecDepth 100000
set_option maxHeartbeats 4000000
/-! Zic: x.index(y) for None and ints; list(range(..)); a global tuple of texts; sorted of a set of ints. -/
namespace Zw
open PySem PySem.Spec PyProof.Rows L2 PpSet
def scalV : V → Option (Option Int)
  | .non => some none
  | .int i => some (some i)
  | _ => none
theorem eq_nn {A : Around} {s : Shared} : SeqAt.EqAt A s .none .none true := fun prog w E Q h => by
  unfold eqBool
  refine wpAny_holding ?_
  refine wpAny_ite_split (fun _ => wpAny_bind (wpAny_rule (wpAny_pure h))) (fun z => ?_)
  exact absurd rfl z
theorem scal_eq {A : Around} {s : Shared} {x y : V} {v u : Value} {a b : Option Int} (rx : RelV x v) (ry : RelV y u) (hx : scalV x = some a) (hy : scalV y = some b) : SeqAt.EqAt A s v u (decide (a = b)) := by
  cases x with
  | non =>
    cases rx; cases hx
    cases y with
    | non => cases ry; cases hy; exact eq_nn
    | int j => obtain ⟨t, rfl⟩ := ry; cases hy; exact SeqAt.EqAt.none_int _ _
    | _ => cases hy
  | int i =>
    obtain ⟨t, rfl⟩ := rx; cases hx
    cases y with
    | non => cases ry; cases hy; exact SeqAt.EqAt.int_none _ _
    | int j =>
      obtain ⟨t', rfl⟩ := ry; cases hy
      have e : decide (some i = some j) = (i == j) := by by_cases h : i = j <;> simp [h]
      rw [e]
      exact SeqAt.EqAt.int_int _ _ _ _
    | _ => cases hy
  | _ => cases hx
theorem beq_one {α : Type} (i j : BEq α) (hi : @LawfulBEq α i) (hj : @LawfulBEq α j) : i = j := by
  cases i with | mk f => cases j with | mk g =>
  congr
  funext a b
  by_cases h : a = b
  · subst h
    exact (@ReflBEq.rfl _ ⟨f⟩ hi.toReflBEq a).trans (@ReflBEq.rfl _ ⟨g⟩ hj.toReflBEq a).symm
  · have h1 : f a b = false := by
      cases e : f a b with
      | false => rfl
      | true => exact absurd (@LawfulBEq.eq_of_beq _ ⟨f⟩ hi a b e) h
    have h2 : g a b = false := by
      cases e : g a b with
      | false => rfl
      | true => exact absurd (@LawfulBEq.eq_of_beq _ ⟨g⟩ hj a b e) h
    rw [h1, h2]
theorem idx_o (k : Option Int) (ks : List (Option Int)) : @List.idxOf (Option Int) instBEqOfDecidableEq k ks = ks.idxOf k := by
  rw [beq_one (α := Option Int) instBEqOfDecidableEq Option.instBEq inferInstance inferInstance]
theorem scal_len : ∀ {xs : List V} {ks : List (Option Int)}, xs.mapM scalV = some ks → xs.length = ks.length
  | [], ks, h => by cases (show some [] = some ks from h); rfl
  | x :: xs, ks, h => by
    rw [List.mapM_cons] at h
    cases hx : scalV x with
    | none => rw [hx] at h; cases h
    | some a =>
      rw [hx] at h
      cases hr : xs.mapM scalV with
      | none => rw [hr] at h; cases h
      | some as =>
        rw [hr] at h
        cases (show some (a :: as) = some ks from h)
        rw [List.length_cons, List.length_cons, scal_len hr]
theorem scal_items {A : Around} {s : Shared} {y : V} {u : Value} {b : Option Int} (ry : RelV y u) (hy : scalV y = some b) : ∀ {xs : List V} {us : List Value} {ks : List (Option Int)}, Vals xs us → xs.mapM scalV = some ks →
    ∀ j (h1 : j < us.length) (h2 : j < ks.length), SeqAt.EqAt A s us[j] u (decide (ks[j] = b))
  | [], us, ks, hv, h => by
    cases hv
    intro j h1
    exact absurd h1 (Nat.not_lt_zero _)
  | x :: xs, us, ks, hv, h => by
    cases hv with
    | cons rx rr =>
    rw [List.mapM_cons] at h
    cases hx : scalV x with
    | none => rw [hx] at h; cases h
    | some a =>
      rw [hx] at h
      cases hr : xs.mapM scalV with
      | none => rw [hr] at h; cases h
      | some as =>
        rw [hr] at h
        cases (show some (a :: as) = some ks from h)
        intro j h1 h2
        cases j with
        | zero => exact scal_eq rx ry hx hy
        | succ j => exact scal_items ry hy rr hr j (Nat.lt_of_succ_lt_succ h1) (Nat.lt_of_succ_lt_succ h2)
section
variable {X : Cx}
def rIxL (K : PySem.W.Frag) : V → List V → Hp → VK → Prop := fun x vs H Q => ∃ (a : Addr) (xs : List V) (y : V) (ks : List (Option Int)) (k : Option Int), x = .ref a ∧ vs = [y] ∧ SqL K H a xs ∧ xs.mapM scalV = some ks ∧ scalV y = some k ∧ k ∈ ks ∧ ks.length ≤ sizeLine ∧ Q (.int (ks.idxOf k : Nat)) H
def rIxT : V → List V → Hp → VK → Prop := fun x vs H Q => ∃ (a : Addr) (o : Obj) (xs : List V) (y : V) (ks : List (Option Int)) (k : Option Int), x = .ref a ∧ vs = [y] ∧ H a = some (.frz o (.tup xs)) ∧ xs.mapM scalV = some ks ∧ scalV y = some k ∧ k ∈ ks ∧ Q (.int (ks.idxOf k : Nat)) H
theorem mt_ixL : MtR X "list.index" (rIxL X.K) := by
  intro pins s σ H x vs v us Q I rx rxs h
  obtain ⟨a, xs, y, ks, k, rfl, rfl, hl, hm, hy, hk, hz, q⟩ := h
  cases rx
  cases rxs with
  | cons ry rt =>
    cases rt
    obtain ⟨its, rv, p, _⟩ := I.list hl
    exact SeqAt.call_list_index p.isList ⟨by rw [← rv.length]; exact scal_len hm, scal_items ry hy rv hm⟩ hz hk ⟨.int _, H, I.tok _, ⟨_, rfl⟩, by rw [idx_o]; exact q⟩
theorem mt_ixT : MtR X "tuple.index" (rIxT) := by
  intro pins s σ H x vs v us Q I rx rxs h
  obtain ⟨a, o, xs, y, ks, k, rfl, rfl, hl, hm, hy, hk, q⟩ := h
  cases rx
  cases rxs with
  | cons ry rt =>
    cases rt
    obtain ⟨its, rv, p, _⟩ := I.tuple (.inl (.inr ⟨o, hl⟩))
    exact SeqAt.call_tuple_index (show s.heap.IsTuple _ its.toArray from p) ⟨by rw [← rv.length]; exact scal_len hm, scal_items ry hy rv hm⟩ hk ⟨.int _, H, I.tok _, ⟨_, rfl⟩, by rw [idx_o]; exact q⟩
end
section
variable {G : GE} {X : Cx} {W : WX} {e tg : Expr}
theorem scal_VR {ι : List Addr} {H : Hp} {d : D} {v : V} {k : Option Int} (r : VR G ι H d v) (h : scal d = some k) : scalV v = some k := by
  cases d with
  | non => rw [r.non]; exact h
  | int i => rw [r.int]; exact h
  | _ => cases h
theorem scal_VRs {ι : List Addr} {H : Hp} : ∀ {ds : List D} {vs : List V} {ks : List (Option Int)}, VRs G ι H ds vs → ds.mapM scal = some ks → vs.mapM scalV = some ks
  | [], vs, ks, r, h => by
    have e : vs = [] := by unfold VRs at r; exact r
    subst e; exact h
  | d :: ds, vs, ks, r, h => by
    unfold VRs at r
    obtain ⟨v, l, e, h1, h2⟩ := r
    subst e
    rw [List.mapM_cons] at h ⊢
    cases hx : scal d with
    | none => rw [hx] at h; cases h
    | some a =>
      rw [hx] at h
      rw [scal_VR h1 hx]
      cases hr : ds.mapM scal with
      | none => rw [hr] at h; cases h
      | some as =>
        rw [hr] at h
        rw [scal_VRs h2 hr]
        exact h
theorem le_ixL {to ty : Zw.WE} (h : PE X e (tBM G.K "list" (rIxL G.K) (LE G W to) (tCons (LE G W ty) tNil))) :
    PE X e (LE G W fun δ A Q Z => to δ A (fun x A1 => ixR false x A1 ∧ ty δ A1 (fun d A2 => ixP x d A2 Q) Z) Z) :=
  PE.weak h fun σ H Q ⟨ι, A, δ, Q0, E0, R, S, t, kQ, kE⟩ => ⟨ι, A, δ, _, E0, R, S, t, fun x A1 ⟨hr, h1⟩ ι1 H1 v s1 R1 r1 => by
    have hr' : ixRl A1 x := hr
    cases x with
    | ref i =>
      obtain ⟨xs0, e0, _⟩ := opt_some hr'
      obtain ⟨a, ev, hi⟩ := r1.ref
      obtain ⟨vs0, q0, z0⟩ := R1.lst hi (cellW_at e0)
      subst ev
      refine ⟨.inl ⟨rfl, _, SqL.of q0⟩, ι1, A1, δ, _, E0, R1, S.mono s1, h1, fun d A2 h2 ι2 H2 u s2 R2 r2 => ?_, fun c p A' q => (kE c p A' q).stp s1⟩
      obtain ⟨xs, e1, h2⟩ := opt_some h2
      obtain ⟨ks, e2, h2⟩ := opt_some h2
      obtain ⟨k, e3, ⟨hk, hl⟩, h2⟩ := opt_some h2
      obtain ⟨vs, q, z⟩ := R2.sqL (s2.ix hi) e1
      exact ⟨a, vs, u, ks, k, rfl, rfl, q, scal_VRs z e2, scal_VR r2 e3, hk, lim_line hl, ((kQ _ _ h2).stp (s1.trans s2)).now R2 .mkInt⟩
    | _ => exact (show False from hr').elim, kE⟩
def tyFz (x : V) (H : Hp) : Prop := ∃ (a : Addr) (o : Obj) (xs : List V), x = .ref a ∧ H a = some (.frz o (.tup xs)) ∧ o.cls = .type "tuple" ∧ o.dict = none
theorem tyFz_is {pins : List (Addr × Obj)} {σ : L2.St} {H : Hp} {s : Shared} {x : V} {v : Value} (I : Inv X pins σ H s) (r : RelV x v) (ty : tyFz x H) :
    s.TypeIs v "tuple" ∧ ∀ a, v = .ref a → ∃ ob, s.heap.get? a = some ob ∧ ob.dict = none := by
  obtain ⟨a, o, xs, ex, ha, hc, hd⟩ := ty
  subst ex
  cases (show v = Value.ref a from r)
  obtain ⟨e, _⟩ : ObjOk X.prog X.w H s.heap a (.frz o (.tup xs)) := I.hok a _ ha
  exact ⟨⟨o, e, hc⟩, fun b eb => by cases eb; exact ⟨o, e, hd⟩⟩
def tBZ (r : V → List V → Hp → VK → Prop) (to : TE) (t : TA) : TE := fun σ H Q => to σ H fun x H1 => tyFz x H1 ∧ t σ H1 fun xs H2 => r x xs H2 Q
theorem pe_bz {id : String} {name : Str} {o e : Expr} {es : List Expr} {apos cpos : Pos} {r : V → List V → Hp → VK → Prop} {to : TE} {t : TA} (pa : PlainAttrs "tuple") (slot : Slot "tuple" name id) (hty : typeOf (.builtin id) = pure (.type "method_descriptor")) (hm : MtR X id r) (ho : PE X o to) (ha : PA X (e :: es) t)
    (hbase : attributeBase o name X.env (eval o X.env) = eval o X.env)
    (hfew : ((backTo cpos (starEach (e :: es) X.env)).all (fun x => !x.1) && (backToKw cpos (keywordEach [] X.env)).all (fun x => x.1.isSome)
      && decide ((e :: es).length + ([] : List Keyword).length + (if ([] : List Keyword).isEmpty then 0 else 1) < 30)) = true)
    (hline : (apos.endLine == cpos.line) = true) (hs : starEach (e :: es) X.env = (false, eval e X.env) :: starEach es X.env) (hplain : (backTo cpos (starEach es X.env)).any (·.1) = false) :
    PE X (.Call (.Attribute o name apos) (e :: es) [] cpos) (tBZ r to t) := by
  refine ⟨fun pins s σ H Q I h => ?_⟩
  refine wpAny_Call_method_late hbase hfew hline rfl (thn (ho.run pins s σ H _ I h) fun v s1 ⟨x, H1, I1, r1, ty, q1⟩ => ?_)
  obtain ⟨h1, h2⟩ := tyFz_is I1 r1 ty
  refine ⟨"tuple", id, pa, slot, hty, h1, h2, ?_⟩
  have hA := ha.run cpos pins s1 σ H1 _ I1 q1
  rw [hs] at hA ⊢
  refine Calls.callWith_builtin (by show (false || (backTo cpos (starEach es X.env)).any (·.1)) = false; rw [hplain] <;> rfl) (Calls.evalArgs_plain ?_)
  exact thn hA fun us s2 ⟨vs, H2, I2, r2, q2⟩ => hm pins s2 σ H2 x vs v us Q I2 r1 r2 q2
theorem le_ixT {to ty : Zw.WE} (h : PE X e (tBZ rIxT (LE G W to) (tCons (LE G W ty) tNil))) :
    PE X e (LE G W fun δ A Q Z => to δ A (fun x A1 => ixR true x A1 ∧ ty δ A1 (fun d A2 => ixP x d A2 Q) Z) Z) :=
  PE.weak h fun σ H Q ⟨ι, A, δ, Q0, E0, R, S, t, kQ, kE⟩ => ⟨ι, A, δ, _, E0, R, S, t, fun x A1 ⟨hr, h1⟩ ι1 H1 v s1 R1 r1 => by
    have hr' : ixRt x := hr
    cases x with
    | tux xs =>
      obtain ⟨a, vs0, o, ev, q0, hc, hd, z0⟩ := r1.tux
      subst ev
      refine ⟨⟨a, o, vs0, rfl, q0, hc, hd⟩, ι1, A1, δ, _, E0, R1, S.mono s1, h1, fun d A2 h2 ι2 H2 u s2 R2 r2 => ?_, fun c p A' q => (kE c p A' q).stp s1⟩
      obtain ⟨xs', e1, h2⟩ := opt_some h2
      cases (show some xs = some xs' from e1)
      obtain ⟨ks, e2, h2⟩ := opt_some h2
      obtain ⟨k, e3, ⟨hk, hl⟩, h2⟩ := opt_some h2
      exact ⟨a, o, vs0, u, ks, k, rfl, rfl, s2.mn.imm _ _ q0 True.intro, scal_VRs (VRs.mono s2 _ _ z0) e2, scal_VR r2 e3, hk, ((kQ _ _ h2).stp (s1.trans s2)).now R2 .mkInt⟩
    | _ => exact (show False from hr').elim, kE⟩
/-- tuple(x), x a list: the new tuple is known to the object -/
def kTupX (K : PySem.W.Frag) : List V → Hp → VK → Prop := fun vs H Q => ∃ p xs, vs = [.ref p] ∧ SqL K H p xs ∧ ∀ (q : Addr) (o : Obj), o.cls = .type "tuple" → o.dict = none → H q = none → Q (.ref q) (upd H q (.frz o (.tup xs)))
theorem cr_tupX : CallR X (.type "tuple") (kTupX X.K) := by
  intro pins s σ H vs us Q I r h
  obtain ⟨p, xs, rfl, hs, q⟩ := h
  rw [Vals.ref1 r]
  obtain ⟨its, rv, pl, hz⟩ := I.list hs
  refine call_tuple_list pl.isList (fun h' hk => ?_) (by rw [List.size_toArray, ← rv.length]; exact hz)
  have I1 : Inv X pins σ H { s with heap := h' } := I.kept (t' := s.toks) hk
  have I2 : Inv X pins σ (upd H h'.objs.size (.frz { cls := .type "tuple", data := .seq its.toArray } (.tup xs))) { s with heap := h'.push { cls := .type "tuple", data := .seq its.toArray } } :=
    I1.laid (t' := s.toks) (fun b o e => Heap.get?_push_of_some _ e) (Nat.le_refl _) (show ObjOk X.prog X.w _ _ _ (.frz _ (.tup xs)) from ⟨Heap.get?_push_size _ rfl, hz, its, rv, IsTup.new _ _⟩)
  exact ⟨.ref h'.objs.size, _, I2, rfl, q _ _ rfl rfl (I1.hok.fresh (Nat.le_refl _))⟩
theorem le_tpx {t : Zw.WE} (hK : X.K = G.K) (h : PE X e (tCB (kTupX X.K) (tCons (LE G W t) tNil))) :
    PE X e (LE G W fun δ A Q Z => t δ A (fun x A1 => match x with | .ref i => opt (cellL A1 i) fun xs => Q (.tux xs) A1 | _ => False) Z) :=
  PE.weak h fun σ H Q ⟨ι, A, δ, Q0, E0, R, S, t, kQ, kE⟩ => ⟨ι, A, δ, _, E0, R, S, t, fun x A1 h1 ι1 H1 v s1 R1 r1 => by
    cases x with
    | ref i =>
      obtain ⟨xs, e1, h1⟩ := opt_some (show opt (cellL A1 i) fun xs => Q0 (.tux xs) A1 from h1)
      obtain ⟨a, ev, hi⟩ := r1.ref
      obtain ⟨vs, q, z⟩ := R1.sqL hi e1
      subst ev
      rw [hK]
      refine ⟨a, vs, rfl, q, fun p o hc hd hp => (kQ _ _ h1) ι1 _ _ (s1.trans (stp_new hp)) (R1.new hp) ?_⟩
      unfold VR
      exact ⟨p, vs, o, rfl, upd_same, hc, hd, VRs.mono (stp_new hp) _ _ z⟩
    | _ => exact (show False from h1).elim, kE⟩
theorem rng_VRs {ι : List Addr} {H : Hp} (lo : Int) : ∀ l : List Nat, VRs G ι H (l.map fun (i : Nat) => D.int (lo + (i : Int))) (l.map fun (i : Nat) => V.int (lo + (i : Int)))
  | [] => VRs.nil
  | i :: l => VRs.cons .mkInt (rng_VRs lo l)
theorem le_lrg1 {t : Zw.WE} (h : PE X e (tLstRg (tRg1 (LE G W t)))) :
    PE X e (LE G W fun δ A Q Z => t δ A (fun x A1 => match x with | .int n => (-(2 ^ 62) ≤ n ∧ n ≤ 1000000) ∧ Q (.ref A1.length) (A1 ++ [.lst (rngD 0 n.toNat)]) | _ => False) Z) :=
  PE.weak h fun σ H Q ⟨ι, A, δ, Q0, E0, R, S, t, kQ, kE⟩ => ⟨ι, A, δ, _, E0, R, S, t, fun x A1 h1 ι1 H1 v s1 R1 r1 => by
    cases x with
    | int n =>
      obtain ⟨⟨c1, c2⟩, h1⟩ := (show (-(2 ^ 62) ≤ n ∧ n ≤ 1000000) ∧ Q0 (.ref A1.length) (A1 ++ [.lst (rngD 0 n.toNat)]) from h1)
      refine ⟨n, r1.int, ⟨by omega, by omega, by omega, by omega, by omega⟩, ((kQ _ _ h1).stp s1).lst R1 ?_⟩
      have e : (n - 0).toNat = n.toNat := by rw [Int.sub_zero]
      unfold rngD rgV
      rw [e]
      exact rng_VRs 0 _
    | _ => exact (show False from h1).elim, kE⟩
theorem le_lrg2 {ta tb : Zw.WE} (h : PE X e (tLstRg (tRg2 (LE G W ta) (LE G W tb)))) :
    PE X e (LE G W fun δ A Q Z => ta δ A (fun x A1 => tb δ A1 (fun y A2 => match x, y with | .int lo, .int hi => (0 ≤ lo ∧ lo ≤ 1000000 ∧ 0 ≤ hi ∧ hi ≤ 1000000) ∧ Q (.ref A2.length) (A2 ++ [.lst (rngD lo (hi - lo).toNat)]) | _, _ => False) Z) Z) :=
  PE.weak h fun σ H Q ⟨ι, A, δ, Q0, E0, R, S, t, kQ, kE⟩ => ⟨ι, A, δ, _, E0, R, S, t, fun x A1 h1 ι1 H1 v s1 R1 r1 => ⟨ι1, A1, δ, _, E0, R1, S.mono s1, h1, fun y A2 h2 ι2 H2 u s2 R2 r2 => by
    cases x with
    | int lo =>
      cases y with
      | int hi =>
        obtain ⟨⟨c1, c2, c3, c4⟩, h2⟩ := (show (0 ≤ lo ∧ lo ≤ 1000000 ∧ 0 ≤ hi ∧ hi ≤ 1000000) ∧ Q0 (.ref A2.length) (A2 ++ [.lst (rngD lo (hi - lo).toNat)]) from h2)
        exact ⟨lo, hi, r1.int, r2.int, ⟨by omega, by omega, by omega, by omega, by omega⟩, ((kQ _ _ h2).stp (s1.trans s2)).lst R2 (rng_VRs lo _)⟩
      | _ => exact (show False from h2).elim
    | _ => exact (show False from h2).elim, fun c p A' q => (kE c p A' q).stp s1⟩, kE⟩
/-- a global tuple of texts -/
def GtI (G : GE) (k : Nat) (ss : List Str) : Prop := ∃ (o : Obj) (its : Array Value) (n : Nat), G.K.lookup (G.T k) = some o ∧ o.cls = .type "tuple" ∧ o.data = .seq its n ∧ its.size ≤ sizeLine ∧ Vals (ss.map V.str) its.toList
theorem strs_VRs {ι : List Addr} {H : Hp} : ∀ ss : List Str, VRs G ι H (ss.map .str) (ss.map V.str)
  | [] => VRs.nil
  | s :: ss => VRs.cons .mkStr (strs_VRs ss)
theorem GtI.vr {k : Nat} {ss : List Str} (h : GtI G k ss) (ι : List Addr) (H : Hp) : VR G ι H (.tup (ss.map .str)) (.ref (G.T k)) := by
  obtain ⟨o, its, n, h1, h2, h3, h4, h5⟩ := h
  exact .mkTup (.inr ⟨o, its, n, h1, h2, h3, h4, h5⟩) (strs_VRs ss)

/-! ### sorted of a set of ints -/
theorem nset {w : World} {D : Addr} {S : Int → Bool} {n : Nat} : ¬ Imm (SetO w D S n) := by
  rintro ⟨h, ⟨o, es, ep, t, ho, hx, hd, _⟩, k⟩
  have z := k D o ho
  unfold noSet at z
  rw [hd] at z
  exact z
theorem set_imp {w : World} {g : Nat} {own : List Nat} {ti : WI} {tc : WT} {te : Zw.WE} (hw : X.w = w) (hg : g ∈ own) {σ : L2.St} {H : Hp} {Q : VK} :
    LE G W (fun δ A Q Z => ti δ A (fun xs gd A1 => setP gd g (wipeD δ own) (fun δ A k => tc δ A k fun _ _ _ => False) (fun δ A k => te δ A k fun _ _ _ => False) Q xs [] A1) Z) σ H Q →
    tCB (rSortedSet X.w) (tCons (tSK (X := X) (kindI X.prog X.w) (LI G W ti) (gName g) (LT G (fun _ _ _ _ => False) tc) (LE G (fun _ _ _ _ => False) te) own) tNil) σ H Q :=
  fun ⟨ι, A, δ, Q0, E0, R, S, t, kQ, kE⟩ => ⟨ι, A, δ, _, E0, R, S, t, fun xs gd A1 h1 ι1 H1 J s1 R1 iok Dl hD => by
    refine ⟨fun i m Hc => m = xs.length - i ∧ i ≤ xs.length ∧ ∃ (ι' : List Addr) (A' : AH) (ad : List Int) (St : Int → Bool) (n : Nat), Stp ι1 H1 ι' Hc ∧ Rep G ι' A' Hc ∧ Dl ∉ ι' ∧ Hc Dl = some (SetO X.w Dl St n) ∧ (∀ k, St k = true ↔ k ∈ ad) ∧ n ≤ ad.length ∧ ad.length ≤ 60 ∧
      setP gd g (wipeD δ own) (fun δ A k => tc δ A k fun _ _ _ => False) (fun δ A k => te δ A k fun _ _ _ => False) Q0 (xs.drop i) ad A', ⟨xs.length, by simp, Nat.zero_le _, ι1, A1, [], (fun _ => false), 0, stp_new hD, R1.new hD, R1.fresh hD, upd_same, (fun k => by simp), Nat.zero_le _, by simp, h1⟩, ?_⟩
    rintro i m Hc ⟨em, hi, ι', A', ad, St, n, st, Rc, hn, hDl, ha, hz, h60, hc⟩
    by_cases hlt : i < xs.length
    · obtain ⟨x, ex⟩ : ∃ x, xs[i]? = some x := ⟨xs[i], List.getElem?_eq_getElem hlt⟩
      have edrop : xs.drop i = x :: xs.drop (i + 1) := by
        have := List.drop_eq_getElem_cons hlt
        rw [this]
        have e3 : xs[i] = x := by rw [List.getElem?_eq_getElem hlt] at ex; exact Option.some.inj ex
        rw [e3]
      rw [edrop] at hc
      unfold setP at hc
      obtain ⟨hgd, hc⟩ := hc
      obtain ⟨hgo, hy⟩ := (iok ι' A' Hc st Rc hgd).1 i x ex
      refine .inr ⟨hgo, fun H' => ∃ m', m' < m ∧ (m' = xs.length - (i + 1) ∧ i + 1 ≤ xs.length ∧ ∃ (ι' : List Addr) (A' : AH) (ad : List Int) (St : Int → Bool) (n : Nat), Stp ι1 H1 ι' H' ∧ Rep G ι' A' H' ∧ Dl ∉ ι' ∧ H' Dl = some (SetO X.w Dl St n) ∧ (∀ k, St k = true ↔ k ∈ ad) ∧ n ≤ ad.length ∧ ad.length ≤ 60 ∧
        setP gd g (wipeD δ own) (fun δ A k => tc δ A k fun _ _ _ => False) (fun δ A k => te δ A k fun _ _ _ => False) Q0 (xs.drop (i + 1)) ad A'), fun H' z => z, fun v H' y => ?_⟩
      obtain ⟨ι2, st2, R2, rx⟩ := hy v H' y
      have keepD : ∀ {ι3 : List Addr} {H3 : Hp}, Stp ι' Hc ι3 H3 → Dl ∉ ι3 ∧ H3 Dl = some (SetO X.w Dl St n) := fun {ι3 H3} s3 => by
        refine ⟨fun z => ?_, s3.fr Dl _ hDl (.inr ⟨hn, fun z => z⟩)⟩
        rcases s3.new Dl z with z | z
        · exact hn z
        · exact (show False from z _ hDl)
      refine ⟨wipe_set hg, ι2, A', (wipeD δ own).set g (some x), _, fun _ _ _ => False, R2, (wipe_SR (S.mono ((s1.trans st).trans st2)) own).put g rx, hc, fun b A3 hb ι3 H3 st3 R3 => ?_, fun _ _ _ z => z.elim⟩
      have st13 := st2.trans st3
      cases b with
      | false =>
        obtain ⟨d1, d2⟩ := keepD st13
        exact ⟨xs.length - (i + 1), by omega, rfl, hlt, ι3, A3, ad, St, n, st.trans st13, R3, d1, d2, ha, hz, h60, hb⟩
      | true =>
        refine ⟨ι3, A3, (wipeD δ own).set g (some x), _, fun _ _ _ => False, R3, ((wipe_SR (S.mono ((s1.trans st).trans st2)) own).put g rx).mono st3, hb, fun y A4 hb4 ι4 H4 w st4 R4 r4 => ?_, fun _ _ _ z => z.elim⟩
        cases y with
        | int k =>
          obtain ⟨hl, hb4⟩ := (show ad.length < 60 ∧ setP gd g (wipeD δ own) (fun δ A k => tc δ A k fun _ _ _ => False) (fun δ A k => te δ A k fun _ _ _ => False) Q0 (xs.drop (i + 1)) (ad ++ [k]) A4 from hb4)
          have st14 := st13.trans st4
          obtain ⟨d1, d2⟩ := keepD st14
          refine ⟨(St, n), (fun j => St j || decide (j = k), if St k = true then n else n + 1), d2, ⟨k, r4.int, ?_, rfl⟩, xs.length - (i + 1), by omega, rfl, hlt, ι4, A4, ad ++ [k], (fun j => St j || decide (j = k)), (if St k = true then n else n + 1), ?_, ?_, d1, upd_same, ?_, ?_, ?_, hb4⟩
          · exact Nat.lt_of_lt_of_le (show n + 1 < 64 by omega) (by decide)
          · exact stp_apart hD (st.trans st14)
          · exact (R4.apart d2 nset (fun z => z) d1).1
          · intro j
            rw [Bool.or_eq_true, decide_eq_true_eq, ha, List.mem_append, List.mem_singleton]
          · rw [List.length_append, List.length_singleton]; split <;> omega
          · rw [List.length_append, List.length_singleton]; omega
        | _ => exact (show False from hb4).elim
    · have ei : i = xs.length := by omega
      subst ei
      rw [List.drop_length] at hc
      unfold setP at hc
      obtain ⟨hgd, hc⟩ := hc
      refine .inl ⟨(iok ι' A' Hc st Rc hgd).2, Dl, St, n, rfl, hDl, by omega, fun ns p h1 h2 h3 hp => ?_⟩
      have q := hc ns h1 fun k => (h2 k).trans (ha k)
      exact ((kQ _ _ q).stp (s1.trans st)).lst Rc (vs := ns.map V.int) (ints_VR ns) p hp, kE⟩
where
  ints_VR {ι : List Addr} {H : Hp} : ∀ ns : List Int, VRs G ι H (ns.map .int) (ns.map V.int)
  | [] => VRs.nil
  | n :: ns => VRs.cons .mkInt (ints_VR ns)
theorem le_sset {g : Nat} {own : List Nat} {ti : WI} {tc : WT} {te : Zw.WE} (hg : g ∈ own)
    (h : PE X e (tCB (rSortedSet X.w) (tCons (tSK (X := X) (kindI X.prog X.w) (LI G W ti) (gName g) (LT G (fun _ _ _ _ => False) tc) (LE G (fun _ _ _ _ => False) te) own) tNil))) :
    PE X e (LE G W fun δ A Q Z => ti δ A (fun xs gd A1 => setP gd g (wipeD δ own) (fun δ A k => tc δ A k fun _ _ _ => False) (fun δ A k => te δ A k fun _ _ _ => False) Q xs [] A1) Z) := PE.weak h fun σ H Q w => set_imp rfl hg w
end
end Zw
set_option Elab.async false
set_option linter.all false
set_option maxRecDepth 100000
set_option maxHeartbeats 4000000
/-! Zj: an exception that is caught and kept under a name; a lambda that is called under a try. -/
namespace Zw
open PySem PySem.Spec PyProof.Rows L2

section
variable {X : Cx} {pins : List (Addr × Obj)} {σ : L2.St} {H : Hp} {s : Shared}
/-- an object that stands, of which nothing was known, is known from now on -/
theorem track_ext {a : Addr} {φ : Heap → Prop} (I : Inv X pins σ H s) (ha : H a = none) (hs : X.s_0.heap.get? a = none ∨ a ∈ X.ex) (hL : a ≠ X.env.locals) (hc : ∀ y c, X.env.cells.lookup y = some c → c ≠ a)
    (hp : ∀ p ∈ X.pn ++ pins, p.1 ≠ a) (h0 : X.ex = []) (ok : φ s.heap ∧ (∃ o, s.heap.get? a = some o) ∧ ∀ h1 h2 : Heap, φ h1 → (∀ o, h1.get? a = some o → h2.get? a = some o) → φ h2) :
    Inv X pins σ (upd H a (.ext φ)) s := by
  have old : X.s_0.heap.get? a = none := by
    rcases hs with z | z
    · exact z
    · rw [h0] at z; cases z
  have ne : ∀ b o, X.s_0.heap.get? b = some o → b ≠ a := fun b o e z => by rw [z, old] at e; cases e
  refine ⟨I.ok, I.os, I.bare, ⟨I.base.keep, I.base.slot, fun b o e n hx => ?_, I.base.there, fun b xs e => ?_, fun b o u e => ?_, fun b ps e => ?_⟩, I.loc, I.cell, ?_, fun y c e => ?_, fun p q => ?_, fun b o e => ?_, I.len⟩
  · rw [upd_ne (ne b o e)]; exact I.base.free b o e n hx
  · have z := I.base.tups b xs e
    rw [upd_ne (ne_of_none z ha)]; exact z
  · have z := I.base.frzs b o u e
    rw [upd_ne (ne_of_none z ha)]; exact z
  · obtain ⟨more, z⟩ := I.base.tbls b ps e
    exact ⟨more, by rw [upd_ne (ne_of_none z ha)]; exact z⟩
  · rw [upd_ne (Ne.symm hL)]; exact I.free
  · rw [upd_ne (hc y c e)]; exact I.freeC y c e
  · obtain ⟨e, n, r⟩ := I.pin p q
    exact ⟨e, by rw [upd_ne (hp p q)]; exact n, r⟩
  · by_cases hb : b = a
    · subst hb
      rw [upd_same] at e; cases e
      exact ok
    · rw [upd_ne hb] at e
      exact (I.hok b o e).stay (fun _ _ _ q => q) (fun c q => by rw [upd_ne (ne_of_none q ha)]; exact q) fun c xs q => by rw [upd_ne (ne_of_none q ha)]; exact q
end
theorem exT_ok {h : Heap} {a : Addr} {oe : Obj} {vs : Array Value} {cls : Value} {d : Option Addr} (e : h.get? a = some oe) (z : Zc cls d oe) (hd : oe.data = .fields vs) :
    (∃ (oe : Obj) (vs : Array Value), h.get? a = some oe ∧ Zc cls d oe ∧ oe.data = .fields vs) ∧ (∃ o, h.get? a = some o) ∧
      ∀ h1 h2 : Heap, (∃ (oe : Obj) (vs : Array Value), h1.get? a = some oe ∧ Zc cls d oe ∧ oe.data = .fields vs) → (∀ o, h1.get? a = some o → h2.get? a = some o) → ∃ (oe : Obj) (vs : Array Value), h2.get? a = some oe ∧ Zc cls d oe ∧ oe.data = .fields vs :=
  ⟨⟨oe, vs, e, z, hd⟩, ⟨oe, e⟩, fun _ _ ⟨o, v, q, r⟩ k => ⟨o, v, k o q, r⟩⟩
section
variable {X : Cx} {x n y : Str} {c : Value} {i j : Nat} {body : List Stmt} {np ny nv ps0 pos pos' : Pos} {tb : WX → TS} {Wout : WX}
/-- what 'except x as n: y = n' wishes of an exception of the body: slot i is n's, slot j is y's -/
def wKeep (K : PySem.W.Frag) (c : Value) (i j : Nat) (Wout : WX) (D : Ends) : WX := fun cls d σ H =>
  ∃ b, PySem.W.exmOne K cls c = some b ∧ (b = true → ∀ a, H a = none → D.nx (((σ.set i (some (.ref a))).set j (some (.ref a))).set i none) (upd H a (ExT cls d a))) ∧ (b = false → Wout cls d σ H)
theorem ps_try_keep (hs : X.stack = X.env :: X.outer) (hf : X.env.frame = some X.env.locals) (hN : X.N.Nodup) (hi : X.N[i]? = some n) (hj : X.N[j]? = some y) (hln : X.env.kindOf n = some .local) (hly : X.env.kindOf y = some .local) (hx0 : X.ex = [])
    (hlen : i < X.N.length) (hc : Names X x c) (tk : Takes X Wout) (hdn : (n == ("__debug__" : Str)) = false) (hdc : (n == ("__classdict__" : Str)) = false)
    (hb : ∀ (W : WX) (pn : List (Addr × Obj)) (xe : Value → Shared → Prop), Takes (X.tr pn xe) W → PassesOwn (model X.prog X.w) X.A X.env xe → PSs (X.tr pn xe) body (tb W)) :
    PS X (.Try body [.ExceptHandler (some (.Name x np)) (some n) [.Assign [.Name y ny] (.Name n nv) ps0] pos'] [] [] pos) (fun D σ H => tb (wKeep X.K c i j Wout D) D σ H) := by
  refine ⟨fun pins s σ H D I h => ?_⟩
  have ok := I.ok
  have frames : X.A.frames = some (X.env :: X.outer) := by rw [ok.frames, hs]
  refine wpAny_Try_except ?_
  let hand : Value → Shared → Prop := fun e t => wpAny (model X.prog X.w) X.A (noteFrame e X.env)
    (fun _ t2 => wpAny (model X.prog X.w) X.A (setFlight e none)
      (fun _ t3 => wpAny (model X.prog X.w) X.A (handleBy e X.env [.ExceptHandler (some (.Name x np)) (some n) [.Assign [.Name y ny] (.Name n nv) ps0] pos']) (SP X pins D) X.xe t3) X.xe t2) X.xe t
  have caught : Takes (X.tr (X.pn ++ pins) hand) (wKeep X.K c i j Wout D) := by
    intro u t xx
    obtain ⟨a, B, sI, pins', σ', H', cls, d, rfl, J', nb, up, sky, na, os, ag, b, eb, yes, no⟩ := xx
    have J : Inv X pins σ' H' sI := J'.ofTry ok
    have sky2 : Sky B (X.env :: X.outer) a (Zc cls d) X.env.locals t.heap := by rw [← hs]; exact sky
    show wpAny (model X.prog X.w) X.A (noteFrame (.ref a) X.env) _ _ _
    refine Sky.land Zc.steady frames hf sky2 fun hB flB upB => ?_
    have JB : Inv X pins σ' H' { t with heap := hB } := J.landed nb flB.1 (up.trans upB) os ag
    obtain ⟨oB, vB, getB, zB, dB⟩ := flB.there
    have outside : a ∉ frs (X.env :: X.outer) := fun hm => by
      obtain ⟨_, o2, e2, bad⟩ := flB.2.2.1.mem hm
      rw [getB] at e2; cases e2
      exact bad _ dB
    have aL : a ≠ X.env.locals := fun z => outside (List.mem_filterMap.mpr ⟨X.env, List.mem_cons_self, by rw [hf, z]⟩)
    have aF : a ∉ X.fs := fun hm => by
      obtain ⟨e, he, q⟩ := List.mem_filterMap.mp hm
      exact outside (List.mem_filterMap.mpr ⟨e, List.mem_cons_of_mem _ he, q⟩)
    have aI : sI.heap.get? a = none := by
      cases e : sI.heap.get? a with
      | none => rfl
      | some o =>
        have z := nb a o e (by rw [hs]; exact outside)
        rw [flB.2.1] at z; cases z
    have a0 : X.s_0.heap.get? a = none := by
      cases e : X.s_0.heap.get? a with
      | none => rfl
      | some o =>
        obtain ⟨o2, z⟩ := J.base.there a o e (by rw [hx0]; simp)
        rw [aI] at z; cases z
    have aC : ∀ q k, X.env.cells.lookup q = some k → k ≠ a := fun q k e z => by
      obtain ⟨v, o, ho, _⟩ := J.cell q k e
      rw [z, aI] at ho; cases ho
    have aP : ∀ p ∈ X.pn ++ pins, p.1 ≠ a := fun p hp z => by
      have q := (J.pin p hp).1
      rw [z, aI] at q; cases q
    have SB := JB.suite getB dB na aL aF
    refine wpAny_handleBy_cons (codeAny_handlers_test ?_) (by intro q; cases q)
    have ltype : PySem.W.Looks (model X.prog X.w) hB (typeOf (.ref a)) cls := fun A Q E s k q => wpAny_typeOf_ref (k _ _ getB) (by rw [zB.1]; exact q)
    have matches_ := PySem.W.exm_one (M := model X.prog X.w) JB.kIn ltype eb
    have named : ∀ {Q : Value → Shared → Prop} {E : Value → Shared → Prop}, Q c { t with heap := hB } → wpAny (model X.prog X.w) (X.A.mark (some (.ref a))) (eval (.Name x np) X.env) Q E { t with heap := hB } := fun {Q E} q => by
      obtain ⟨gx, gd, hm | ⟨hm, hv, hnn⟩⟩ := hc
      · exact ld_glob (X := X.suite a ((a, oB) :: (X.pn ++ pins))) SB gx hm q gd
      · exact ld_blt (X := X.suite a ((a, oB) :: (X.pn ++ pins))) SB gx hm hv q hnn gd
    refine named (matches_.here ?_)
    cases b with
    | true =>
      refine codeAny_handlers_suite_as ?_
      refine HandSPX.lands_againZ flB fun hC flC upC => ?_
      have JC : Inv X pins σ' H' { t with heap := hC } := J.landed nb flC.1 ((up.trans upB).trans upC) os ag
      obtain ⟨oC, vC, getC, zC, dC⟩ := flC.there
      have SC := JC.suite getC dC na aL aF
      refine store_ok (X := X.suite a ((a, oC) :: (X.pn ++ pins))) (v := .ref a) SC hN hi (.inl hln) rfl (fun t5 S5 => ?_) (.inr hln)
      have hlσ : i < σ'.length := by rw [J.len]; exact hlen
      have suite_ : PSs (X.suite a ((a, oC) :: (X.pn ++ pins))) [.Assign [.Name y ny] (.Name n nv) ps0] (tAsg (tVar i) (gName j)) :=
        pss_one (ps_set (X := X.suite a ((a, oC) :: (X.pn ++ pins))) hN hj (.inl hly) (pe_var hi (.inl hln) hdn hdc) rfl (.inr hly))
      refine wpAny_mono (suite_.run [] t5 _ H' { nx := fun σ6 H6 => σ6 = (σ'.set i (some (.ref a))).set j (some (.ref a)) ∧ H6 = H', rt := fun _ _ => False } S5 ⟨.ref a, List.getElem?_set_self hlσ, rfl, rfl⟩) (fun f t6 sp6 => ?_) (fun _ _ z => False.elim z)
      cases f with
      | next =>
        obtain ⟨σ6, H6, S6, e1, e2⟩ := sp6
        subst e1 e2
        obtain ⟨get6, n6, _⟩ := S6.pin (a, oC) (List.mem_append.mpr (.inl List.mem_cons_self))
        have J6 : Inv X pins ((σ'.set i (some (.ref a))).set j (some (.ref a))) H6 t6 := S6.unsuite ok
        have K6 := track_ext (φ := fun h => ∃ (oe : Obj) (vs : Array Value), h.get? a = some oe ∧ Zc cls d oe ∧ oe.data = .fields vs) J6 n6 (.inl a0) aL aC aP hx0 (exT_ok get6 zC dC)
        exact gone_ok K6 hN hi hln fun t7 J7 => ⟨_, _, J7, yes rfl a na⟩
      | brk => obtain ⟨_, _, _, z⟩ := sp6; exact z.elim
      | cont => obtain ⟨_, _, _, z⟩ := sp6; exact z.elim
      | ret u => obtain ⟨_, _, _, _, _, z⟩ := sp6; exact z.elim
    | false =>
      show wpAny _ X.A (handleBy (.ref a) X.env []) _ _ _
      refine wpAny_handleBy_nil ?_
      obtain ⟨k1, k2, k3, oe, vs, T, oT, tt, he, hz, hd, h1, hr⟩ := id flB
      unfold PySem.passOn
      refine wpAny_bind (wpAny_field he hd h1 ?_)
      rw [if_neg (show ¬ ((Value.ref T == Value.none) = true) from by simp)]
      have away : wpAny (model X.prog X.w) X.A (setFlight (.ref a) X.env.frame) (fun _ t4 => wpAny (model X.prog X.w) X.A (throw (.ref a) : Sem Flow) (SP X pins D) X.xe t4) X.xe { t with heap := hB } := by
        rw [hf]
        refine HandSPX.setFlight_upZ flB fun hC hhC upC => wpAny_throw (tk _ _ ?_)
        exact ⟨a, B, sI, pins, σ', H', cls, d, rfl, J, nb, (up.trans upB).trans upC, .inr (.inr (by rw [hs]; exact hhC)), na, os, ag, no rfl⟩
      first
        | exact wpAny_bind away
        | exact wpAny_bind (wpAny_pure (wpAny_bind away))
  refine wpAny_mono ((hb _ (X.pn ++ pins) hand caught PassesOwn.looking).run [] s σ H D (I.toTry _) h) (fun f t sp => ?_) (fun e t he => he)
  cases f with
  | next => obtain ⟨σ', H', J', q⟩ := sp; exact wpAny_execs_nil ⟨σ', H', J'.ofTry ok, q⟩
  | brk => obtain ⟨σ', H', J', q⟩ := sp; exact ⟨σ', H', J'.ofTry ok, q⟩
  | cont => obtain ⟨σ', H', J', q⟩ := sp; exact ⟨σ', H', J'.ofTry ok, q⟩
  | ret u => obtain ⟨v, σ', H', J', r, q⟩ := sp; exact ⟨v, σ', H', J'.ofTry ok, r, q⟩
end
section
variable {X : Cx}
theorem Takes.len {W : WX} (t : Takes X W) : Takes X (fun cls d σ H => σ.length = X.N.length → W cls d σ H) := fun u s' ⟨a, B, sI, pins, σ, H, cls, d, e, I, nb, up, sky, na, os, ag, w⟩ =>
  t u s' ⟨a, B, sI, pins, σ, H, cls, d, e, I, nb, up, sky, na, os, ag, w I.len⟩
/-- what a def of this text makes of what it calls: here = None; try: a() except x as err: here = err; return here -/
def TTc (K : PySem.W.Frag) (CS : Addr) : (XK → Hp → VK → Prop) → Hp → VK → Prop := fun tl H Q =>
  tl (fun cls d H' => PySem.W.exmOne K cls (.ref CS) = some true ∧ ∀ a, H' a = none → Q (.ref a) (upd H' a (ExT cls d a))) H (fun _ H' => Q .non H')
theorem caught_gives {x a here err se q : Str} {sg : Scope} {g CS : Addr} {cdg : Value} {p0 p1 p2 p3 p4 p5 p6 p7 p8 p9 p10 p11 p12 p13 : Pos} {k0 : Nat} (hge : sg.names.lookup se = some .globalImplicit) (hme : X.mg se = some (.ref CS)) (hde : (se == ("__debug__" : Str)) = false)
    (hN : [a, here, err].Nodup) (la : sg.names.lookup a = some .local) (lh : sg.names.lookup here = some .local) (le : sg.names.lookup err = some .local)
    (dh : (here == ("__debug__" : Str)) = false) (ch : (here == ("__classdict__" : Str)) = false) (de : (err == ("__debug__" : Str)) = false) (ce : (err == ("__classdict__" : Str)) = false) :
    LamX.GivesTo X [a, here, err] x sg g cdg [.Assign [.Name here p0] (.Constant .none k0 p1) p2, .Try [.Expr (.Call (.Name a p3) [] [] p4) p5] [.ExceptHandler (some (.Name se p6)) (some err) [.Assign [.Name here p7] (.Name err p8) p9] p10] [] [] p11,
      .Return (some (.Name here p12)) p13] a q (TTc X.K CS) := by
  intro f c' s H Q tl act hc h
  have gl : Gl (cxOf C8.CX0 X.prog X.w X.K X.mg X.base [a, here, err] x sg g cdg X.A X.stack s H C8.E0).nox se := hge
  refine ⟨_, pss_cons (ps_set (i := 1) hN rfl (.inl lh) pe_non rfl (.inl rfl))
    (pss_cons (ps_try_keep (X := (cxOf C8.CX0 X.prog X.w X.K X.mg X.base [a, here, err] x sg g cdg X.A X.stack s H C8.E0).nox) (c := .ref CS) (i := 2) (j := 1)
      (tb := fun W D σ H => ∃ Ech : XK, (∀ cls d (σ' : L2.St) H', σ'.length = 3 → Ech cls d H' → W cls d σ' H') ∧ σ[0]? = some (some (.ref f)) ∧ H c' = some (LamX.CodeO c' q) ∧ tl Ech H fun _ H' => D.nx σ H')
      rfl rfl hN rfl rfl le lh rfl (by show 2 < 3; decide) ⟨gl, hde, .inl hme⟩ takes0 de ce (fun W pn xe tk _ => ?_))
    (pss_one (ps_ret (pe_var (i := 1) rfl (.inl lh) dh ch)))), ?_⟩
  · refine ⟨fun pins s' σ H' D I h' => ?_⟩
    obtain ⟨Ech, hW, h1, h2, h3⟩ := h'
    have hp := act (fun cls d σ H => σ.length = 3 → W cls d σ H) pn xe Ech p3 p4 (Takes.len tk) fun cls d σ' H' z hl => hW cls d σ' H' hl z
    exact (pss_one (ps_expr (pos := p5) hp rfl)).run pins s' σ H' D I ⟨h1, h2, h3⟩
  · refine ⟨fun cls d H' => PySem.W.exmOne X.K cls (.ref CS) = some true ∧ ∀ a, H' a = none → Q (.ref a) (upd H' a (ExT cls d a)), fun cls d σ' H' hl z => ⟨true, z.1, fun _ b hb => ?_, fun z => by cases z⟩, rfl, hc, ?_⟩
    · refine ⟨.ref b, ?_, z.2 b hb⟩
      rw [List.getElem?_set_ne (by decide), List.getElem?_set_self (by rw [List.length_set]; omega)]
    · refine (show (fun (R : VK) => tl _ H R) (fun _ H' => Q .non H') → _ from fun z => ?_) h
      have e : (fun (v : V) (H' : Hp) => Q .non H') = fun (v : V) (H' : Hp) => ∃ w, (((L2.start [a, here, err] [V.ref f]).set 1 (some V.non))[1]? = some (some w)) ∧ Q w H' := by
        funext v H'
        refine propext ⟨fun q => ⟨.non, rfl, q⟩, fun ⟨w, e1, q⟩ => ?_⟩
        cases (show V.non = w from Option.some.inj (Option.some.inj e1))
        exact q
      rw [e] at z
      exact z
end
end Zw
set_option Elab.async false
set_option linter.all false
set_option maxRecDepth 100000
set_option maxHeartbeats 4000000
/-! Zk: lambdas that are handed on, called by their values. -/
namespace Zw
open PySem PySem.Spec PyProof.Rows L2

theorem lamO_ok {h : Heap} {L : LamI} {a c' : Addr} {pm ctv : Value} (e : h.get? a = some (PySem.W.kla_obj "<lambda>" L.qual L.params L.body L.scope [] pm c' ctv)) :
    (∃ (pm ctv : Value), h.get? a = some (PySem.W.kla_obj "<lambda>" L.qual L.params L.body L.scope [] pm c' ctv)) ∧ (∃ o, h.get? a = some o) ∧
      ∀ h1 h2 : Heap, (∃ (pm ctv : Value), h1.get? a = some (PySem.W.kla_obj "<lambda>" L.qual L.params L.body L.scope [] pm c' ctv)) → (∀ o, h1.get? a = some o → h2.get? a = some o) → ∃ (pm ctv : Value), h2.get? a = some (PySem.W.kla_obj "<lambda>" L.qual L.params L.body L.scope [] pm c' ctv) :=
  ⟨⟨pm, ctv, e⟩, ⟨_, e⟩, fun _ _ ⟨p, c, q⟩ k => ⟨p, c, k _ q⟩⟩

section
variable {X : Cx} {pins : List (Addr × Obj)} {σ : L2.St} {H : Hp} {s : Shared}
/-- the function made by a lambda is known from now on -/
theorem lam_known {T : List (Addr × Str)} {L : LamI} {c P : Addr} {pos : Pos} {E : Value → Shared → Prop} {Q : Value → Shared → Prop} (I : Inv X pins σ H s) (TB : LamX.TabB X.base X.mg c P) (hcode : X.env.code = .ref c) (hq : L.qual = X.env.qual ++ "<lambda>")
    (hm : (P, L.qual) ∈ T) (hu : ∀ p ∈ T, p.1 = P → p.2 = L.qual) (hT : LamX.Tabs T H) (hdef : defaultsOf L.params X.env = ([], [])) (hfree : ∀ y ∈ L.scope.names, y.2 ≠ .free)
    (h : ∀ (f c' : Addr) (H1 : Hp) (s' : Shared), Inv X pins σ H1 s' → LamX.ExtN H H1 → LamX.Tabs T H1 → H1 f = some (LamO L f c') → H1 c' = some (LamX.CodeO c' L.qual) → Q (.ref f) s') :
    wpAny (model X.prog X.w) X.A (eval (.Lambda L.params L.body L.scope pos) X.env) Q E s := by
  obtain ⟨ps, hP, ht, ha⟩ := hT _ hm
  refine PySem.W.kla_eval hdef ?_
  rw [← hq]
  have bP : s.heap.BuiltinsAt X.mg P := TB.bm.keeps I.bk
  have hP' : s.heap.get? P = some { cls := .none, data := .fields ps } := I.hok P _ hP
  have clo : closureFor L.scope X.env = pure [] := by
    rw [closure_ok (fun y hy e => absurd e (hfree y hy))]
    have none_ : ∀ (l : List (Str × NameKind)), (∀ y ∈ l, y.2 ≠ .free) → ∀ acc, cloFrom X.env.cells l acc = acc := by
      intro l
      induction l with
      | nil => intro _ acc; rfl
      | cons y l ih =>
        intro hy acc
        obtain ⟨n, k⟩ := y
        have hk : ¬ (k == NameKind.free) = true := fun z => hy (n, k) List.mem_cons_self (by simpa using z)
        show (if (k == NameKind.free) = true then _ else cloFrom X.env.cells l acc) = acc
        rw [if_neg hk]
        exact ih (fun z hz => hy z (List.mem_cons_of_mem _ hz)) acc
    rw [none_ _ hfree]
  -- the function's own object is laid and known
  have laid : ∀ {H1 : Hp} {h' : Heap} {tk : Nat} {c' : Addr} {ctv : Value}, Inv X pins σ H1 { s with heap := h', toks := tk } → LamX.ExtN H H1 → LamX.Tabs T H1 → H1 c' = some (LamX.CodeO c' L.qual) →
      Q (.ref h'.objs.size) { s with heap := h'.push (PySem.W.kla_obj "<lambda>" L.qual L.params L.body L.scope [] ((X.mg "__name__").getD .none) c' ctv), toks := tk } := fun {H1 h' tk c' ctv} I1 eN T1 hc => by
    have nf : H1 h'.objs.size = none := I1.hok.fresh (Nat.le_refl _)
    have I2 : Inv X pins σ (upd H1 h'.objs.size (LamO L h'.objs.size c')) { s with heap := h'.push (PySem.W.kla_obj "<lambda>" L.qual L.params L.body L.scope [] ((X.mg "__name__").getD .none) c' ctv), toks := tk } :=
      I1.laid (t' := tk) (fun b u e => Heap.get?_push_of_some _ e) (Nat.le_refl _) (lamO_ok (Heap.get?_push_size _ rfl))
    refine h h'.objs.size c' _ _ I2 (fun b o e n => ?_) (tabs_new nf T1) upd_same ?_
    · have z := eN b o e n
      rw [upd_ne (ne_of_none z nf)]; exact z
    · rw [upd_ne (ne_of_none hc nf)]; exact hc
  cases hc : codeAmong pos ps.toList with
  | none =>
    refine PySem.W.kla_makeFunction (mg := X.mg) (c := c) (P := P) (ps := ps) clo I.ok.glob (I.mod.glob.keeps I.bk) hcode (TB.code.keeps I.bk) hP' ht hc TB.gP bP fun c' ctv h' tk hx hge hlt hrec htb => ?_
    obtain ⟨c2, oc, vs, t, e2, hoc, hd, hv⟩ := hrec
    cases e2
    have nC : H c' = none := I.hok.fresh hge
    have I1 := LamX.inv_table (t' := tk) (more := #[rawInt pos.line, rawInt pos.col, .ref c']) (h' := h') (q := L.qual) I hP hx htb hge ⟨oc, vs, t, hoc, hd, hv⟩
    have eL : (ps ++ #[rawInt pos.line, rawInt pos.col, .ref c']).toList = ps.toList ++ [rawInt pos.line, rawInt pos.col, .ref c'] := by simp
    have eN : LamX.ExtN H (upd (upd H P (.tbl (ps ++ #[rawInt pos.line, rawInt pos.col, .ref c']))) c' (LamX.CodeO c' L.qual)) := fun b o e n => by
      rw [upd_ne (ne_of_none e nC), upd_ne (fun z => n ps (by rw [z, hP] at e; exact (Option.some.inj e).symm))]
      exact e
    refine laid I1 eN (fun p hp => ?_) upd_same
    by_cases hb : p.1 = P
    · rw [hu p hp hb, hb]
      refine ⟨_, by rw [upd_ne (ne_of_none hP nC), upd_same], by rw [eL]; exact PySem.TriplesOk_snoc _ _ _ _ ht, fun p' cv hcv => ?_⟩
      rw [eL] at hcv
      rcases LamX.among_app _ ht hcv with z | z
      · obtain ⟨c0, e1, e2⟩ := ha p' cv z
        exact ⟨c0, e1, eN _ _ e2 LamX.codeO_ne⟩
      · exact ⟨c', z, upd_same⟩
    · obtain ⟨ps', a1, a2, a3⟩ := hT p hp
      refine ⟨ps', by rw [upd_ne (ne_of_none a1 nC), upd_ne hb]; exact a1, a2, fun p' cv hcv => ?_⟩
      obtain ⟨c0, e1, e2⟩ := a3 p' cv hcv
      exact ⟨c0, e1, eN _ _ e2 LamX.codeO_ne⟩
  | some cv =>
    obtain ⟨c', e, hco⟩ := ha pos cv hc
    subst e
    refine PySem.W.kla_makeFunctionHit (mg := X.mg) (c := c) (P := P) (ps := ps) clo I.ok.glob (I.mod.glob.keeps I.bk) hcode (TB.code.keeps I.bk) hP' ht hc bP fun ctv h' tk hx hsz => ?_
    exact laid (I.kept (t' := tk) hx) (LamX.ExtN.refl H) hT hco
end

/-- a step that changes no more than tables -/
theorem extN_stp {ι : List Addr} {H H1 : Hp} (e : LamX.ExtN H H1) : Stp ι H ι H1 :=
  have k : ∀ (a : Addr) (o : HO), H a = some o → ¬ isTbl o → H1 a = some o := fun a o h n => e a o h fun ps z => n (by rw [z]; exact True.intro)
  ⟨List.prefix_refl _, fun _ h => .inl h, fun a o h q => k a o h (q.elim (fun i z => by cases o <;> first | exact i | exact z) fun z => z.2), fun a o h n => ⟨o, k a o h n, n⟩⟩
theorem Rep.extN {G : GE} {ι : List Addr} {A : AH} {H H1 : Hp} (R : Rep G ι A H) (e : LamX.ExtN H H1) (t : LamX.Tabs G.tabs H1) : Rep G ι A H1 := by
  refine ⟨R.len, R.nd, fun i c h => ?_, t⟩
  obtain ⟨a, e1, r⟩ := R.at_ i c h
  refine ⟨a, e1, r.step (extN_stp e) ?_⟩
  cases c with
  | lst xs => obtain ⟨vs, q, _⟩ := r; rw [q]; exact e a _ q (fun ps z => by cases z)
  | ro xs => obtain ⟨⟨o, u, q⟩, _⟩ := r; rw [q]; exact e a _ q (fun ps z => by cases z)
  | dct kvs => obtain ⟨vs, q, _⟩ := r; rw [q]; exact e a _ q (fun ps z => by cases z)

section
variable {G : GE} {X : Cx} {W : WX}
theorem le_lam {k : Nat} {c P : Addr} {pos : Pos} (TB : LamX.TabB X.base X.mg c P) (hcode : X.env.code = .ref c) (hq : (G.lam k).qual = X.env.qual ++ "<lambda>") (hm : (P, (G.lam k).qual) ∈ G.tabs) (hu : ∀ p ∈ G.tabs, p.1 = P → p.2 = (G.lam k).qual)
    (hdef : defaultsOf (G.lam k).params X.env = ([], [])) (hfree : ∀ y ∈ (G.lam k).scope.names, y.2 ≠ .free) :
    PE X (.Lambda (G.lam k).params (G.lam k).body (G.lam k).scope pos) (LE G W fun _ A Q _ => Q (.lam k) A) :=
  ⟨fun pins s σ H Q I ⟨ι, A, δ, Q0, E0, R, S, t, kQ, kE⟩ => lam_known I TB hcode hq hm hu R.tabs hdef hfree fun f c' H1 s' I1 eN T1 hf hc =>
    ⟨.ref f, H1, I1, rfl, kQ _ _ t ι H1 (.ref f) (extN_stp eN) (R.extN eN T1) (by unfold VR; exact ⟨f, c', rfl, hf, hc⟩)⟩⟩

/-- the lambda number k keeps its promise wherever it is called -/
def LamOk (G : GE) (L k : Nat) (sp : DSp) : Prop := ∀ (f c' : Addr) (A : Around) (outer : List Env) (s : Shared) (H : Hp) (us : List Value) (vs : List V) (Q : VK) (E : XK), Room L A → Env0 G.P G.w G.K G.mg G.base A outer s H →
  H f = some (LamO (G.lam k) f c') → H c' = some (LamX.CodeO c' (G.lam k).qual) → Vals vs us → liftSp G sp vs H Q E → codeAny (model G.P G.w) A (.call (.ref f) ⟨us, []⟩) (CR (L2.CX G.P G.w) outer G.P G.w H s Q E) s
abbrev lamF (L : LamI) (c' : Addr) : NdefX.NF := ⟨"<lambda>", L.qual, L.params, [], L.scope, [], c'⟩
/-- the values of the names at an entry -/
def startD (n : Nat) (ds : List D) : DSt := ds.map some ++ List.replicate (n - ds.length) none
theorem startD_SR {ι : List Addr} {H : Hp} {N : List Str} {ds : List D} {vs : List V} (r : VRs G ι H ds vs) : SR G ι H (startD N.length ds) (L2.start N vs) := by
  have hl := r.len
  refine ⟨by unfold startD L2.start; rw [List.length_append, List.length_append, List.length_map, List.length_map, List.length_replicate, List.length_replicate, hl], fun i d e => ?_⟩
  unfold startD at e
  by_cases hi : i < ds.length
  · rw [List.getElem?_append_left (by rw [List.length_map]; exact hi), List.getElem?_map] at e
    cases e1 : ds[i]? with
    | none => rw [e1] at e; cases e
    | some d' =>
      rw [e1] at e
      cases (show d' = d from Option.some.inj (Option.some.inj e))
      obtain ⟨v, ev, rv⟩ := r.get e1
      refine ⟨v, ?_, rv⟩
      unfold L2.start
      rw [List.getElem?_append_left (by rw [List.length_map, ← hl]; exact hi), List.getElem?_map, ev]; rfl
  · rw [List.getElem?_append_right (by rw [List.length_map]; omega), List.getElem?_replicate] at e
    split at e <;> cases e
theorem start_F (N : List Str) (vs : List V) : NdefX.startF N vs [] = L2.start N vs := by
  unfold NdefX.startF L2.start
  rw [List.nil_append]; rfl
/-- from the lambda's body -/
theorem lam_ok {L k : Nat} {sp : DSp} {N ps : List Str} {t : Zw.WE} (S : NdefX.NScope N ps [] (G.lam k).scope)
    (hb : ∀ (pm cv ctv : Value) (us : List Value), us.length = ps.length → bindArgs (PySem.W.kla_fn "<lambda>" (G.lam k).qual (G.lam k).params (G.lam k).body (G.lam k).scope [] pm cv ctv) ⟨us, []⟩ = pure (ps.zip us))
    (len : ∀ ds A Q E, sp ds A Q E → ds.length = ps.length)
    (hbody : ∀ (f c' : Addr) (A : Around) (outer : List Env) (s : Shared) (H : Hp) (E : XK), Room L (A.deeper (NdefX.envF (lamF (G.lam k) c') f s.heap.objs.size)) →
      PE (NdefX.ncx (L2.CX G.P G.w) G.P G.w G.K G.mg G.base N (lamF (G.lam k) c') f A outer s H E) (G.lam k).body (LE G (fun cls d _ H => E cls d H) t))
    (ht : ∀ ds A Q E, sp ds A Q E → t (startD N.length ds) A Q E) : LamOk G (L + 1) k sp := by
  intro f c' A outer s H us vs Q E hr e0 hf hc r hsp
  obtain ⟨ι, A0, ds, Q0, E0, R, rd, hs, kQ, kE⟩ := hsp
  have hl : vs.length = ps.length := by rw [← rd.len]; exact len _ _ _ _ hs
  have lim : s.heap.NoLimit := e0.mod.nolimit.keeps fun b o e => (e0.bs b o e).1
  obtain ⟨⟨pm, ctv, ho⟩, _, _⟩ := e0.hok f _ hf
  obtain ⟨⟨oc, cvs, tk, hoc, hdc, hvc⟩, _, _⟩ := e0.hok c' _ hc
  refine PySem.W.kla_callFunE hr.depth ho rfl S.co S.gen rfl ⟨c', oc, cvs, tk, rfl, hoc, hdc, hvc⟩ ?_
  rw [hb pm (.ref c') ctv us (by rw [← r.length]; exact hl)]
  refine wpAny_pure (wpAny_newFunctionEnv S.nocell (fun ⟨n, _⟩ hy => S.par n (List.of_mem_zip hy).1) (fun h1 hns hsb => ⟨lim.fresh _ hsb, ?_⟩) S.kind)
  show codeAny _ _ (.expr (G.lam k).body (NdefX.envF (lamF (G.lam k) c') f s.heap.objs.size)) _ _
  have kp : ∀ b o, s.heap.get? b = some o → h1.get? b = some o := fun b o e => hsb.extBut b o (Nat.ne_of_lt (Heap.lt_size e)) (Heap.get?_push_of_some _ e)
  have I : Inv (NdefX.ncx (L2.CX G.P G.w) G.P G.w G.K G.mg G.base N (lamF (G.lam k) c') f A outer s H E) [] (NdefX.startF N vs []) H { s with heap := h1, toks := s.toks + (ps.zip us).length } :=
    NdefX.inv_startN (F := lamF (G.lam k) c') S hr.hd e0 hl r ⟨rfl, (fun y c e => nomatch (show none = some c from e)), (fun x y c e => nomatch (show none = some c from e)), (fun i y e => nomatch (show none = some y from e))⟩ hns kp
  rw [start_F] at I
  refine PySem.W.kla_codeExpr (wpAny_mono ((hbody f c' A outer s H E (hr.deeper _)).run [] _ _ H Q I ⟨ι, A0, startD N.length ds, Q0, E0, R, startD_SR rd, ht _ _ _ _ hs, kQ, fun c p A' q ι' H' cls d => kE c p A' q ι' H' cls d⟩) (fun v s' hq => ?_) fun e s' hq => hq)
  obtain ⟨w', H', J', rv, q⟩ := hq
  exact ⟨w', H', J'.os, J'.bare, J'.base, J'.hok, rv, q⟩
theorem fnAt_lam {pins : List (Addr × Obj)} {σ : L2.St} {H : Hp} {s : Shared} {L : LamI} {f c' : Addr} (I : Inv X pins σ H s) (h : H f = some (LamO L f c')) : PySem.W.FnAt f s.heap := by
  obtain ⟨⟨pm, ctv, ho⟩, _, _⟩ := I.hok f _ h
  exact ⟨_, _, _, _, ho⟩
/-- what may be called by its value -/
def CallOk (G : GE) (L : Nat) (F : Nat → DSp) (lam fn : List Nat) : Prop := (∀ k ∈ lam, LamOk G L k (F k)) ∧ ∀ k ∈ fn, FnI G L k (F k) []
/-- f(e, ..), f any expression but a global's name -/
theorem pe_callV {L : Nat} {F : Nat → DSp} {f e : Expr} {es : List Expr} {pos : Pos} {tf : Zw.WE} {t : DSt → AH → (List D → AH → Prop) → DX → Prop} {lams : List Nat} (hP : X.prog = G.P) (hw : X.w = G.w) (hK : X.K = G.K) (hm : X.mg = G.mg) (hB : X.base = G.base)
    (hl : ∀ k ∈ lams, LamOk G L k (F k)) (hr : Room L X.A) (tk : Takes X W) (hf : PE X f (LE G W tf)) (ha : PA X (e :: es) (LA G W t)) (hs : (e :: es).all notStar = true)
    (he : eval (.Call f (e :: es) [] pos) X.env = (do callWith pos (← eval f X.env) [] (backTo pos (starEach (e :: es) X.env)) (backToKw pos (keywordEach [] X.env)))) :
    PE X (.Call f (e :: es) [] pos) (LE G W fun δ A Q Z => tf δ A (fun x A1 => match x with | .lam k => k ∈ lams ∧ t δ A1 (fun ds A2 => F k ds A2 Q Z) Z | _ => False) Z) := by
  refine ⟨fun pins s σ H Q I ⟨ι, A, δ, Q0, E0, R, S, h, kQ, kE⟩ => ?_⟩
  rw [List.all_cons, Bool.and_eq_true] at hs
  refine Call_ (thn (hf.run pins s σ H (fun v H1 => ∃ ι1 A1 x, Stp ι H ι1 H1 ∧ Rep G ι1 A1 H1 ∧ VR G ι1 H1 x v ∧ match x with | .lam k => k ∈ lams ∧ t δ A1 (fun ds A2 => F k ds A2 Q0 E0) E0 | _ => False) I
    ⟨ι, A, δ, _, E0, R, S, h, fun x A1 h1 ι1 H1 v s1 R1 r1 => ⟨ι1, A1, x, s1, R1, r1, h1⟩, kE⟩) fun u s1 ⟨v, H1, I1, ru, ι1, A1, x, st, R1, rv, h1⟩ => ?_) he
  cases x with
  | lam k =>
    unfold VR at rv
    obtain ⟨a, c', ev, hLa, hCc⟩ := rv
    subst ev
    obtain ⟨hk, h1⟩ := h1
    cases (show u = Value.ref a from ru)
    refine PySem.W.callWith_F (first := []) (fnAt_lam I1 hLa) (thn (ha.run pos pins s1 σ H1 (fun vs H2 => ∃ ι2 A2 ds, Stp ι1 H1 ι2 H2 ∧ Rep G ι2 A2 H2 ∧ VRs G ι2 H2 ds vs ∧ F k ds A2 Q0 E0) I1
      ⟨ι1, A1, δ, _, E0, R1, S.mono st, h1, fun ds A2 h2 ι2 H2 vs s2 R2 r2 => ⟨ι2, A2, ds, s2, R2, r2, h2⟩, fun c p A' q => (kE c p A' q).stp st⟩) fun us s2 ⟨vs, H2, I2, r, ι2, A2, ds, st2, R2, rd, h2⟩ =>
        ⟨fnAt_lam I2 (st2.mn.imm _ _ hLa imm_lam), ?_⟩) (star_cons hs.1) (star_plain hs.2)
    show wpAny _ _ (call (.ref a) us) _ _ _
    have run := hl k hk a c' X.A X.stack s2 H2 us vs Q (L2.WE W σ) hr (by have z := I2.env0; rw [hP, hw, hK, hm, hB] at z; exact z) (st2.mn.imm _ _ hLa imm_lam) (st2.mn.imm _ _ hCc imm_code) r
      ⟨ι2, A2, ds, Q0, E0, R2, rd, h2, fun d A' q => (kQ d A' q).stp (st.trans st2), fun c p A' q ι' H' cls d s3 R3 r3 => (kE c p A' q).stp (st.trans st2) ι' H' cls d s3 R3 r3⟩
    rw [← hP, ← hw] at run
    refine wpAny_call (codeAny_mono run fun r' s' hq => ?_)
    cases r' with
    | error e => exact passAt tk σ pins H2 s2 e s' I2 hq
    | ok fl =>
      cases fl with
      | ret u => exact I2.after hq
      | _ => exact False.elim hq
  | _ => exact (show False from h1).elim
end
end Zw
set_option Elab.async false
set_option linter.all false
set_option maxRecDepth 100000
set_option maxHeartbeats 4000000
/-! Zl: isinstance; the whole of the expressions. -/
namespace PySem.W
open PySem PySem.Spec PySem.Calls PyProof.Rows
section
variable {prog : Program} {w : World} {A : Around} {E : Value → Shared → Prop} {s : Shared} {K : Frag} {x D : Addr} {ox : Obj} {od : Option Obj}
theorem zw_dataN {C : Addr} {name : Str} {a g : Value} (hc : (clsIn K C).isSome = true) (ha : findIn K (.ref C) name = some (some a)) (hg : specialIn K a "__get__" = some (some g)) (ht : takesIn K a = some true) : findObj K C od name = some (.bind g a) := by
  obtain ⟨cd, hc⟩ := Option.isSome_iff_exists.mp hc
  unfold findObj
  rw [hc, Option.bind_some, ha, Option.bind_some]
  simp [hg, ht]
theorem zw_classE {Q : Option Value → Shared → Prop} (k : L2.ExcC K D)
    (X : K.In s.heap) (I : InstAt s.heap x ox D od) (h : Q (some (.ref D)) { s with toks := s.toks + 1 }) : wpAny (model prog w) A (getAttr? (.ref x) "__class__") Q E s := by
  have hf : findObj K D od "__class__" = some (.bind (.builtin "getset_descriptor.__get__") (.builtin "object.__class__")) := zw_dataN (by obtain ⟨cd, hc, _⟩ := any_some k.hd; rw [hc]; rfl) k.ha k.hn k.ht
  obtain ⟨hp, g, d, t, os⟩ := s
  have L0 := I.type (M := model prog w)
  have L1 := looks_findIn (M := model prog w) X k.hg
  have L2 := looks_findIn (M := model prog w) X k.hk
  have L3 := looks_find (M := model prog w) X I hf
  have sub : Looks (model prog w) hp (isInstance (.ref x) (.type "BaseException")) true := L0.andThen (looks_subIn X k.hs)
  have hx0 : (false && onTheHeap (Value.builtin "BaseException.__getattribute__")) = false := rfl
  have hx2 : (Value.builtin "BaseException.__getattribute__" == Value.builtin "object.__getattribute__") = false := by decide +kernel
  have hx1 : (onTheHeap (Value.ref D) && Value.builtin "BaseException.__getattribute__" == Value.builtin "object.__getattribute__") = false := by rw [hx2]; rfl
  unfold getAttr? getAttrBy? getAttrBy
  refine wpAny_bind (wpAny_mkText (wpAny_bind (wpAny_attempt (wpAny_holding (wpAny_bind (L0.at (wpAny_bind (L1.at ?_))))))))
  show wpAny _ _ (if (onTheHeap (Value.ref D) && Value.builtin "BaseException.__getattribute__" == Value.builtin "object.__getattribute__") = true then _ else _) _ _ _
  rw [hx1, if_neg Bool.false_ne_true]
  unfold getAttrByItsOwn hookBefore
  refine wpAny_bind ?_
  rw [if_pos (show onTheHeap (Value.ref D) = true from rfl)]
  refine L2.at ?_
  refine wpAny_bind (wpAny_attempt (wpAny_holding ?_))
  unfold callGetattribute
  rw [hx0, if_neg Bool.false_ne_true]
  unfold boundAndCalled
  rw [PySem.F.excAttr_ValueError.ga.bind (.ref x)]
  refine wpAny_bind (wpAny_pure ?_)
  show wpAny _ _ (call (.builtin "BaseException.__getattribute__") [.ref x, .str "__class__" t]) _ _ _
  refine wpAny_call (codeAny_call_builtin PySem.F.excAttr_ValueError.ga.plain PySem.F.entry_bexc_ga ?_)
  refine @check_slot (model prog w) _ _ ⟨hp, g, d, t + 1, os⟩ "BaseException.__getattribute__" "BaseException" "__getattribute__" (.ref x) [.str "__class__" t] [] _ (by decide +kernel) (by decide +kernel) sub (PySem.F.args_bexc_ga (.ref x) (.str "__class__" t)) ?_
  unfold Builtin.«object.__getattribute__»
  refine wpAny_bind (wpAny_of_eq (a := ((Value.ref x : Value), [Value.str "__class__" t])) (by first | rfl | (simp only [slotArgs]; rfl)) ?_)
  refine wpAny_bind (wpAny_pure (wpAny_bind (L0.at (wpAny_bind (L3.at ?_)))))
  show wpAny _ _ (holding [Value.builtin "object.__class__"] (call (.builtin "getset_descriptor.__get__") [.builtin "object.__class__", .ref x, .ref D]) >>= ret) _ _ _
  refine wpAny_bind (wpAny_holding (wpAny_call (class_get (s := ⟨hp, g, d, t + 1, os⟩) (ox := ox) (od := od) X I k.hm ?_)))
  refine wpAny_pure ?_
  show wpAny _ _ (handedOut (.ref D)) _ _ _
  rw [handedOut_of (v := .ref D) rfl]
  first
    | exact wpAny_pure (wpAny_pure h)
    | exact wpAny_pure h
    | exact wpAny_pure (wpAny_bind (wpAny_pure (wpAny_pure h)))
end
end PySem.W
namespace Zw
open PySem PySem.Spec PyProof.Rows L2
theorem kitx_any {K : PySem.W.Frag} {x D : Addr} {ox : Obj} {od : Option Obj} (k : ExcC K D) : PySem.W.KitX K (.ref x) (.ref D) (fun h => PySem.W.InstAt h x ox D od) where
  ty := fun _ _ _ I => I.type
  it := fun _ _ X _ => by
    obtain ⟨cdD, hcD, _⟩ := PySem.W.any_some k.hd
    unfold PySem.W.clsIn at hcD
    split at hcD
    · rename_i c' d' cd' sl' ho
      intro A' Q' E' s' k q
      unfold isType loadHead
      exact wpAny_bind (wpAny_loadPart (k _ _ (X _ _ ho)) (wpAny_pure q))
    · cases hcD
  ne := fun h tp dd its n sl X htp => by
    obtain ⟨cdD, hcD, _⟩ := PySem.W.any_some k.hd
    refine Bool.eq_false_iff.mpr fun q => ?_
    have e : D = tp := Value.ref.inj (beq_iff_eq.mp q)
    subst e
    unfold PySem.W.clsIn at hcD
    split at hcD
    · rename_i c' d' cd' sl' ho
      have z := (X _ _ ho).symm.trans htp
      cases z
    · cases hcD
  ca := fun X I q => PySem.W.zw_classE k X I q

section
variable {G : GE} {X : Cx} {W : WX} {e : Expr}
/-- the dict of an exception -/
def XdO (H : Hp) (d : Option Addr) : Prop := d = none ∨ ∃ dd fs, d = some dd ∧ H dd = some (.xd fs)
/-- isinstance(x, c), x an exception that was caught -/
def rIsX (K : PySem.W.Frag) : List V → Hp → VK → Prop := fun xs H Q => ∃ (a C : Addr) (d : Option Addr) (c : V) (cv : Value) (b : Bool), xs = [.ref a, c] ∧ H a = some (ExT (.ref C) d a) ∧ XdO H d ∧ ExcC K C ∧ ClsV c cv ∧ PySem.W.kitOne K (.ref C) cv = some b ∧ Q (.bl b) H
theorem inst_of {X : Cx} {pins : List (Addr × Obj)} {σ : L2.St} {H : Hp} {s : Shared} {a C : Addr} {d : Option Addr} (I : Inv X pins σ H s) (ha : H a = some (ExT (.ref C) d a)) (hd : XdO H d) : ∃ ox od, PySem.W.InstAt s.heap a ox C od ∧ (d = none → od = none) := by
  obtain ⟨⟨oe, vs, hget, hz, hv⟩, _, _⟩ := I.hok a _ ha
  obtain ⟨h1, h2⟩ := hz
  rcases hd with hd | ⟨dd, fs, hd, hx⟩
  · subst hd
    exact ⟨oe, none, ⟨hget, h1, by unfold PySem.W.notCls; rw [hv] <;> rfl, by rw [h2]; trivial⟩, fun _ => rfl⟩
  · subst hd
    obtain ⟨mA, ⟨o, es, ep, ho, _⟩, _⟩ := I.hok dd _ hx
    exact ⟨oe, some o, ⟨hget, h1, by unfold PySem.W.notCls; rw [hv] <;> rfl, by rw [h2]; exact ho⟩, fun z => nomatch z⟩
theorem call_isX : CallR X (.builtin "isinstance") (rIsX X.K) := by
  intro pins s σ H xs us Q I r h
  obtain ⟨a, C, d, c, cv, b, rfl, ha, hd, k, hc, e, q⟩ := h
  obtain ⟨u1, u2, rfl, r1, r2⟩ := vals2 r
  cases (show u1 = Value.ref a from r1)
  have e2 := hc.eq r2
  subst e2
  obtain ⟨ox, od, J, _⟩ := inst_of I ha hd
  exact PySem.W.kia_one (kitx_any k) I.kIn J e (fun z => nomatch z) fun tk => ⟨.bl b, H, I.tok tk, rfl, q⟩
def tv (G : GE) : TyT → Value
  | .b n => .type n
  | .c k => .ref (G.T k)
def tvV (G : GE) : TyT → V
  | .b n => .ty n
  | .c k => .ref (G.T k)
theorem tv_cls (t : TyT) : ClsV (tvV G t) (tv G t) := by cases t <;> constructor
/-- a value's type -/
theorem ty_V {ι : List Addr} {A : AH} {H : Hp} {x : D} {v : V} {n : String} (R : Rep G ι A H) (r : VR G ι H x v) (h : tyD A x = some (.b n)) : TyX G.K H v (.type n) := by
  cases x with
  | non => cases h; rw [r.non]; exact .base .non
  | bl b => cases h; rw [r.bl]; exact .base (.bl b)
  | int b => cases h; rw [r.int]; exact .base (.int b)
  | str b => cases h; rw [r.str]; exact .base (.str b)
  | tup ds =>
    cases h
    obtain ⟨a, vs, e, q, _⟩ := r.tup
    rw [e]
    rcases q with (q | ⟨o, q⟩) | ⟨o, its, m, q, hc, _⟩
    · exact .base (.tup q)
    · exact .fTuple q
    · exact .kTuple q hc
  | ref i =>
    obtain ⟨a, e, hi⟩ := r.ref
    rw [e]
    unfold tyD at h
    cases e1 : A[i]? with
    | none => simp only [e1] at h; cases h
    | some c =>
      cases c with
      | lst xs => simp only [e1] at h; cases h; obtain ⟨vs, q, _⟩ := R.lst hi e1; exact .base (.lst q)
      | dct xs => simp only [e1] at h; cases h; obtain ⟨vs, q, _⟩ := R.dct hi e1; exact .base (.dK q)
      | ro xs => simp only [e1] at h; cases h
  | exc c p => cases h
  | _ => cases h
theorem ty_E {ι : List Addr} {A : AH} {H : Hp} {x : D} {v : V} {k : Nat} (R : Rep G ι A H) (r : VR G ι H x v) (h : tyD A x = some (.c k)) : ∃ a d, v = .ref a ∧ H a = some (ExT (.ref (G.T k)) d a) ∧ XdO H d := by
  cases x with
  | exc c p =>
    cases h
    unfold VR at r
    obtain ⟨a, d, e, h, vs, hv, z⟩ := r
    refine ⟨a, d, e, h, ?_⟩
    rcases z with ⟨_, z⟩ | ⟨dd, y, z, z2, z3⟩
    · exact .inl z
    · exact .inr ⟨dd, _, z2, z3⟩
  | ref i =>
    unfold tyD at h
    cases e1 : A[i]? with
    | none => simp only [e1] at h; cases h
    | some c => cases c <;> (simp only [e1] at h; cases h)
  | _ => cases h
/-- the types of values, whose kinship is asked -/
def tyAll : List String := ["NoneType", "bool", "int", "str", "tuple", "list", "dict"]
theorem ty_in {A : AH} {x : D} {n : String} (h : tyD A x = some (.b n)) : n ∈ tyAll := by
  cases x with
  | ref i =>
    unfold tyD at h
    cases e1 : A[i]? with
    | none => simp only [e1] at h; cases h
    | some c => cases c <;> (simp only [e1] at h; cases h) <;> decide
  | exc c p => cases h
  | _ => cases h <;> decide
/-- the kinship of the types of values and the class u -/
def Kin (G : GE) (S : Nat → Nat → Bool) (ex : List Nat) (u : TyT) : Prop :=
  (∀ n ∈ tyAll, PySem.W.kitOne G.K (.type n) (tv G u) = some (subT S (.b n) u)) ∧ ∀ k ∈ ex, ExcC G.K (G.T k) ∧ PySem.W.kitOne G.K (.ref (G.T k)) (tv G u) = some (subT S (.c k) u)
theorem le_isi {S : Nat → Nat → Bool} {ex : List Nat} {t : TyT} {ta : Zw.WE} (hK : X.K = G.K) (hk : Kin G S ex t) (h : PE X e (tCB (fun xs H Q => rIsi X.K xs H Q ∨ rIsX X.K xs H Q) (tCons (LE G W ta) (tCons (tC (tvV G t)) tNil)))) :
    PE X e (LE G W fun δ A Q Z => ta δ A (fun x A1 => opt (tyD A1 x) fun u => okT ex u ∧ Q (.bl (subT S u t)) A1) Z) :=
  PE.weak h fun σ H Q ⟨ι, A, δ, Q0, E0, R, Sr, t', kQ, kE⟩ => ⟨ι, A, δ, _, E0, R, Sr, t', fun x A1 h1 ι1 H1 v s1 R1 r1 => by
    obtain ⟨u, eu, hok, q⟩ := opt_some h1
    have fin := ((kQ _ _ q).stp s1).now R1 .mkBl
    rw [hK]
    cases u with
    | b n => exact .inl ⟨v, _, _, _, _, rfl, tv_cls t, ty_V R1 r1 eu, hk.1 n (ty_in eu), fin⟩
    | c k =>
      obtain ⟨a, d, ev, ha, hd⟩ := ty_E R1 r1 eu
      subst ev
      obtain ⟨h2, h3⟩ := hk.2 k hok
      exact .inr ⟨a, _, d, _, _, _, rfl, ha, hd, h2, tv_cls t, h3, fin⟩, kE⟩
theorem le_isx {S : Nat → Nat → Bool} {ex : List Nat} {ta : Zw.WE} (hK : X.K = G.K) (hk : Kin G S ex (.b "tuple")) (h : PE X e (tCB (fun xs H Q => rIsi X.K xs H Q ∨ rIsX X.K xs H Q) (tCons (LE G W ta) (tCons (tC (tvV G (.b "tuple"))) tNil)))) :
    PE X e (LE G W fun δ A Q Z => ta δ A (fun x A1 => match x with | .tux _ => Q (.bl true) A1 | _ => False) Z) :=
  PE.weak h fun σ H Q ⟨ι, A, δ, Q0, E0, R, Sr, t', kQ, kE⟩ => ⟨ι, A, δ, _, E0, R, Sr, t', fun x A1 h1 ι1 H1 v s1 R1 r1 => by
    cases x with
    | tux ds =>
      obtain ⟨a, vs, o, ev, q0, _, _, _⟩ := r1.tux
      have fin := ((kQ _ _ (show Q0 (.bl true) A1 from h1)).stp s1).now R1 .mkBl
      rw [hK]
      subst ev
      exact .inl ⟨.ref a, _, _, _, _, rfl, tv_cls (.b "tuple"), .fTuple q0, hk.1 "tuple" (by decide), fin⟩
    | _ => exact (show False from h1).elim, kE⟩
theorem kitAny_of {S : Nat → Nat → Bool} {n : String} : ∀ {ts : List String}, (∀ t ∈ ts, PySem.W.kitOne G.K (.type n) (.type t) = some (subT S (.b n) (.b t))) → PySem.W.kitAny G.K (.type n) (ts.map Value.type) = some (ts.any fun t => subT S (.b n) (.b t))
  | [], _ => rfl
  | t :: ts, h => by
    have h1 := h t List.mem_cons_self
    have ih := kitAny_of (ts := ts) fun u hu => h u (List.mem_cons_of_mem _ hu)
    show (match PySem.W.kitOne G.K (.type n) (.type t) with | some true => some true | some false => PySem.W.kitAny G.K (.type n) (ts.map Value.type) | none => none) = _
    rw [h1, List.any_cons]
    cases subT S (.b n) (.b t) with
    | true => rfl
    | false => exact ih
theorem paired_ty : ∀ ts : List String, Paired ClsV (ts.map V.ty) (ts.map Value.type)
  | [] => .nil
  | t :: ts => .cons (.ty t) (paired_ty ts)
def tTys : List String → TA
  | [] => tNil
  | t :: ts => tCons (tC (.ty t)) (tTys ts)
theorem tTys_run {σ : L2.St} {H : Hp} {Q : List V → Hp → Prop} : ∀ {ts : List String}, Q (ts.map V.ty) H → tTys ts σ H Q
  | [], h => h
  | t :: ts, h => tTys_run (ts := ts) (Q := fun xs H2 => Q (.ty t :: xs) H2) h
theorem le_isis {S : Nat → Nat → Bool} {ts : List String} {ta : Zw.WE} (hK : X.K = G.K) (hl : ts.length ≤ LIM) (hk : ∀ t ∈ ts, Kin G S [] (.b t)) (h : PE X e (tCB (rIsiT X.K) (tCons (LE G W ta) (tCons (tTup (tTys ts)) tNil)))) :
    PE X e (LE G W fun δ A Q Z => ta δ A (fun x A1 => opt (tyD A1 x) fun u => okT [] u ∧ Q (.bl (ts.any fun t => subT S u (.b t))) A1) Z) :=
  PE.weak h fun σ H Q ⟨ι, A, δ, Q0, E0, R, Sr, t', kQ, kE⟩ => ⟨ι, A, δ, _, E0, R, Sr, t', fun x A1 h1 ι1 H1 v s1 R1 r1 => by
    obtain ⟨u, eu, hok, q⟩ := opt_some h1
    refine tTys_run ⟨by rw [List.length_map]; exact lim_line hl, fun p hp => ?_⟩
    have sn : Stp ι1 H1 ι1 (upd H1 p (.tup (ts.map V.ty))) := stp_new hp
    have fin := ((kQ _ _ q).stp (s1.trans sn)).now (R1.new hp) .mkBl
    rw [hK]
    cases u with
    | b n => exact ⟨v, p, _, _, _, _, rfl, upd_same, paired_ty ts, ty_V (R1.new hp) (VR.mono sn _ _ r1) eu, kitAny_of fun t ht => (hk t ht).1 n (ty_in eu), fin⟩
    | c k => exact (List.not_mem_nil hok).elim, kE⟩
/-! ### e.f of an exception -/
def tXat (K : PySem.W.Frag) (n : Str) (te : TE) : TE := fun σ H Q => te σ H fun x H1 => ∃ (a C dd : Addr) (fs : List (Str × V)) (v : V), x = .ref a ∧ H1 a = some (ExT (.ref C) (some dd) a) ∧ H1 dd = some (.xd fs) ∧ fs.lookup n = some v ∧ XfC K C ∧ PySem.W.findIn K (.ref C) n = some none ∧ Q v H1
theorem pe_xat {n : Str} {te : TE} {pos : Pos} (he : PE X e te) (hb : attributeBase e n X.env (eval e X.env) = eval e X.env) : PE X (.Attribute e n pos) (tXat X.K n te) := by
  refine ⟨fun pins s σ H Q I h => ?_⟩
  refine attr_of hb (thn (he.run pins s σ H _ I h) fun u s1 hh => ?_)
  obtain ⟨x, H1, I1, rx, a, C, dd, fs, v, ex, ha, hd, l, T, hno, q⟩ := hh
  subst ex
  obtain rfl : u = Value.ref a := rx
  have hx : ObjOk X.prog X.w H1 s1.heap dd (.xd fs) := I1.hok dd _ hd
  obtain ⟨mA, hns, hr⟩ := hx
  obtain ⟨od, ho, hl⟩ := lookIn_ns hns
  obtain ⟨u, hu, ru⟩ := RelO.some_of (v := v) (o := mA n) (by rw [← l]; exact hr n)
  obtain ⟨⟨oe, vs, hget, hz, hv⟩, _, _⟩ := I1.hok a _ ha
  have J : PySem.W.InstAt s1.heap a oe C (some od) := ⟨hget, hz.1, by unfold PySem.W.notCls; rw [hv] <;> rfl, by rw [hz.2]; exact ho⟩
  exact HandSPX.exc_get I1.kIn J T.ga T.gg T.exC (PySem.W.findObj_own T.hdC hno rfl (by rw [hl, hu])) (handed_of ru) ⟨v, H1, I1.tok _, ru, q⟩
/-- the classes of cs keep an attribute n -/
def XaI (G : GE) (k : Nat) (n : Str) : Prop := XfC G.K (G.T k) ∧ PySem.W.findIn G.K (.ref (G.T k)) n = some none ∧ G.xn k = n
theorem le_xat {n : Str} {cs : List Nat} {ta : Zw.WE} {pos : Pos} (hK : X.K = G.K) (hc : ∀ k ∈ cs, XaI G k n) (he : PE X e (LE G W ta)) (hb : attributeBase e n X.env (eval e X.env) = eval e X.env) :
    PE X (.Attribute e n pos) (LE G W fun δ A Q Z => ta δ A (fun x A1 => match x with | .exc c [y] => c ∈ cs ∧ Q y A1 | _ => False) Z) :=
  PE.weak (pe_xat he hb) fun σ H Q ⟨ι, A, δ, Q0, E0, R, Sr, t', kQ, kE⟩ => ⟨ι, A, δ, _, E0, R, Sr, t', fun x A1 h1 ι1 H1 v s1 R1 r1 => by
    cases x with
    | exc c p =>
      cases p with
      | nil => exact (show False from h1).elim
      | cons y p =>
        cases p with
        | cons _ _ => exact (show False from h1).elim
        | nil =>
          obtain ⟨h1, h2⟩ := (show c ∈ cs ∧ Q0 y A1 from h1)
          obtain ⟨c1, c2, c3⟩ := hc c h1
          unfold VR at r1
          obtain ⟨a, d, e, h, vs, hv, z⟩ := r1
          rcases z with ⟨z, _⟩ | ⟨dd, w, z, z2, z3⟩
          · subst z; unfold VRs at hv; obtain ⟨_, _, z, _⟩ := hv; cases z
          · subst z z2
            unfold VRs at hv
            obtain ⟨w', r, ew, hw, hr⟩ := hv
            unfold VRs at hr
            subst hr
            cases ew
            rw [hK]
            refine ⟨a, G.T c, dd, _, w, e, h, z3, ?_, c1, c2, ((kQ _ _ h2).stp s1).now R1 hw⟩
            rw [c3]
            simp [List.lookup]
    | _ => exact (show False from h1).elim, kE⟩
end
end Zw
set_option Elab.async false
set_option linter.all false
set_option maxRecDepth 100000
set_option maxHeartbeats 8000000
/-! Zm: which tree an expression of the text is; every tree's wish is a reading. -/
namespace Zw
open PySem PySem.Spec PyProof.Rows L2

/-- what a def's trees may name: its names by slots, the globals by numbers, the defs that it calls, the kinds of keyword calls, the classes of isinstance, the def that calls a lambda under a try -/
structure Cc where
  N : List Str
  gl : List (Str × Nat)
  av : List Nat
  kw : List (Nat × Nat × List Str × List Nat)
  tys : List TyT
  exs : List Nat
  lams : List Nat
  cau : Str
  xns : List (Nat × Str) := []
  gts : List (Nat × List Str) := []
def okN (x : Str) : Bool := !(x == ("__debug__" : Str)) && !(x == ("__classdict__" : Str))
def visB (sc : Scope) (x : Str) : Bool := match sc.names.lookup x with
  | some .local | some .cell | some .free => true
  | _ => false
def glB (sc : Scope) (x : Str) : Bool := (match sc.names.lookup x with | some .globalImplicit => true | _ => false) && !(x == ("__debug__" : Str)) && !(x == ("__name__" : Str))
def isStrE : Key → Option Expr → Bool
  | .inr k, some (.Constant (.str x) _ _) => decide (x = k)
  | .inl k, some (.Constant (.int x) _ _) => decide (x = k)
  | _, _ => false
def keysB : List Key → List (Option Expr) → Bool
  | [], [] => true
  | k :: ks, e :: es => isStrE k e && keysB ks es
  | _, _ => false
def opB : OP → Operator → Bool
  | .add, .Add | .sub, .Sub | .mul, .Mult | .fdiv, .FloorDiv | .mod, .Mod | .pow, .Pow => true
  | _, _ => false
def coB : CO → CmpOp → Bool
  | .eq, .Eq | .ne, .NotEq | .lt, .Lt | .le, .LtE | .gt, .Gt | .ge, .GtE | .is, .Is | .isnot, .IsNot | .inn, .In | .notin, .NotIn => true
  | _, _ => false
def biB : BI → Str → Nat → Bool
  | .len, x, 1 => decide (x = "len")
  | .abs, x, 1 => decide (x = "abs")
  | .int, x, 1 => decide (x = "int")
  | .min2, x, 2 => decide (x = "min")
  | .max2, x, 2 => decide (x = "max")
  | .list, x, 1 => decide (x = "list")
  | .tuple, x, 1 => decide (x = "tuple")
  | .all, x, 1 => decide (x = "all")
  | .any, x, 1 => decide (x = "any")
  | .dict, x, 1 => decide (x = "dict")
  | .sum, x, 1 => decide (x = "sum")
  | .min1, x, 1 => decide (x = "min")
  | .max1, x, 1 => decide (x = "max")
  | .sorted, x, 1 => decide (x = "sorted")
  | _, _, _ => false
def meB : ME → Str → Nat → Bool
  | .append, x, 1 => decide (x = "append")
  | .pop0, x, 0 => decide (x = "pop")
  | .pop1, x, 1 => decide (x = "pop")
  | .reverse, x, 0 => decide (x = "reverse")
  | .extend, x, 1 => decide (x = "extend")
  | _, _, _ => false
/-- targets that an iterator is let have -/
def tgOk : Ei → Expr → Bool
  | .enm _, x => match x with
    | .Tuple _ _ _ => true
    | _ => false
  | _, _ => true
/-- a class named: a built-in type, or a global of the text -/
def isTy (c : Cc) (sc : Scope) : TyT → Expr → Bool
  | .b n, .Name x _ => decide (x = Str.ofString n) && glB sc x && decide (n ∈ ["int", "bool", "str", "tuple", "list", "dict"])
  | .c k, .Name x _ => decide (c.gl.lookup x = some k) && glB sc x
  | _, _ => false
def isTys (c : Cc) (sc : Scope) : List String → List Expr → Bool
  | [], [] => true
  | t :: ts, e :: es => isTy c sc (.b t) e && isTys c sc ts es
  | _, _ => false
def noPar (a : Arguments) : Bool := a.posonlyargs.isEmpty && a.args.isEmpty && a.vararg.isNone && a.kwonlyargs.isEmpty && a.kw_defaults.isEmpty && a.kwarg.isNone && a.defaults.isEmpty
def blkScope (c : Cc) (own : List Nat) : List (Str × Nat) := own.map fun i => (c.N.getD i "", i)
def locB (sc : Scope) (x : Str) : Bool := match sc.names.lookup x with
  | some .local | some .cell => true
  | _ => false
def kwNames (kws : List Keyword) : List (Option Str) := kws.map (·.arg)
mutual
def isE (c : Cc) (top : Bool) (sc : Scope) : E → Expr → Bool
  | .var i, e => match e with
    | .Name x _ => decide (c.N[i]? = some x) && visB sc x && okN x
    | _ => false
  | .glob k, e => match e with
    | .Name x _ => decide (c.gl.lookup x = some k) && glB sc x
    | _ => false
  | .int i, e => match e with
    | .Constant (.int j) _ _ => decide (i = j)
    | _ => false
  | .bl i, e => match e with
    | .Constant (.bool j) _ _ => decide (i = j)
    | _ => false
  | .non, e => match e with
    | .Constant .none _ _ => true
    | _ => false
  | .str i, e => match e with
    | .Constant (.str j) _ _ => decide (i = j)
    | _ => false
  | .tup es, e => match e with
    | .Tuple xs _ _ => isEs c top sc es xs
    | _ => false
  | .lst es, e => match e with
    | .List xs _ => isEs c top sc es xs
    | _ => false
  | .disp ks es, e => match e with
    | .Dict keys vals _ => keysB ks keys && isEs c top sc es vals && decide (ks.length ≤ 15) && decide (keys.length = vals.length)
    | _ => false
  | .bin o a b, e => match e with
    | .BinOp x op y _ => opB o op && isE c top sc a x && isE c top sc b y
    | _ => false
  | .neg a, e => match e with
    | .UnaryOp .USub x _ => isE c top sc a x
    | _ => false
  | .cmp o a b, e => match e with
    | .Compare x [op] [y] _ => coB o op && isE c top sc a x && isE c top sc b y && notSet y
    | _ => false
  | .chain o o' a b d, e => match e with
    | .Compare x [op, op'] [y, z] _ => coB o op && coB o' op' && isE c top sc a x && isE c top sc b y && isE c top sc d z && notSet z
    | _ => false
  | .not a, e => match e with
    | .UnaryOp .Not x _ => isE c top sc a x
    | _ => false
  | .and a b, e => match e with
    | .BoolOp .And (x :: y :: rest) pos => isE c top sc a x && (match rest with | [] => isE c top sc b y | _ => isE c top sc b (.BoolOp .And (y :: rest) pos))
    | _ => false
  | .or a b, e => match e with
    | .BoolOp .Or (x :: y :: rest) pos => isE c top sc a x && (match rest with | [] => isE c top sc b y | _ => isE c top sc b (.BoolOp .Or (y :: rest) pos))
    | _ => false
  | .ifx a b d, e => match e with
    | .IfExp x y z _ => isE c top sc a x && isE c top sc b y && isE c top sc d z
    | _ => false
  | .idx a b, e => match e with
    | .Subscript x y _ => isE c top sc a x && isE c top sc b y && notSlice y
    | _ => false
  | .sl a lo hi, e => match e with
    | .Subscript x (.Slice l h none _) _ => isE c top sc a x && isO c false sc lo l && isO c false sc hi h
    | _ => false
  | .call k es, e => match e with
    | .Call (.Name x _) args [] _ => decide (c.gl.lookup x = some k) && glB sc x && decide (k ∈ c.av) && isEs c top sc es args && args.all notStar
    | _ => false
  | .callk k m ks perm es kw, e => match e with
    | .Call (.Name x _) args kws _ => decide (c.gl.lookup x = some k) && glB sc x && decide (k ∈ c.av) && decide ((k, m, ks, perm) ∈ c.kw) && isEs c top sc es args && args.all notStar && isEs c top sc kw (kws.map (·.value)) &&
        decide (kws.map (·.arg) = ks.map some) && decide (args.length = m)
    | _ => false
  | .callv ks f es, e => match e with
    | .Call g args [] _ => (match g with | .Name _ _ | .Subscript _ _ _ => true | _ => false) && decide (ks = c.lams) && isE c top sc f g && isEs c top sc es args && args.all notStar && !args.isEmpty
    | _ => false
  | .bi b es, e => match e with
    | .Call (.Name x _) args [] _ => biB b x args.length && glB sc x && isEs c top sc es args && args.all notStar
    | _ => false
  | .isi ex a t, e => match e with
    | .Call (.Name x _) [y, z] [] _ => decide (x = "isinstance") && glB sc x && isE c top sc a y && isTy c sc t z && decide (t ∈ c.tys) && decide (ex = c.exs) && notStar y && notStar z
    | _ => false
  | .isis a ts, e => match e with
    | .Call (.Name x _) [y, .Tuple zs _ _] [] _ => decide (x = "isinstance") && glB sc x && isE c top sc a y && isTys c sc ts zs && ts.all (fun t => decide (TyT.b t ∈ c.tys)) && decide (ts.length ≤ LIM) && notStar y
    | _ => false
  | .meth m o es, e => match e with
    | .Call (.Attribute x name apos) args [] cpos => meB m name args.length && isE c top sc o x && notSuper x && isEs c top sc es args && args.all notStar && decide (args.length < 20) && (apos.endLine == cpos.line)
    | _ => false
  | .comp it g own cd el, e => match e with
    | .ListComp elt [⟨tg, iter, ifs, 0⟩] scope _ => (match tg with | .Name y _ => decide (c.N[g]? = some y) && locB scope y | _ => false) && decide (g ∈ own) && blkC c.N sc scope (blkScope c own) && notSet iter && tgOk it tg &&
        isI c top sc it iter && isF c (relS scope sc) cd ifs && isE c false (relS scope sc) el elt
    | _ => false
  | .lam _, e => match e with
    | .Lambda _ _ _ _ => top
    | _ => false
  | .caught a, e => match e with
    | .Call (.Name x _) [.Lambda params body scope _] [] _ => top && (decide (x = c.cau) && glB sc x) && LamX.lamSB sc scope && noPar params && isE c false scope a body
    | _ => false
  | .xat cs n a, e => match e with
    | .Attribute y m _ => (match y with | .Name _ _ => true | _ => false) && decide (m = n) && isE c top sc a y && cs.all (fun k => decide ((k, n) ∈ c.xns))
    | _ => false
  | .sset it g own cd el, e => match e with
    | .Call (.Name n _) [.SetComp elt [⟨tg, iter, ifs, 0⟩] scope _] [] _ => decide (n = "sorted") && glB sc n && (match tg with | .Name y _ => decide (c.N[g]? = some y) && locB scope y | _ => false) && decide (g ∈ own) && blkC c.N sc scope (blkScope c own) && notSet iter && tgOk it tg &&
        isI c false sc it iter && isF c (relS scope sc) cd ifs && isE c false (relS scope sc) el elt
    | _ => false
  | .lrg1 a, e => match e with
    | .Call (.Name l _) [.Call (.Name n _) [y] [] _] [] _ => decide (l = "list") && glB sc l && decide (n = "range") && glB sc n && isE c false sc a y && notStar y
    | _ => false
  | .lrg2 a b, e => match e with
    | .Call (.Name l _) [.Call (.Name n _) [y, z] [] _] [] _ => decide (l = "list") && glB sc l && decide (n = "range") && glB sc n && isE c false sc a y && isE c false sc b z && notStar y && notStar z
    | _ => false
  | .gtu k ss, e => match e with
    | .Name x _ => decide (c.gl.lookup x = some k) && glB sc x && decide ((k, ss) ∈ c.gts)
    | _ => false
  | .ixo t o y, e => match e with
    | .Call (.Attribute x name apos) [z] [] cpos => decide (name = "index") && isE c false sc o x && notSuper x && isE c false sc y z && notStar z && (apos.endLine == cpos.line)
    | _ => false
  | .isx a, e => match e with
    | .Call (.Name x _) [y, z] [] _ => decide (x = "isinstance") && glB sc x && isE c false sc a y && isTy c sc (.b "tuple") z && decide (TyT.b "tuple" ∈ c.tys) && notStar y && notStar z
    | _ => false
  | .tpx a, e => match e with
    | .Call (.Name x _) [y] [] _ => decide (x = "tuple") && glB sc x && isE c false sc a y && notStar y
    | _ => false
def isEs (c : Cc) (top : Bool) (sc : Scope) : Es → List Expr → Bool
  | .nil, xs => xs.isEmpty
  | .cons e r, xs => match xs with
    | x :: ys => isE c top sc e x && isEs c top sc r ys
    | [] => false
def isO (c : Cc) (top : Bool) (sc : Scope) : Eo → Option Expr → Bool
  | .no, x => x.isNone
  | .yes e, x => match x with
    | some y => isE c top sc e y
    | none => false
/-- a comprehension's tests -/
def isF (c : Cc) (sc : Scope) : Eo → List Expr → Bool
  | .no, x => x.isEmpty
  | .yes e, x => match x with
    | [y] => isE c false sc e y
    | _ => false
def isI (c : Cc) (top : Bool) (sc : Scope) : Ei → Expr → Bool
  | .seq e, x => isE c top sc e x && notStar x
  | .rng1 e, x => match x with
    | .Call (.Name n _) [y] [] _ => decide (n = "range") && glB sc n && isE c top sc e y && notStar y
    | _ => false
  | .rng2 a b, x => match x with
    | .Call (.Name n _) [y, z] [] _ => decide (n = "range") && glB sc n && isE c top sc a y && isE c top sc b z && notStar y && notStar z
    | _ => false
  | .rev e, x => match x with
    | .Call (.Name n _) [y] [] _ => decide (n = "reversed") && glB sc n && isE c top sc e y && notStar y
    | _ => false
  | .enm e, x => match x with
    | .Call (.Name n _) [y] [] _ => decide (n = "enumerate") && glB sc n && isE c top sc e y && notStar y
    | _ => false
end
mutual
/-- the lambdas that are made here -/
def lamsE : E → Expr → List (Nat × Expr)
  | .lam k, e => [(k, e)]
  | .tup es, e => match e with | .Tuple xs _ _ => lamsEs es xs | _ => []
  | .lst es, e => match e with | .List xs _ => lamsEs es xs | _ => []
  | .disp _ es, e => match e with | .Dict _ xs _ => lamsEs es xs | _ => []
  | .bin _ a b, e => match e with | .BinOp x _ y _ => lamsE a x ++ lamsE b y | _ => []
  | .neg a, e => match e with | .UnaryOp _ x _ => lamsE a x | _ => []
  | .cmp _ a b, e => match e with | .Compare x _ [y] _ => lamsE a x ++ lamsE b y | _ => []
  | .chain _ _ a b d, e => match e with | .Compare x _ [y, z] _ => lamsE a x ++ lamsE b y ++ lamsE d z | _ => []
  | .not a, e => match e with | .UnaryOp _ x _ => lamsE a x | _ => []
  | .and a b, e => match e with | .BoolOp op (x :: y :: rest) pos => lamsE a x ++ (match rest with | [] => lamsE b y | _ => lamsE b (.BoolOp op (y :: rest) pos)) | _ => []
  | .or a b, e => match e with | .BoolOp op (x :: y :: rest) pos => lamsE a x ++ (match rest with | [] => lamsE b y | _ => lamsE b (.BoolOp op (y :: rest) pos)) | _ => []
  | .ifx a b d, e => match e with | .IfExp x y z _ => lamsE a x ++ lamsE b y ++ lamsE d z | _ => []
  | .idx a b, e => match e with | .Subscript x y _ => lamsE a x ++ lamsE b y | _ => []
  | .sl a _ _, e => match e with | .Subscript x _ _ => lamsE a x | _ => []
  | .call _ es, e => match e with | .Call _ args _ _ => lamsEs es args | _ => []
  | .callk _ _ _ _ es kw, e => match e with | .Call _ args kws _ => lamsEs es args ++ lamsEs kw (kws.map (·.value)) | _ => []
  | .callv _ f es, e => match e with | .Call g args _ _ => lamsE f g ++ lamsEs es args | _ => []
  | .bi _ es, e => match e with | .Call _ args _ _ => lamsEs es args | _ => []
  | .isi _ a _, e => match e with | .Call _ (y :: _) _ _ => lamsE a y | _ => []
  | .isis a _, e => match e with | .Call _ (y :: _) _ _ => lamsE a y | _ => []
  | .xat _ _ a, e => match e with | .Attribute y _ _ => lamsE a y | _ => []
  | .meth _ o es, e => match e with | .Call (.Attribute x _ _) args _ _ => lamsE o x ++ lamsEs es args | _ => []
  | .comp it _ _ _ _, e => match e with | .ListComp _ [⟨_, iter, _, _⟩] _ _ => lamsI it iter | _ => []
  | _, _ => []
def lamsEs : Es → List Expr → List (Nat × Expr)
  | .cons e r, x :: xs => lamsE e x ++ lamsEs r xs
  | _, _ => []
def lamsI : Ei → Expr → List (Nat × Expr)
  | .seq e, x => lamsE e x
  | .rng1 e, x => match x with | .Call _ [y] _ _ => lamsE e y | _ => []
  | .rng2 a b, x => match x with | .Call _ [y, z] _ _ => lamsE a y ++ lamsE b z | _ => []
  | .rev e, x => match x with | .Call _ [y] _ _ => lamsE e y | _ => []
  | .enm e, x => match x with | .Call _ [y] _ _ => lamsE e y | _ => []
end
end Zw
set_option Elab.async false
set_option linter.all false
set_option maxRecDepth 100000
set_option maxHeartbeats 16000000
/-! Zn: every expression's wish is a reading. -/
namespace Zw
open PySem PySem.Spec PyProof.Rows L2

/-- what the caught call is worth, in the context X -/
def CauP (G : GE) (X : Cx) (x : Str) (k : Nat) : Prop := ∀ (params : Arguments) (body : Expr) (scope : Scope) (p lpos pos : Pos) (t : XK → TE), LamX.LamS X.env.scope scope → noPar params = true →
  (∀ (A : Around) (outer : List Env) (s : Shared) (H : Hp) (E : XK) (f c' : Addr), Room k (A.deeper (LamX.lamEnv X scope s.heap.objs.size f c')) → PE (LamX.lamCx X A outer s H E scope f c') body (t E)) →
  PE X (.Call (.Name x p) [.Lambda params body scope lpos] [] pos) (LamX.tLam G.tabs (TTc G.K (G.T 0)) t)
structure CtxE (G : GE) (c : Cc) (L : Nat) (top : Bool) (sc : Scope) (X : Cx) (W : WX) : Prop where
  prog : X.prog = G.P
  w : X.w = G.w
  K : X.K = G.K
  mg : X.mg = G.mg
  base : X.base = G.base
  N : X.N = c.N
  nd : c.N.Nodup
  sc : X.env.scope = sc
  calm : X.calm = true
  room : Room L X.A
  tk : Takes X W
  cau : top = true → glB X.env.scope c.cau = true → CauP G X c.cau L
def bltNames : List Str := ["len", "abs", "int", "min", "max", "list", "tuple", "all", "isinstance", "range", "bool", "str", "dict", "any", "sum", "sorted", "enumerate", "zip", "reversed", "set", "repr", "type"]
structure Fx (G : GE) (F : Nat → DSp) (S : Nat → Nat → Bool) (c : Cc) (L : Nat) : Prop where
  gl : ∀ x k, c.gl.lookup x = some k → G.mg x = some (.ref (G.T k))
  fn : ∀ k ∈ c.av, FnI G L k (F k) ((c.kw.filter fun q => decide (q.1 = k)).map (·.2))
  bl : ∀ x ∈ bltNames, G.mg x = none
  ty : ∀ t ∈ c.tys, Kin G S c.exs t
  lam : ∀ k ∈ c.lams, LamOk G L k (F k)
  exm : ∀ k, S k 0 = true → PySem.W.exmOne G.K (.ref (G.T k)) (.ref (G.T 0)) = some true
  xa : ∀ p ∈ c.xns, XaI G p.1 p.2
  gt : ∀ p ∈ c.gts, GtI G p.1 p.2

section
variable {G : GE} {F : Nat → DSp} {S : Nat → Nat → Bool} {c : Cc} {L : Nat} {top : Bool} {sc : Scope} {X : Cx} {W : WX} {e : Expr}
theorem glB_gl {x : Str} (cx : CtxE G c L top sc X W) (h : glB sc x = true) : Gl X x ∧ (x == ("__debug__" : Str)) = false ∧ x ≠ "__name__" := by
  unfold glB at h
  rw [Bool.and_eq_true, Bool.and_eq_true] at h
  obtain ⟨⟨h1, h2⟩, h3⟩ := h
  refine ⟨?_, by simpa using h2, by simpa using h3⟩
  show X.env.scope.names.lookup x = some .globalImplicit
  rw [cx.sc]
  revert h1
  cases sc.names.lookup x with
  | none => intro h1; cases h1
  | some k => cases k <;> intro h1 <;> first | rfl | cases h1
theorem visB_vis {x : Str} (cx : CtxE G c L top sc X W) (h : visB sc x = true) : Vis X.env.scope x := by
  show X.env.scope.names.lookup x = _ ∨ X.env.scope.names.lookup x = _ ∨ X.env.scope.names.lookup x = _
  rw [cx.sc]
  unfold visB at h
  revert h
  cases sc.names.lookup x with
  | none => intro h; cases h
  | some k => cases k <;> intro h <;> first | exact .inl rfl | exact .inr (.inl rfl) | exact .inr (.inr rfl) | cases h
theorem okN_ne {x : Str} (h : okN x = true) : (x == ("__debug__" : Str)) = false ∧ (x == ("__classdict__" : Str)) = false := by
  unfold okN at h
  rw [Bool.and_eq_true] at h
  exact ⟨by simpa using h.1, by simpa using h.2⟩
/-- the three readings of an expression -/
def Snd (G : GE) (X : Cx) (W : WX) (e : Expr) (p : Zw.WE × WT) : Prop := PE X e (LE G W p.1) ∧ PT X e (LT G W p.2) ∧ ((∃ op vs pos, e = .BoolOp op vs pos) → PW X e (LT G W p.2))
theorem snd_of {t : Zw.WE} (hK : X.K = G.K) (h : PE X e (LE G W t)) (hp : plainT e = true) : Snd G X W e (both t) :=
  ⟨h, lt_of h hK hp, fun ⟨op, vs, pos, z⟩ => by subst z; cases hp⟩
theorem nil_LA {σ : L2.St} {H : Hp} {K : List V → Hp → Prop} (h : LA G W (fun _ A Q _ => Q [] A) σ H K) : K [] H := by
  obtain ⟨ι, A, δ, Q0, E0, R, Sr, t, kQ, kE⟩ := h
  exact kQ _ _ t ι H [] .refl R VRs.nil
theorem of_fn (fx : Fx G F S c L) (cx : CtxE G c L top sc X W) {k : Nat} (hk : k ∈ c.av) : ∃ fd ps, FnOk X.prog X.w X.K X.mg X.base (L2.CX X.prog X.w) L (G.T k) fd ps (liftSp G (F k)) ∧ PySem.W.keepIn X.K (.ref (G.T k)) = true ∧ Binds X.K fd ps [] ∧
    ∀ q ∈ (c.kw.filter fun q => decide (q.1 = k)).map (·.2), KwB X.K fd ps q.1 q.2.1 q.2.2 := by
  obtain ⟨fd, ps, h1, h2, h3, h4⟩ := fx.fn k hk
  refine ⟨fd, ps, ?_, ?_, ?_, ?_⟩
  · rw [cx.prog, cx.w, cx.K, cx.mg, cx.base]; exact h1
  · rw [cx.K]; exact h2
  · rw [cx.K]; exact h3
  · rw [cx.K]; exact h4
theorem of_gl (fx : Fx G F S c L) (cx : CtxE G c L top sc X W) {x : Str} {k : Nat} (h : c.gl.lookup x = some k) : X.mg x = some (.ref (G.T k)) := by rw [cx.mg]; exact fx.gl x k h
theorem of_bl (fx : Fx G F S c L) (cx : CtxE G c L top sc X W) {x : Str} (h : x ∈ bltNames) : X.mg x = none := by rw [cx.mg]; exact fx.bl x h
theorem snd_call (fx : Fx G F S c L) (cx : CtxE G c L top sc X W) {x : Str} {k : Nat} {p pos : Pos} {args : List Expr} {t : DSt → AH → (List D → AH → Prop) → DX → Prop} (hx : c.gl.lookup x = some k) (hg : glB sc x = true) (hk : k ∈ c.av) (ha : PA X args (LA G W t)) (hs : args.all notStar = true)
    (h0 : args = [] → t = fun _ A Q _ => Q [] A) : PE X (.Call (.Name x p) args [] pos) (LE G W fun δ A Q Z => t δ A (fun ds A1 => F k ds A1 Q Z) Z) := by
  obtain ⟨fd, ps, h1, h2, h3, _⟩ := of_fn fx cx hk
  obtain ⟨g1, g2, g3⟩ := glB_gl cx hg
  cases args with
  | nil =>
    refine le_callOf (sp := F k) (pe_call0SD h1 cx.room g1 (of_gl fx cx hx) h2 h3 (fun σ => passAt cx.tk σ) g2) fun σ H Q z => ?_
    rw [h0 rfl] at z
    exact nil_LA z
  | cons a r =>
    have hs' := hs
    rw [List.all_cons, Bool.and_eq_true] at hs'
    refine le_callOf (sp := F k) (pe_callSD h1 cx.room g1 (of_gl fx cx hx) h2 h3 .nil (fun σ => passAt cx.tk σ) ha g2 (star_cons hs'.1) (star_plain hs'.2)) fun σ H Q z => ?_
    have e : (fun (vs : List V) (H1 : Hp) => liftSp G (F k) (vs ++ []) H1 Q (L2.WE W σ)) = fun vs H1 => liftSp G (F k) vs H1 Q (L2.WE W σ) := by
      funext vs H1
      rw [List.append_nil]
    show LA G W t σ H fun vs H1 => liftSp G (F k) (vs ++ []) H1 Q (L2.WE W σ)
    rw [e]
    exact z
theorem snd_bi {id : String} {x : Str} {p pos : Pos} {args : List Expr} {t : DSt → AH → (List D → AH → Prop) → DX → Prop} {r : List V → Hp → VK → Prop} {rD : List D → AH → DK → Prop} (g1 : Gl X x) (g2 : (x == ("__debug__" : Str)) = false) (g3 : x ≠ "__name__") (hm : X.mg x = none)
    (hv : bootBuiltins x = some (.builtin id)) (ha : PA X args (LA G W t)) (hs : args.all notStar = true) (h0 : args ≠ []) (hc : CallR X (.builtin id) r) (br : Brn G r rD) : PE X (.Call (.Name x p) args [] pos) (LE G W fun δ A Q Z => t δ A (fun ds A1 => rD ds A1 Q) Z) := by
  cases args with
  | nil => exact absurd rfl h0
  | cons a l =>
    have hs' := hs
    rw [List.all_cons, Bool.and_eq_true] at hs'
    exact le_cb (pe_callB hc g1 hm hv ha g3 g2 (star_cons hs'.1) (star_plain hs'.2)) br
theorem snd_ty {T : String} {x : Str} {p pos : Pos} {args : List Expr} {t : DSt → AH → (List D → AH → Prop) → DX → Prop} {r : List V → Hp → VK → Prop} {rD : List D → AH → DK → Prop} (g1 : Gl X x) (g2 : (x == ("__debug__" : Str)) = false) (g3 : x ≠ "__name__") (hm : X.mg x = none)
    (hv : bootBuiltins x = some (.type T)) (ha : PA X args (LA G W t)) (hs : args.all notStar = true) (h0 : args ≠ []) (hc : CallR X (.type T) r) (br : Brn G r rD) : PE X (.Call (.Name x p) args [] pos) (LE G W fun δ A Q Z => t δ A (fun ds A1 => rD ds A1 Q) Z) := by
  cases args with
  | nil => exact absurd rfl h0
  | cons a l =>
    have hs' := hs
    rw [List.all_cons, Bool.and_eq_true] at hs'
    exact le_cb (pe_callTy hc g1 hm hv ha g3 g2 (star_cons hs'.1) (star_plain hs'.2)) br
theorem ne_of_len {args : List Expr} {n : Nat} (h : args.length = n + 1) : args ≠ [] := fun z => by rw [z] at h; cases h
theorem snd_bis (fx : Fx G F S c L) (cx : CtxE G c L top sc X W) {b : BI} {x : Str} {p pos : Pos} {args : List Expr} {t : DSt → AH → (List D → AH → Prop) → DX → Prop} (h : biB b x args.length = true) (hg : glB sc x = true) (ha : PA X args (LA G W t)) (hs : args.all notStar = true) :
    PE X (.Call (.Name x p) args [] pos) (LE G W fun δ A Q Z => t δ A (fun ds A1 => biP b ds A1 Q) Z) := by
  obtain ⟨g1, g2, g3⟩ := glB_gl cx hg
  have hK := cx.K
  unfold biB at h
  split at h <;> first | cases h | skip
  · rename_i hl
    have e := of_decide_eq_true h
    subst e
    refine snd_bi g1 g2 g3 (of_bl fx cx (by decide +kernel)) PySem.boot_len ha hs (ne_of_len hl) call_lenA (by rw [hK]; exact br_len)
  · rename_i hl
    have e := of_decide_eq_true h
    subst e
    exact snd_bi g1 g2 g3 (of_bl fx cx (by decide +kernel)) (id := "abs") (by decide +kernel) ha hs (ne_of_len hl) call_abs br_abs
  · rename_i hl
    have e := of_decide_eq_true h
    subst e
    exact snd_ty g1 g2 g3 (of_bl fx cx (by decide +kernel)) (T := "int") (by decide +kernel) ha hs (ne_of_len hl) call_int1 br_int1
  · rename_i hl
    have e := of_decide_eq_true h
    subst e
    exact snd_bi g1 g2 g3 (of_bl fx cx (by decide +kernel)) (id := "min") (by decide +kernel) ha hs (ne_of_len hl) (call_min2 cx.calm) br_min2
  · rename_i hl
    have e := of_decide_eq_true h
    subst e
    exact snd_bi g1 g2 g3 (of_bl fx cx (by decide +kernel)) (id := "max") (by decide +kernel) ha hs (ne_of_len hl) (call_max2 cx.calm) br_max2
  · rename_i hl
    have e := of_decide_eq_true h
    subst e
    exact snd_ty g1 g2 g3 (of_bl fx cx (by decide +kernel)) (T := "list") (by decide +kernel) ha hs (ne_of_len hl) call_list_of (by rw [hK]; exact br_list)
  · rename_i hl
    have e := of_decide_eq_true h
    subst e
    exact snd_ty g1 g2 g3 (of_bl fx cx (by decide +kernel)) (T := "tuple") (by decide +kernel) ha hs (ne_of_len hl) call_tuple_of (by rw [hK]; exact br_tuple)
  · rename_i hl
    have e := of_decide_eq_true h
    subst e
    exact snd_bi g1 g2 g3 (of_bl fx cx (by decide +kernel)) (id := "all") (by decide +kernel) ha hs (ne_of_len hl) (cr_all cx.calm) (by rw [hK]; exact br_all)
  · rename_i hl
    have e := of_decide_eq_true h
    subst e
    exact snd_bi g1 g2 g3 (of_bl fx cx (by decide +kernel)) (id := "any") (by decide +kernel) ha hs (ne_of_len hl) (cr_any cx.calm) (by rw [hK]; exact br_any)
  · rename_i hl
    have e := of_decide_eq_true h
    subst e
    exact snd_ty g1 g2 g3 (of_bl fx cx (by decide +kernel)) (T := "dict") (by decide +kernel) ha hs (ne_of_len hl) (call_dictP cx.calm) (by rw [hK]; exact br_dict)
  · rename_i hl
    have e := of_decide_eq_true h
    subst e
    exact snd_bi g1 g2 g3 (of_bl fx cx (by decide +kernel)) (id := "sum") (by decide +kernel) ha hs (ne_of_len hl) (CallR.or (cr_sum cx.calm) (cr_sumT cx.calm)) (by rw [hK]; exact br_sum)
  · rename_i hl
    have e := of_decide_eq_true h
    subst e
    exact snd_bi g1 g2 g3 (of_bl fx cx (by decide +kernel)) (id := "min") (by decide +kernel) ha hs (ne_of_len hl) (cr_min cx.calm) (by rw [hK]; exact br_min1)
  · rename_i hl
    have e := of_decide_eq_true h
    subst e
    exact snd_bi g1 g2 g3 (of_bl fx cx (by decide +kernel)) (id := "max") (by decide +kernel) ha hs (ne_of_len hl) (cr_max cx.calm) (by rw [hK]; exact br_max1)
  · rename_i hl
    have e := of_decide_eq_true h
    subst e
    exact snd_bi g1 g2 g3 (of_bl fx cx (by decide +kernel)) (id := "sorted") (by decide +kernel) ha hs (ne_of_len hl) (call_sortA cx.calm) (by rw [hK]; exact br_sorted)
theorem snd_meth (cx : CtxE G c L top sc X W) {m : ME} {name : Str} {o : Expr} {apos cpos : Pos} {args : List Expr} {to : Zw.WE} {t : DSt → AH → (List D → AH → Prop) → DX → Prop} (h : meB m name args.length = true) (ho : PE X o (LE G W to)) (ns : notSuper o = true) (ha : PA X args (LA G W t)) (hs : args.all notStar = true)
    (hl20 : args.length < 20) (hline : (apos.endLine == cpos.line) = true) (h0 : args = [] → t = fun _ A Q _ => Q [] A) :
    PE X (.Call (.Attribute o name apos) args [] cpos) (LE G W fun δ A Q Z => to δ A (fun x A1 => recvP x A1 ∧ t δ A1 (fun ds A2 => methP m x ds A2 Q) Z) Z) := by
  have hK := cx.K
  have few : ∀ (a : Expr) (r : List Expr), args = a :: r → ((backTo cpos (starEach (a :: r) X.env)).all (fun x => !x.1) && (backToKw cpos (keywordEach [] X.env)).all (fun x => x.1.isSome)
      && decide ((a :: r).length + ([] : List Keyword).length + (if ([] : List Keyword).isEmpty then 0 else 1) < 30)) = true := fun a r e => by
    rw [e] at hs hl20
    rw [star_allno hs]
    have z : decide ((a :: r).length + ([] : List Keyword).length + (if ([] : List Keyword).isEmpty then 0 else 1) < 30) = true := decide_eq_true (by simp at hl20 ⊢; omega)
    rw [z]; rfl
  unfold meB at h
  split at h <;> first | cases h | skip
  · rename_i hl
    have e := of_decide_eq_true h
    subst e
    cases args with
    | nil => cases hl
    | cons a r =>
      have hs' := hs
      rw [List.all_cons, Bool.and_eq_true] at hs'
      refine le_bm (r := rAppend) ?_ br_append
      rw [← hK]
      exact pe_bm PySem.F.plainAttrs_list PySem.F.slot_list_append PySem.F.type_list_append mt_append ho ha (plainBase ns) (few a r rfl) hline (star_cons hs'.1) (star_plain hs'.2)
  · rename_i hl
    have e := of_decide_eq_true h
    subst e
    have ea : args = [] := List.eq_nil_of_length_eq_zero hl
    subst ea
    rw [h0 rfl]
    refine le_bm0 (r := rPop) ?_ br_pop0
    rw [← hK]
    exact pe_bm0 PySem.F.plainAttrs_list PySem.F.slot_list_pop PySem.F.type_list_pop mt_pop ho (plainBase ns) hline
  · rename_i hl
    have e := of_decide_eq_true h
    subst e
    cases args with
    | nil => cases hl
    | cons a r =>
      have hs' := hs
      rw [List.all_cons, Bool.and_eq_true] at hs'
      refine le_bm (r := rPopAt) ?_ br_pop1
      rw [← hK]
      exact pe_bm PySem.F.plainAttrs_list PySem.F.slot_list_pop PySem.F.type_list_pop mt_popAt ho ha (plainBase ns) (few a r rfl) hline (star_cons hs'.1) (star_plain hs'.2)
  · rename_i hl
    have e := of_decide_eq_true h
    subst e
    have ea : args = [] := List.eq_nil_of_length_eq_zero hl
    subst ea
    rw [h0 rfl]
    refine le_bm0 (r := rReverse) ?_ br_reverse
    rw [← hK]
    exact pe_bm0 PySem.F.plainAttrs_list PySem.F.slot_list_reverse PySem.F.type_list_reverse mt_reverse ho (plainBase ns) hline
  · rename_i hl
    have e := of_decide_eq_true h
    subst e
    cases args with
    | nil => cases hl
    | cons a r =>
      have hs' := hs
      rw [List.all_cons, Bool.and_eq_true] at hs'
      refine le_bm (r := rExtend) ?_ br_extend
      rw [← hK]
      exact pe_bm PySem.F.plainAttrs_list PySem.F.slot_list_extend PySem.F.type_list_extend mt_extend ho ha (plainBase ns) (few a r rfl) hline (star_cons hs'.1) (star_plain hs'.2)
theorem snd_cls (fx : Fx G F S c L) (cx : CtxE G c L top sc X W) {t : TyT} {z : Expr} (h : isTy c sc t z = true) : PE X z (tC (tvV G t)) := by
  cases t with
  | b n =>
    unfold isTy at h
    split at h
    · rename_i n' x p e1
      cases e1
      rw [Bool.and_eq_true, Bool.and_eq_true] at h
      obtain ⟨⟨h1, h2⟩, h3⟩ := h
      have e := of_decide_eq_true h1
      obtain ⟨g1, g2, g3⟩ := glB_gl cx h2
      subst e
      have hb : bootBuiltins (Str.ofString n) = some (.type n) ∧ (Str.ofString n) ∈ bltNames := by
        have h3 := of_decide_eq_true h3
        simp only [List.mem_cons, List.not_mem_nil, or_false] at h3
        rcases h3 with e | e | e | e | e | e <;> subst e <;> exact ⟨by decide +kernel, by decide +kernel⟩
      exact pe_bltn g1 (of_bl fx cx hb.2) hb.1 rfl g3 g2
    · rename_i e1; cases e1
    · cases h
  | c k =>
    unfold isTy at h
    split at h
    · rename_i e1; cases e1
    · rename_i k' x p e1
      cases e1
      rw [Bool.and_eq_true] at h
      obtain ⟨h1, h2⟩ := h
      obtain ⟨g1, g2, g3⟩ := glB_gl cx h2
      exact pe_glob g1 (of_gl fx cx (of_decide_eq_true h1)) rfl g2
    · cases h
theorem nameStar {c : Cc} {sc : Scope} {t : TyT} {z : Expr} (h : isTy c sc t z = true) : notStar z = true := by
  unfold isTy at h
  split at h <;> first | rfl | cases h
theorem snd_clss (fx : Fx G F S c L) (cx : CtxE G c L top sc X W) : ∀ {ts : List String} {zs : List Expr}, isTys c sc ts zs = true → PA X zs (tTys ts)
  | [], [], _ => pa_nil
  | [], _ :: _, h => by cases h
  | _ :: _, [], h => by cases h
  | t :: ts, z :: zs, h => by
    unfold isTys at h
    rw [Bool.and_eq_true] at h
    exact pa_cons (snd_cls fx cx h.1) (snd_clss fx cx h.2) (star_cons (nameStar h.1))
end
end Zw
set_option Elab.async false
set_option linter.all false
set_option maxRecDepth 100000
set_option maxHeartbeats 16000000
/-! Zo: every expression's wish is a reading: all at once. -/
namespace Zw
open PySem PySem.Spec PyProof.Rows L2

theorem ff {P : Prop} (h : false = true) : P := by cases h
section
variable {G : GE} {F : Nat → DSp} {S : Nat → Nat → Bool} {c : Cc} {L : Nat} {X : Cx} {W : WX}
theorem binOps (hK : X.K = G.K) {o : OP} {op : Operator} (h : opB o op = true) : ∃ r, OpR X (binaryOp op) r ∧ Br2 G r (binP o) := by
  unfold opB at h
  split at h
  · exact ⟨_, op_add.or (op_cat.or op_catA), by rw [hK]; exact br_add⟩
  · exact ⟨_, op_sub, br_sub⟩
  · exact ⟨_, op_mul.or (op_rep.or (op_repT.or op_repT1)), by rw [hK]; exact br_mul⟩
  · exact ⟨_, op_fdivW, br_fdiv⟩
  · exact ⟨_, op_modN, br_mod⟩
  · exact ⟨_, op_pow, br_pow⟩
  · cases h
theorem cmpOps (hK : X.K = G.K) (hu : X.A.units + 64 < cLine) {o : CO} {op : CmpOp} (h : coB o op = true) : ∃ r, OpR X (compareOp op) r ∧ Brc G r o := by
  unfold coB at h
  split at h
  · exact ⟨_, (op_eqP hu).or (op_eqL hu), by rw [hK]; exact br_eq⟩
  · exact ⟨_, (op_neP hu).or (op_neL hu), by rw [hK]; exact br_ne⟩
  · exact ⟨_, op_lt, br_lt⟩
  · exact ⟨_, op_le, br_le⟩
  · exact ⟨_, op_gt, br_gt⟩
  · exact ⟨_, op_ge, br_ge⟩
  · exact ⟨_, op_isN.or op_isT, br_is⟩
  · exact ⟨_, op_notN.or op_isntT, br_isnot⟩
  · exact ⟨_, (op_inP hu).or (op_inD hu), by rw [hK]; exact br_in⟩
  · exact ⟨_, (op_ninP hu).or (op_ninD hu), by rw [hK]; exact br_notin⟩
  · cases h
/-- rows of readings -/
def SndL (G : GE) (X : Cx) (W : WX) : List Expr → List Zw.WE → Prop
  | [], [] => True
  | e :: es, t :: ts => (PE X e (LE G W t) ∧ notStar e = true) ∧ SndL G X W es ts
  | _, _ => False
theorem SndL.len : ∀ {es : List Expr} {ts : List Zw.WE}, SndL G X W es ts → es.length = ts.length
  | [], [], _ => rfl
  | [], _ :: _, h => h.elim
  | _ :: _, [], h => h.elim
  | _ :: es, _ :: ts, h => by rw [List.length_cons, List.length_cons, SndL.len h.2]
theorem SndL.stars : ∀ {es : List Expr} {ts : List Zw.WE}, SndL G X W es ts → es.all notStar = true
  | [], [], _ => rfl
  | [], _ :: _, h => h.elim
  | _ :: _, [], h => h.elim
  | _ :: es, _ :: ts, h => by rw [List.all_cons, h.1.2, SndL.stars h.2]; rfl
theorem SndL.pa : ∀ {es : List Expr} {ts : List Zw.WE}, SndL G X W es ts → PA X es (LA G W (rowP ts))
  | [], [], _ => la_nil
  | [], _ :: _, h => h.elim
  | _ :: _, [], h => h.elim
  | _ :: es, _ :: ts, h => la_cons h.1.2 h.1.1 (SndL.pa h.2)
theorem SndL.pk : ∀ {kws : List Keyword} {ts : List Zw.WE}, SndL G X W (kws.map (·.value)) ts → PK X kws (LA G W (rowP ts))
  | [], [], _ => lk_nil
  | [], _ :: _, h => h.elim
  | _ :: _, [], h => h.elim
  | ⟨nm, e, p⟩ :: es, _ :: ts, h => lk_cons h.1.1 (SndL.pk h.2)
theorem isStrE_of {k : Key} {e : Option Expr} (h : isStrE k e = true) : ∃ x, e = some x ∧ PE X x (tC (kV k)) := by
  unfold isStrE at h
  split at h
  · have h := of_decide_eq_true h
    subst h
    exact ⟨_, rfl, pe_str⟩
  · have h := of_decide_eq_true h
    subst h
    exact ⟨_, rfl, pe_int⟩
  · cases h
theorem SndL.pps {pos : Pos} : ∀ {ks : List Key} {keys : List (Option Expr)} {es : List Expr} {ts : List Zw.WE}, keysB ks keys = true → keys.length = es.length → SndL G X W es ts → PPs X pos keys es (pairsOf G W ks ts) ∧ ks.length = ts.length ∧ keys.all (·.isSome) = true ∧ keys.length = ks.length
  | [], [], [], [], _, _, _ => ⟨pps_nil, rfl, rfl, rfl⟩
  | [], [], _ :: _, _, _, h, _ => by cases h
  | [], [], [], _ :: _, _, _, h => h.elim
  | [], _ :: _, _, _, h, _, _ => by cases h
  | _ :: _, [], _, _, h, _, _ => by cases h
  | _ :: _, _ :: _, [], _, _, h, _ => by cases h
  | _ :: _, _ :: _, _ :: _, [], _, _, h => h.elim
  | k :: ks, e :: keys, v :: es, t :: ts, h, hl, hs => by
    unfold keysB at h
    rw [Bool.and_eq_true] at h
    obtain ⟨x, ee, he⟩ := isStrE_of (X := X) h.1
    subst ee
    obtain ⟨h1, h2, h3, h4⟩ := SndL.pps (pos := pos) h.2 (by simpa using hl) hs.2
    exact ⟨pps_cons he hs.1.1 h1, by rw [List.length_cons, List.length_cons, h2], by rw [List.all_cons, h3]; rfl, by rw [List.length_cons, List.length_cons, h4]⟩
def exprs (F : Nat → DSp) (S : Nat → Nat → Bool) : Es → List Zw.WE
  | .nil => []
  | .cons e r => (wp F S e).1 :: exprs F S r
theorem rowP_eq : ∀ es : Es, rowP (exprs F S es) = wpEs F S es
  | .nil => rfl
  | .cons e r => by
    show rowP ((wp F S e).1 :: exprs F S r) = _
    funext δ A Q Z
    show (wp F S e).1 δ A (fun x A1 => rowP (exprs F S r) δ A1 (fun xs A2 => Q (x :: xs) A2) Z) Z = _
    rw [rowP_eq r]; rfl
def LamsOk (G : GE) (X : Cx) (W : WX) (ls : List (Nat × Expr)) : Prop := ∀ p ∈ ls, PE X p.2 (LE G W fun _ A Q _ => Q (.lam p.1) A)
theorem LamsOk.l {a b : List (Nat × Expr)} {t : Prop} (h : t → LamsOk G X W (a ++ b)) : t → LamsOk G X W a := fun z p hp => h z p (List.mem_append_left _ hp)
theorem LamsOk.r {a b : List (Nat × Expr)} {t : Prop} (h : t → LamsOk G X W (a ++ b)) : t → LamsOk G X W b := fun z p hp => h z p (List.mem_append_right _ hp)
theorem snd3 {e : Expr} {p : Zw.WE × WT} (h : PE X e (LE G W p.1)) (ht : PT X e (LT G W p.2)) (hb : ∀ op vs pos, e ≠ .BoolOp op vs pos) : Snd G X W e p := ⟨h, ht, fun ⟨op, vs, pos, z⟩ => absurd z (hb op vs pos)⟩
theorem star_isE {top : Bool} {sc : Scope} {m : E} {e : Expr} (h : isE c top sc m e = true) : notStar e = true := by
  cases e with
  | Starred x p => cases m <;> exact ff h
  | _ => rfl
theorem PTs.weak {es : List Expr} {t t' : L2.TT} (h : PTs X es t) (k : ∀ σ H Q, t' σ H Q → t σ H Q) : PTs X es t' := ⟨fun pins s σ H Q I z => h.run pins s σ H Q I (k σ H Q z)⟩
theorem blkScope_ix (own : List Nat) : (blkScope c own).map (·.2) = own := by
  unfold blkScope
  rw [List.map_map]
  exact List.map_id own
theorem kw_of : ∀ {kws : List Keyword} {ks : List Str}, kws.map (·.arg) = ks.map some → kws.all (fun k => k.arg.isSome) = true ∧ kws.filterMap (·.arg) = ks
  | [], [], _ => ⟨rfl, rfl⟩
  | [], _ :: _, h => by cases h
  | _ :: _, [], h => by cases h
  | k :: kws, x :: ks, h => by
    rw [List.map_cons, List.map_cons] at h
    have h1 := (List.cons.inj h).1
    obtain ⟨h2, h3⟩ := kw_of (List.cons.inj h).2
    refine ⟨by rw [List.all_cons, h2, h1]; rfl, ?_⟩
    rw [List.filterMap_cons_some h1, h3]
theorem snd_callk (fx : Fx G F S c L) {top : Bool} {sc : Scope} (cx : CtxE G c L top sc X W) {k m : Nat} {ks : List Str} {perm : List Nat} {x : Str} {p pos : Pos} {args : List Expr} {kws : List Keyword} {ta tb : List Zw.WE} (hx : c.gl.lookup x = some k) (hg : glB sc x = true) (hk : k ∈ c.av) (hw : (k, m, ks, perm) ∈ c.kw)
    (ha : SndL G X W args ta) (hb : SndL G X W (kws.map (·.value)) tb) (hks : kws.map (·.arg) = ks.map some) (hm : args.length = m) :
    PE X (.Call (.Name x p) args kws pos) (LE G W fun δ A Q Z => rowP ta δ A (fun xs A1 => rowP tb δ A1 (fun ys A2 => xs.length = m ∧ ys.length = ks.length ∧ opt (perm.mapM fun i => (xs ++ ys)[i]?) fun zs => F k zs A2 Q Z) Z) Z) := by
  obtain ⟨fd, ps, h1, h2, h3, h4⟩ := of_fn fx cx hk
  obtain ⟨g1, g2, g3⟩ := glB_gl cx hg
  have hq := h4 (m, ks, perm) (List.mem_map.mpr ⟨(k, m, ks, perm), List.mem_filter.mpr ⟨hw, by simp⟩, rfl⟩)
  obtain ⟨k1, k2⟩ := kw_of hks
  refine le_callk ?_
  cases args with
  | nil =>
    have hm0 : m = 0 := hm.symm
    subst hm0
    cases ta with
    | cons t ts => exact ha.elim
    | nil =>
      refine PE.weak (pe_callK0SD h1 cx.room g1 (of_gl fx cx hx) h2 hq (fun σ => passAt cx.tk σ) g2 hb.pk k1 k2) fun σ H Q z => ?_
      obtain ⟨ι, A, δ, Q0, E0, R, Sr, t, kQ, kE⟩ := (nil_LA z)
      exact ⟨ι, A, δ, Q0, E0, R, Sr, t, fun d A' q ι' H' vs s R' r => ⟨((kQ d A' q) ι' H' vs s R' r).2.1, ((kQ d A' q) ι' H' vs s R' r).2.2⟩, kE⟩
  | cons a r => 
    have z := pe_callKSD (X := X) (p := p) (pos := pos) h1 cx.room g1 (of_gl fx cx hx) h2 hq (fun σ => passAt cx.tk σ) g2 ha.pa hb.pk ha.stars k1 k2
    rw [← hm] at z ⊢
    exact z
end
end Zw
set_option Elab.async false
set_option linter.all false
set_option maxRecDepth 100000
set_option maxHeartbeats 16000000
/-! Zp: every expression's wish is a reading: the theorem. -/
namespace Zw
open PySem PySem.Spec PyProof.Rows L2

section
variable {G : GE} {F : Nat → DSp} {S : Nat → Nat → Bool} {c : Cc} {L : Nat}
theorem CtxE.low {top : Bool} {sc : Scope} {X : Cx} {W : WX} (cx : CtxE G c L top sc X W) : CtxE G c L false sc X W := ⟨cx.prog, cx.w, cx.K, cx.mg, cx.base, cx.N, cx.nd, cx.sc, cx.calm, cx.room, cx.tk, fun z => by cases z⟩
mutual
theorem sE (fx : Fx G F S c L) : (m : E) → {top : Bool} → {sc : Scope} → {X : Cx} → {W : WX} → {e : Expr} → isE c top sc m e = true → CtxE G c L top sc X W → (top = true → LamsOk G X W (lamsE m e)) → Snd G X W e (wp F S m)
  | .var i, top, sc, X, W, e, h, cx, hl => by
    unfold isE at h; split at h
    · rename_i x p
      simp only [Bool.and_eq_true, decide_eq_true_eq] at h
      obtain ⟨⟨h1, h2⟩, h3⟩ := h
      exact snd_of cx.K (le_var (pe_var (by rw [cx.N]; exact h1) (visB_vis cx h2) (okN_ne h3).1 (okN_ne h3).2)) rfl
    · exact ff h
  | .glob k, top, sc, X, W, e, h, cx, hl => by
    unfold isE at h; split at h
    · rename_i x p
      simp only [Bool.and_eq_true, decide_eq_true_eq] at h
      obtain ⟨g1, g2, g3⟩ := glB_gl cx h.2
      exact snd_of cx.K (le_c (v := .ref (G.T k)) (pe_glob g1 (of_gl fx cx h.1) rfl g2) fun _ _ => .mkFn) rfl
    · exact ff h
  | .int i, top, sc, X, W, e, h, cx, hl => by
    unfold isE at h; split at h
    · have h := of_decide_eq_true h
      subst h
      exact snd_of cx.K (le_c pe_int fun _ _ => .mkInt) rfl
    · exact ff h
  | .bl i, top, sc, X, W, e, h, cx, hl => by
    unfold isE at h; split at h
    · have h := of_decide_eq_true h
      subst h
      exact snd_of cx.K (le_c pe_bl fun _ _ => .mkBl) rfl
    · exact ff h
  | .non, top, sc, X, W, e, h, cx, hl => by
    unfold isE at h; split at h
    · exact snd_of cx.K (le_c pe_non fun _ _ => .mkNon) rfl
    · exact ff h
  | .str i, top, sc, X, W, e, h, cx, hl => by
    unfold isE at h; split at h
    · have h := of_decide_eq_true h
      subst h
      exact snd_of cx.K (le_c pe_str fun _ _ => .mkStr) rfl
    · exact ff h
  | .tup es, top, sc, X, W, e, h, cx, hl => by
    unfold isE at h; split at h
    · rename_i xs k pos
      have r := sEs fx es h cx hl
      have z := le_tup (pe_tup (x1 := k) (pos := pos) r.pa)
      rw [rowP_eq] at z
      exact snd_of cx.K z rfl
    · exact ff h
  | .lst es, top, sc, X, W, e, h, cx, hl => by
    unfold isE at h; split at h
    · rename_i xs pos
      have r := sEs fx es h cx hl
      have z := le_lst (pe_lst (pos := pos) r.pa)
      rw [rowP_eq] at z
      exact snd_of cx.K z rfl
    · exact ff h
  | .disp ks es, top, sc, X, W, e, h, cx, hl => by
    unfold isE at h; split at h
    · rename_i keys vals pos
      simp only [Bool.and_eq_true, decide_eq_true_eq] at h
      obtain ⟨⟨⟨h1, h2⟩, h4⟩, h5⟩ := h
      have r := sEs fx es h2 cx hl
      obtain ⟨r1, r2, r3, r4⟩ := SndL.pps (pos := pos) h1 h5 r
      by_cases h0 : keys = []
      · subst h0
        cases vals with
        | cons a b => cases h5
        | nil =>
          cases ks with
          | cons a b => cases r4
          | nil =>
            cases es with
            | cons a b => exact r.elim
            | nil => exact snd_of cx.K (PE.weak pe_dnewK fun σ H Q ⟨ι, A, δ, Q0, E0, R, Sr, t, kQ, kE⟩ => PostV.dct (kvs := []) (ws := []) (kQ _ _ t.2.2) R rfl) rfl
      · have z := le_disp r2 (pe_disp r1 r3 h5 h0 (by rw [r4]; exact h4))
        rw [rowP_eq] at z
        exact snd_of cx.K z rfl
    · exact ff h
  | .bin o a b, top, sc, X, W, e, h, cx, hl => by
    unfold isE at h; split at h
    · rename_i x op y p
      simp only [Bool.and_eq_true] at h
      obtain ⟨⟨h1, h2⟩, h3⟩ := h
      obtain ⟨r, ho, br⟩ := binOps (X := X) cx.K h1
      exact snd_of cx.K (le_op2 (pe_op ho (sE fx a h2 cx (LamsOk.l hl)).1 (sE fx b h3 cx (LamsOk.r hl)).1) br) rfl
    · exact ff h
  | .neg a, top, sc, X, W, e, h, cx, hl => by
    unfold isE at h; split at h
    · exact snd_of cx.K (le_neg (pe_un un_neg (sE fx a h cx hl).1)) rfl
    · exact ff h
  | .cmp o a b, top, sc, X, W, e, h, cx, hl => by
    unfold isE at h; split at h
    · rename_i x op y p
      simp only [Bool.and_eq_true] at h
      obtain ⟨⟨⟨h1, h2⟩, h3⟩, h4⟩ := h
      obtain ⟨r, ho, br⟩ := cmpOps (X := X) cx.K cx.room.units h1
      have ha := (sE fx a h2 cx (LamsOk.l hl)).1
      have hb := (sE fx b h3 cx (LamsOk.r hl)).1
      exact snd3 (le_cmp (pe_cmpR ho ha hb (nomarks h4)) br) (lt_cmp (pt_cmpR ho ha hb (nomarks h4)) br) fun _ _ _ z => by cases z
    · exact ff h
  | .chain o o' a b d, top, sc, X, W, e, h, cx, hl => by
    unfold isE at h; split at h
    · rename_i x op op' y z p
      simp only [Bool.and_eq_true] at h
      obtain ⟨⟨⟨⟨⟨h1, h2⟩, h3⟩, h4⟩, h5⟩, h6⟩ := h
      obtain ⟨r, ho, br⟩ := cmpOps (X := X) cx.K cx.room.units h1
      obtain ⟨r', ho', br'⟩ := cmpOps (X := X) cx.K cx.room.units h2
      have ha := (sE fx a h3 cx (LamsOk.l (LamsOk.l hl))).1
      have hb := (sE fx b h4 cx (LamsOk.r (LamsOk.l hl))).1
      have hd := (sE fx d h5 cx (LamsOk.r hl)).1
      have hm : lastMarks [op, op'] [y, z] = false := nomarks h6
      exact snd3 (le_chain (pe_chain ho ho' ha hb hd hm) br br') (lt_chain (pt_chain ho ho' ha hb hd hm) br br') fun _ _ _ z => by cases z
    · exact ff h
  | .not a, top, sc, X, W, e, h, cx, hl => by
    unfold isE at h; split at h
    · have z := sE fx a h cx hl
      exact snd3 (le_not z.1 cx.K) (lt_not z.2.1) fun _ _ _ z => by cases z
    · exact ff h
  | .and a b, top, sc, X, W, e, h, cx, hl => by
    unfold isE at h; split at h
    · rename_i x y rest pos
      rw [Bool.and_eq_true] at h
      have za := sE fx a h.1 cx (LamsOk.l hl)
      cases rest with
      | nil =>
        have zb := sE fx b h.2 cx (LamsOk.r hl)
        have w := lt_and (pos := pos) za.2.1 (pw_and1 (pos := pos) zb.2.1)
        exact ⟨le_and za.1 cx.K (pe_one zb.1), w.pt, fun _ => w⟩
      | cons z r =>
        have zb := sE fx b (e := .BoolOp .And (y :: z :: r) pos) h.2 cx (LamsOk.r hl)
        have w := lt_and (pos := pos) za.2.1 (zb.2.2 ⟨_, _, _, rfl⟩)
        exact ⟨le_and za.1 cx.K zb.1, w.pt, fun _ => w⟩
    · exact ff h
  | .or a b, top, sc, X, W, e, h, cx, hl => by
    unfold isE at h; split at h
    · rename_i x y rest pos
      rw [Bool.and_eq_true] at h
      have za := sE fx a h.1 cx (LamsOk.l hl)
      cases rest with
      | nil =>
        have zb := sE fx b h.2 cx (LamsOk.r hl)
        have w := lt_or (pos := pos) za.2.1 (pw_or1 (pos := pos) zb.2.1)
        exact ⟨le_or za.1 cx.K (pe_one zb.1), w.pt, fun _ => w⟩
      | cons z r =>
        have zb := sE fx b (e := .BoolOp .Or (y :: z :: r) pos) h.2 cx (LamsOk.r hl)
        have w := lt_or (pos := pos) za.2.1 (zb.2.2 ⟨_, _, _, rfl⟩)
        exact ⟨le_or za.1 cx.K zb.1, w.pt, fun _ => w⟩
    · exact ff h
  | .ifx a b d, top, sc, X, W, e, h, cx, hl => by
    unfold isE at h; split at h
    · simp only [Bool.and_eq_true] at h
      obtain ⟨⟨h1, h2⟩, h3⟩ := h
      have ha := sE fx a h1 cx (LamsOk.l (LamsOk.l hl))
      have hb := sE fx b h2 cx (LamsOk.r (LamsOk.l hl))
      have hd := sE fx d h3 cx (LamsOk.r hl)
      exact snd3 (le_ifx ha.2.1 hb.1 hd.1) (lt_ifx ha.2.1 hb.2.1 hd.2.1) fun _ _ _ z => by cases z
    · exact ff h
  | .idx a b, top, sc, X, W, e, h, cx, hl => by
    unfold isE at h; split at h
    · simp only [Bool.and_eq_true] at h
      obtain ⟨⟨h1, h2⟩, h3⟩ := h
      exact snd_of cx.K (le_idx (by have := cx.room.units; omega) cx.K (sE fx a h1 cx (LamsOk.l hl)).1 (sE fx b h2 cx (LamsOk.r hl)).1 h3) rfl
    · exact ff h
  | .sl a lo hi, top, sc, X, W, e, h, cx, hl => by
    unfold isE at h; split at h
    · simp only [Bool.and_eq_true] at h
      obtain ⟨⟨h1, h2⟩, h3⟩ := h
      exact snd_of cx.K (le_sl cx.K (sE fx a h1 cx hl).1 (sO fx lo h2 cx.low) (sO fx hi h3 cx.low)) rfl
    · exact ff h
  | .call k es, top, sc, X, W, e, h, cx, hl => by
    unfold isE at h; split at h
    · rename_i x p args pos
      simp only [Bool.and_eq_true, decide_eq_true_eq] at h
      obtain ⟨⟨⟨⟨h1, h2⟩, h3⟩, h4⟩, h5⟩ := h
      have r := sEs fx es h4 cx hl
      have z := snd_call fx cx (p := p) (pos := pos) h1 h2 h3 r.pa h5 (fun e0 => by
        subst e0
        cases es with
        | nil => rfl
        | cons a b => exact r.elim)
      rw [rowP_eq] at z
      exact snd_of cx.K z rfl
    · exact ff h
  | .callk k m ks perm es kw, top, sc, X, W, e, h, cx, hl => by
    unfold isE at h; split at h
    · rename_i x p args kws pos
      simp only [Bool.and_eq_true, decide_eq_true_eq] at h
      obtain ⟨⟨⟨⟨⟨⟨⟨⟨h1, h2⟩, h3⟩, h4⟩, h5⟩, h6⟩, h7⟩, h8⟩, h9⟩ := h
      have r := sEs fx es h5 cx (LamsOk.l hl)
      have r' := sEs fx kw h7 cx (LamsOk.r hl)
      have z := snd_callk fx cx (p := p) (pos := pos) h1 h2 h3 h4 r r' h8 h9
      rw [rowP_eq, rowP_eq] at z
      exact snd_of cx.K z rfl
    · exact ff h
  | .callv ks f es, top, sc, X, W, e, h, cx, hl => by
    unfold isE at h; split at h
    · rename_i g args pos
      simp only [Bool.and_eq_true, decide_eq_true_eq] at h
      obtain ⟨⟨⟨⟨⟨h1, h2⟩, h3⟩, h4⟩, h5⟩, h6⟩ := h
      subst h2
      have r := sEs fx es h4 cx (LamsOk.r hl)
      have hf := (sE fx f h3 cx (LamsOk.l hl)).1
      cases args with
      | nil => cases h6
      | cons a b =>
        have z := pe_callV (pos := pos) cx.prog cx.w cx.K cx.mg cx.base fx.lam cx.room cx.tk hf r.pa h5 (by
          split at h1
          · rfl
          · rfl
          · exact ff h1)
        rw [rowP_eq] at z
        exact snd_of cx.K z rfl
    · exact ff h
  | .bi b es, top, sc, X, W, e, h, cx, hl => by
    unfold isE at h; split at h
    · rename_i x p args pos
      simp only [Bool.and_eq_true] at h
      obtain ⟨⟨⟨h1, h2⟩, h3⟩, h4⟩ := h
      have z := snd_bis fx cx (p := p) (pos := pos) h1 h2 (sEs fx es h3 cx hl).pa h4
      rw [rowP_eq] at z
      exact snd_of cx.K z rfl
    · exact ff h
  | .isi ex a t, top, sc, X, W, e, h, cx, hl => by
    unfold isE at h; split at h
    · simp only [Bool.and_eq_true, decide_eq_true_eq] at h
      obtain ⟨⟨⟨⟨⟨⟨⟨h1, h2⟩, h3⟩, h4⟩, h5⟩, h6⟩, h7⟩, h8⟩ := h
      subst h1 h6
      obtain ⟨g1, g2, g3⟩ := glB_gl cx h2
      refine snd_of cx.K (le_isi cx.K (fx.ty t h5) (pe_callB (CallR.or call_isi call_isX) g1 (of_bl fx cx (by decide +kernel)) (by decide +kernel) (pa_cons (sE fx a h3 cx hl).1 (pa_cons (snd_cls fx cx h4) pa_nil (star_cons h8)) (star_cons h7)) g3 g2 (star_cons h7) (star_plain (by rw [List.all_cons, h8]; rfl)))) rfl
    · exact ff h
  | .isis a ts, top, sc, X, W, e, h, cx, hl => by
    unfold isE at h; split at h
    · simp only [Bool.and_eq_true, decide_eq_true_eq, List.all_eq_true] at h
      obtain ⟨⟨⟨⟨⟨⟨h1, h2⟩, h3⟩, h4⟩, h5⟩, h6⟩, h7⟩ := h
      subst h1
      obtain ⟨g1, g2, g3⟩ := glB_gl cx h2
      have hk : ∀ t ∈ ts, Kin G S [] (.b t) := fun t ht => ⟨(fx.ty _ (h5 t ht)).1, fun k hk => (List.not_mem_nil hk).elim⟩
      refine snd_of cx.K (le_isis cx.K h6 hk (pe_callB call_isiT g1 (of_bl fx cx (by decide +kernel)) (by decide +kernel) (pa_cons (sE fx a h3 cx hl).1 (pa_cons (pe_tup (snd_clss fx cx h4)) pa_nil (star_cons rfl)) (star_cons h7)) g3 g2 (star_cons h7) (star_plain (by rfl)))) rfl
    · exact ff h
  | .meth m o es, top, sc, X, W, e, h, cx, hl => by
    unfold isE at h; split at h
    · simp only [Bool.and_eq_true, decide_eq_true_eq] at h
      obtain ⟨⟨⟨⟨⟨⟨h1, h2⟩, h3⟩, h4⟩, h5⟩, h6⟩, h7⟩ := h
      have r := sEs fx es h4 cx (LamsOk.r hl)
      have z := snd_meth cx h1 (sE fx o h2 cx (LamsOk.l hl)).1 h3 r.pa h5 h6 h7 (fun e0 => by
        subst e0
        cases es with
        | nil => rfl
        | cons a b => exact r.elim)
      rw [rowP_eq] at z
      exact snd_of cx.K z rfl
    · exact ff h
  | .comp it g own cd el, top, sc, X, W, e, h, cx, hl => by
    unfold isE at h; split at h
    · rename_i elt tg iter ifs scope pos
      simp only [Bool.and_eq_true, decide_eq_true_eq] at h
      obtain ⟨⟨⟨⟨⟨⟨⟨h1, h2⟩, h3⟩, h4⟩, ht⟩, h5⟩, h6⟩, h7⟩ := h
      have cb : ∀ (s : Shared) (H : Hp) (C : Addr) (cl : List (Str × Addr)) (fp : List Addr), CtxE G c L false (relS scope sc) (X.blk s H scope (compEnvC scope cl C X.env) fp) (fun _ _ _ _ => False) := fun s H C cl fp =>
        ⟨cx.prog, cx.w, cx.K, cx.mg, cx.base, cx.N, cx.nd, by rw [← cx.sc]; rfl, cx.calm, cx.room, takes0, fun z => by cases z⟩
      have no : ∀ {P : Prop}, false = true → P := fun z => by cases z
      split at h1
      · rename_i y p
        rw [Bool.and_eq_true, decide_eq_true_eq] at h1
        have z := pe_lc (pos := pos) cx.calm (by rw [cx.N]; exact cx.nd) (sI fx it (tg := .Name y p) h5 ht cx hl) (own := blkScope c own) (by rw [cx.N, cx.sc]; exact blkOk_by h3)
          (g := gName g) (fun s H C cl fp => pg_name (X := X.blk s H scope (compEnvC scope cl C X.env) fp) (by show X.N.Nodup; rw [cx.N]; exact cx.nd) (by show X.N[g]? = some y; rw [cx.N]; exact h1.1) ?_ ?_)
          (fun s H C cl fp => sF fx cd h6 (cb s H C cl fp)) (fun s H C cl fp => (sE fx el h7 (cb s H C cl fp) no).1) (nofold h4)
        · rw [blkScope_ix] at z
          exact snd_of cx.K (le_comp h2 z) rfl
        · have h1 := h1.2
          unfold locB at h1
          show (relabel scope X.env).names.lookup y = some .local ∨ (relabel scope X.env).names.lookup y = some .cell
          split at h1
          · rename_i e1; exact .inl (lookup_relS_keep (by decide) e1)
          · rename_i e1; exact .inr (lookup_relS_keep (by decide) e1)
          · exact ff h1
        · have h1 := h1.2
          unfold locB at h1
          show (scope.names.lookup y == some .cell) = true ∨ (relabel scope X.env).names.lookup y = some .local
          split at h1
          · rename_i e1; exact .inr (lookup_relS_keep (by decide) e1)
          · rename_i e1; exact .inl (by rw [e1]; rfl)
          · exact ff h1
      · exact ff h1
    · exact ff h
  | .lam k, top, sc, X, W, e, h, cx, hl => by
    unfold isE at h; split at h
    · exact snd_of cx.K (hl h (k, _) (List.mem_cons_self)) rfl
    · exact ff h
  | .caught a, top, sc, X, W, e, h, cx, hl => by
    unfold isE at h; split at h
    · rename_i x p params body scope lpos pos
      simp only [Bool.and_eq_true, decide_eq_true_eq] at h
      obtain ⟨⟨⟨⟨h1, h2, h2'⟩, h3⟩, h4⟩, h5⟩ := h
      have z := cx.cau h1 (by rw [cx.sc, ← h2]; exact h2') params body scope p lpos pos (fun E => LE G (fun cls d _ H => E cls d H) (wp F S a).1) (by rw [cx.sc]; exact LamX.lamS_by h3) h4 fun A outer s H E f c' hr =>
        (sE fx a (X := LamX.lamCx X A outer s H E scope f c') (W := fun cls d _ H => E cls d H) h5 ⟨cx.prog, cx.w, cx.K, cx.mg, cx.base, cx.N, cx.nd, rfl, rfl, hr, takes_of rfl rfl rfl rfl, fun z => by cases z⟩ (fun z => by cases z)).1
      rw [← h2] at z
      refine snd_of cx.K (PE.weak z fun σ H Q ⟨ι, A, δ, Q0, E0, R, Sr, t, kQ, kE⟩ => ⟨R.tabs, fun H1 eN T1 => ?_⟩) rfl
      refine ⟨ι, A, δ, _, _, R.extN eN T1, Sr.mono (extN_stp eN), t, fun d A' q ι' H' v s R' r => (kQ .non A' q) ι' H' .non ((extN_stp eN).trans s) R' .mkNon, fun k p A' ⟨hS, q⟩ ι' H' cls d s R' xr => ?_⟩
      obtain ⟨ec, vs, rp, hv⟩ := xr
      subst ec
      refine ⟨fx.exm k hS, fun b hb => (kQ (.exc k p) A' q) ι' _ (.ref b) (((extN_stp eN).trans s).trans (stp_new hb)) (R'.new hb) ?_⟩
      unfold VR
      refine ⟨b, d, rfl, upd_same, vs, VRs.mono (stp_new hb) _ _ rp, ?_⟩
      rcases hv with ⟨e1, e2⟩ | ⟨dd, y, e1, e2, e3⟩
      · exact .inl ⟨e1, e2⟩
      · exact .inr ⟨dd, y, e1, e2, by rw [upd_ne (ne_of_none e3 hb)]; exact e3⟩
    · exact ff h
  | .xat cs n a, top, sc, X, W, e, h, cx, hl => by
    unfold isE at h; split at h
    · simp only [Bool.and_eq_true, decide_eq_true_eq, List.all_eq_true] at h
      obtain ⟨⟨⟨h1, h2⟩, h3⟩, h4⟩ := h
      subst h2
      refine snd_of cx.K (le_xat cx.K (fun k hk => fx.xa _ (h4 k hk)) (sE fx a h3 cx hl).1 ?_) rfl
      split at h1
      · rfl
      · exact ff h1
    · exact ff h
  | .sset it g own cd el, top, sc, X, W, e, h, cx, hl => by
    unfold isE at h; split at h
    · rename_i nm np elt tg iter ifs scope pos cpos
      simp only [Bool.and_eq_true, decide_eq_true_eq] at h
      obtain ⟨⟨⟨⟨⟨⟨⟨⟨⟨hn, hg⟩, h1⟩, h2⟩, h3⟩, h4⟩, ht⟩, h5⟩, h6⟩, h7⟩ := h
      subst hn
      obtain ⟨g1, g2, g3⟩ := glB_gl cx hg
      have cb : ∀ (s : Shared) (H : Hp) (C : Addr) (cl : List (Str × Addr)) (fp : List Addr), CtxE G c L false (relS scope sc) (X.blk s H scope (compEnvC scope cl C X.env) fp) (fun _ _ _ _ => False) := fun s H C cl fp =>
        ⟨cx.prog, cx.w, cx.K, cx.mg, cx.base, cx.N, cx.nd, by rw [← cx.sc]; rfl, cx.calm, cx.room, takes0, fun z => by cases z⟩
      have no : ∀ {P : Prop}, false = true → P := fun z => by cases z
      split at h1
      · rename_i y p
        rw [Bool.and_eq_true, decide_eq_true_eq] at h1
        have z := pe_sk (kindI X.prog X.w) (pos := pos) cx.calm (by rw [cx.N]; exact cx.nd) (sI fx it (tg := .Name y p) h5 ht cx.low no) (own := blkScope c own) (by rw [cx.N, cx.sc]; exact blkOk_by h3)
          (g := gName g) (fun s H C cl fp => pg_name (X := X.blk s H scope (compEnvC scope cl C X.env) fp) (by show X.N.Nodup; rw [cx.N]; exact cx.nd) (by show X.N[g]? = some y; rw [cx.N]; exact h1.1) ?_ ?_)
          (fun s H C cl fp => sF fx cd h6 (cb s H C cl fp)) (fun s H C cl fp => (sE fx el h7 (cb s H C cl fp) no).1) (nofold h4)
        · rw [blkScope_ix] at z
          exact snd_of cx.K (le_sset h2 (pe_callB (cr_sortedSet cx.calm) g1 (of_bl fx cx (by decide +kernel)) (by decide +kernel) (pa_cons z pa_nil (star_cons rfl)) g3 g2 (star_cons rfl) rfl)) rfl
        · have h1 := h1.2
          unfold locB at h1
          show (relabel scope X.env).names.lookup y = some .local ∨ (relabel scope X.env).names.lookup y = some .cell
          split at h1
          · rename_i e1; exact .inl (lookup_relS_keep (by decide) e1)
          · rename_i e1; exact .inr (lookup_relS_keep (by decide) e1)
          · exact ff h1
        · have h1 := h1.2
          unfold locB at h1
          show (scope.names.lookup y == some .cell) = true ∨ (relabel scope X.env).names.lookup y = some .local
          split at h1
          · rename_i e1; exact .inr (lookup_relS_keep (by decide) e1)
          · rename_i e1; exact .inl (by rw [e1]; rfl)
          · exact ff h1
      · exact ff h1
    · exact ff h
  | .lrg1 a, top, sc, X, W, e, h, cx, hl => by
    unfold isE at h; split at h
    · simp only [Bool.and_eq_true, decide_eq_true_eq] at h
      obtain ⟨⟨⟨⟨⟨h1, h2⟩, h3⟩, h4⟩, h5⟩, h6⟩ := h
      subst h1 h3
      obtain ⟨g1, g2, g3⟩ := glB_gl cx h2
      obtain ⟨k1, k2, k3⟩ := glB_gl cx h4
      exact snd_of cx.K (le_lrg1 (pe_listRg cx.calm g1 (of_bl fx cx (by decide +kernel)) (prg_1 k1 (of_bl fx cx (by decide +kernel)) (sE fx a h5 cx.low (fun z => by cases z)).1 (star_cons h6)) (star_cons rfl))) rfl
    · exact ff h
  | .lrg2 a b, top, sc, X, W, e, h, cx, hl => by
    unfold isE at h; split at h
    · simp only [Bool.and_eq_true, decide_eq_true_eq] at h
      obtain ⟨⟨⟨⟨⟨⟨⟨h1, h2⟩, h3⟩, h4⟩, h5⟩, h6⟩, h7⟩, h8⟩ := h
      subst h1 h3
      obtain ⟨g1, g2, g3⟩ := glB_gl cx h2
      obtain ⟨k1, k2, k3⟩ := glB_gl cx h4
      exact snd_of cx.K (le_lrg2 (pe_listRg cx.calm g1 (of_bl fx cx (by decide +kernel)) (prg_2 k1 (of_bl fx cx (by decide +kernel)) (sE fx a h5 cx.low (fun z => by cases z)).1 (sE fx b h6 cx.low (fun z => by cases z)).1 (star_cons h7) (star_cons h8) (by rw [star_cons h8]; rfl)) (star_cons rfl))) rfl
    · exact ff h
  | .gtu k ss, top, sc, X, W, e, h, cx, hl => by
    unfold isE at h; split at h
    · simp only [Bool.and_eq_true, decide_eq_true_eq] at h
      obtain ⟨⟨h1, h2⟩, h3⟩ := h
      obtain ⟨g1, g2, g3⟩ := glB_gl cx h2
      exact snd_of cx.K (le_c (v := .ref (G.T k)) (pe_glob g1 (of_gl fx cx h1) rfl g2) fun ι H => (fx.gt _ h3).vr ι H) rfl
    · exact ff h
  | .ixo t o y, top, sc, X, W, e, h, cx, hl => by
    unfold isE at h; split at h
    · rename_i x name apos z cpos
      simp only [Bool.and_eq_true, decide_eq_true_eq] at h
      obtain ⟨⟨⟨⟨⟨h1, h2⟩, h3⟩, h4⟩, h5⟩, h6⟩ := h
      subst h1
      have few : ((backTo cpos (starEach [z] X.env)).all (fun x => !x.1) && (backToKw cpos (keywordEach [] X.env)).all (fun x => x.1.isSome)
          && decide ([z].length + ([] : List Keyword).length + (if ([] : List Keyword).isEmpty then 0 else 1) < 30)) = true := by
        rw [star_allno (by rw [List.all_cons, h5]; rfl)]
        rfl
      have ho := (sE fx o h2 cx.low (fun z => by cases z)).1
      have ha := pa_cons (sE fx y h4 cx.low (fun z => by cases z)).1 pa_nil (star_cons h5)
      cases t with
      | false =>
        refine snd_of cx.K (le_ixL (by rw [← cx.K]; exact pe_bm PySem.F.plainAttrs_list PySem.F.slot_list_index PySem.F.type_list_index mt_ixL ho ha (plainBase h3) few h6 (star_cons h5) (star_plain rfl))) rfl
      | true =>
        refine snd_of cx.K (le_ixT (pe_bz PySem.F.plainAttrs_tuple PySem.F.slot_tuple_index PySem.F.type_tuple_index mt_ixT ho ha (plainBase h3) few h6 (star_cons h5) (star_plain rfl))) rfl
    · exact ff h
  | .isx a, top, sc, X, W, e, h, cx, hl => by
    unfold isE at h; split at h
    · simp only [Bool.and_eq_true, decide_eq_true_eq] at h
      obtain ⟨⟨⟨⟨⟨⟨h1, h2⟩, h3⟩, h4⟩, h5⟩, h7⟩, h8⟩ := h
      subst h1
      obtain ⟨g1, g2, g3⟩ := glB_gl cx h2
      refine snd_of cx.K (le_isx cx.K (fx.ty _ h5) (pe_callB (CallR.or call_isi call_isX) g1 (of_bl fx cx (by decide +kernel)) (by decide +kernel) (pa_cons (sE fx a h3 cx.low (fun z => by cases z)).1 (pa_cons (snd_cls fx cx h4) pa_nil (star_cons h8)) (star_cons h7)) g3 g2 (star_cons h7) (star_plain (by rw [List.all_cons, h8]; rfl)))) rfl
    · exact ff h
  | .tpx a, top, sc, X, W, e, h, cx, hl => by
    unfold isE at h; split at h
    · simp only [Bool.and_eq_true, decide_eq_true_eq] at h
      obtain ⟨⟨⟨h1, h2⟩, h3⟩, h4⟩ := h
      subst h1
      obtain ⟨g1, g2, g3⟩ := glB_gl cx h2
      exact snd_of cx.K (le_tpx cx.K (pe_callTy cr_tupX g1 (of_bl fx cx (by decide +kernel)) (by decide +kernel) (pa_cons (sE fx a h3 cx.low (fun z => by cases z)).1 pa_nil (star_cons h4)) g3 g2 (star_cons h4) (star_plain rfl))) rfl
    · exact ff h
theorem sEs (fx : Fx G F S c L) : (es : Es) → {top : Bool} → {sc : Scope} → {X : Cx} → {W : WX} → {xs : List Expr} → isEs c top sc es xs = true → CtxE G c L top sc X W → (top = true → LamsOk G X W (lamsEs es xs)) → SndL G X W xs (exprs F S es)
  | .nil, top, sc, X, W, xs, h, cx, hl => by
    cases xs with
    | nil => exact True.intro
    | cons a b => exact ff h
  | .cons m r, top, sc, X, W, xs, h, cx, hl => by
    unfold isEs at h; split at h
    · rw [Bool.and_eq_true] at h
      exact ⟨⟨(sE fx m h.1 cx (LamsOk.l hl)).1, star_isE h.1⟩, sEs fx r h.2 cx (LamsOk.r hl)⟩
    · exact ff h
theorem sO (fx : Fx G F S c L) : (o : Eo) → {sc : Scope} → {X : Cx} → {W : WX} → {x : Option Expr} → isO c false sc o x = true → CtxE G c L false sc X W → PO X x (LO G W (wpO F S o).1)
  | .no, sc, X, W, x, h, cx => by
    cases x with
    | none => exact lo_no
    | some e => exact ff h
  | .yes m, sc, X, W, x, h, cx => by
    unfold isO at h; split at h
    · exact lo_yes (sE fx m h cx (fun z => by cases z)).1
    · exact ff h
theorem sF (fx : Fx G F S c L) : (o : Eo) → {sc : Scope} → {X : Cx} → {W : WX} → {xs : List Expr} → isF c sc o xs = true → CtxE G c L false sc X W → PTs X xs (LT G W (wpO F S o).2)
  | .no, sc, X, W, xs, h, cx => by
    cases xs with
    | nil => exact PTs.weak pts_nil fun σ H Q ⟨ι, A, δ, Q0, E0, R, Sr, t, kQ, kE⟩ => (kQ _ _ t).now R
    | cons a b => exact ff h
  | .yes m, sc, X, W, xs, h, cx => by
    unfold isF at h; split at h
    · exact pts_one (sE fx m h cx (fun z => by cases z)).2.1
    · exact ff h
theorem sI (fx : Fx G F S c L) : (i : Ei) → {top : Bool} → {sc : Scope} → {X : Cx} → {W : WX} → {tg x : Expr} → isI c top sc i x = true → tgOk i tg = true → CtxE G c L top sc X W → (top = true → LamsOk G X W (lamsI i x)) → PI X tg x (LI G W (wpI F S i))
  | .seq m, top, sc, X, W, tg, x, h, ht, cx, hl => by
    have h : (isE c top sc m x && notStar x) = true := h
    rw [Bool.and_eq_true] at h
    exact li_seq cx.K (sE fx m h.1 cx hl).1
  | .rng1 m, top, sc, X, W, tg, x, h, ht, cx, hl => by
    unfold isI at h; split at h
    · simp only [Bool.and_eq_true, decide_eq_true_eq] at h
      obtain ⟨⟨⟨h1, h2⟩, h3⟩, h4⟩ := h
      subst h1
      obtain ⟨g1, g2, g3⟩ := glB_gl cx h2
      exact li_rng1 g1 (of_bl fx cx (by decide +kernel)) h4 (sE fx m h3 cx hl).1
    · exact ff h
  | .rev m, top, sc, X, W, tg, x, h, ht, cx, hl => by
    unfold isI at h; split at h
    · simp only [Bool.and_eq_true, decide_eq_true_eq] at h
      obtain ⟨⟨⟨h1, h2⟩, h3⟩, h4⟩ := h
      subst h1
      obtain ⟨g1, g2, g3⟩ := glB_gl cx h2
      exact li_rev cx.K g1 (of_bl fx cx (by decide +kernel)) h4 (sE fx m h3 cx hl).1
    · exact ff h
  | .enm m, top, sc, X, W, tg, x, h, ht, cx, hl => by
    unfold isI at h; split at h
    · simp only [Bool.and_eq_true, decide_eq_true_eq] at h
      obtain ⟨⟨⟨h1, h2⟩, h3⟩, h4⟩ := h
      subst h1
      obtain ⟨g1, g2, g3⟩ := glB_gl cx h2
      cases tg with
      | Tuple elts kk tp => exact li_enm cx.K g1 (of_bl fx cx (by decide +kernel)) h4 (sE fx m h3 cx hl).1
      | _ => exact ff ht
    · exact ff h
  | .rng2 a b, top, sc, X, W, tg, x, h, ht, cx, hl => by
    unfold isI at h; split at h
    · simp only [Bool.and_eq_true, decide_eq_true_eq] at h
      obtain ⟨⟨⟨⟨⟨h1, h2⟩, h3⟩, h4⟩, h5⟩, h6⟩ := h
      subst h1
      obtain ⟨g1, g2, g3⟩ := glB_gl cx h2
      exact li_rng2 g1 (of_bl fx cx (by decide +kernel)) h5 h6 (sE fx a h3 cx (LamsOk.l hl)).1 (sE fx b h4 cx (LamsOk.r hl)).1
    · exact ff h
end
end
end Zw
set_option Elab.async false
set_option linter.all false
set_option maxRecDepth 100000
set_option maxHeartbeats 16000000
/-! Zq: statements: what must hold of them, its readings. -/
namespace Zw
open PySem PySem.Spec PyProof.Rows L2

structure DE where
  nx : DSt → AH → Prop
  rt : DK
  bk : DSt → AH → Prop
  ct : DSt → AH → Prop
  ex : Nat → List D → DSt → AH → Prop
abbrev WS := DE → DSt → AH → Prop

/-- targets -/
inductive Tg where
  | nm (i : Nat) | tp (ts : List Tg)
mutual
inductive Ms where
  | pass | brk | cont | expr (e : E) | set (i : Nat) (e : E) | setC (i : Nat) (it : Ei) (g : Nat) (own : List Nat) (c : Eo) (e : E)
  | tset (g : Tg) (e : E) | par (is : List Nat) (es : Es) | sto (a b e : E)
  | ife (c : E) (a b : Mb) | whl (c : E) (b : Mb) | fr (it : Ei) (g : Tg) (b : Mb) | ret (e : E) | retN | rais (k : Nat) | raisv (k : Nat) (e : E) | none
inductive Mb where
  | nil | cons (s : Ms) (r : Mb)
end
mutual
@[simp] def wpG : Tg → D → DSt → (DSt → Prop) → Prop
  | .nm i, v, δ, K => K (δ.set i (some v))
  | .tp ts, v, δ, K => match v with
    | .tup ds => ds.length = ts.length ∧ wpGs ts ds δ K
    | _ => False
@[simp] def wpGs : List Tg → List D → DSt → (DSt → Prop) → Prop
  | [], [], δ, K => K δ
  | t :: ts, d :: ds, δ, K => wpG t d δ fun δ1 => wpGs ts ds δ1 K
  | _, _, _, _ => False
end
@[simp] def setAll (δ : DSt) : List Nat → List D → DSt
  | i :: is, d :: ds => setAll (δ.set i (some d)) is ds
  | _, _ => δ
/-- x[y] = v -/
def stoP (x y v : D) (A : AH) (K : AH → Prop) : Prop := match x with
  | .ref i => match A[i]? with
    | some (.lst xs) => match y with
      | .int j => opt (ixN xs.length j) fun k => K (A.set i (.lst (xs.set k v)))
      | _ => False
    | some (.dct kvs) => opt (keyD y) fun k => kvs.length < LIM ∧ K (A.set i (.dct (putD kvs k v)))
    | _ => False
  | _ => False
def whP (c : WT) (b : WS) (d : DE) : Nat → DSt → AH → Prop
  | 0, _, _ => False
  | n + 1, δ, A => c δ A (fun k A1 => if k = true then b { d with nx := whP c b d n, ct := whP c b d n, bk := d.nx } δ A1 else d.nx δ A1) (fun k p A1 => d.ex k p δ A1)
def frP (gd : AH → Prop) (g : Tg) (b : WS) (d : DE) : List D → DSt → AH → Prop
  | [], δ, A => gd A ∧ d.nx δ A
  | x :: xs, δ, A => gd A ∧ wpG g x δ fun δ1 => b { d with nx := frP gd g b d xs, ct := frP gd g b d xs, bk := d.nx } δ1 A
section
variable (F : Nat → DSp) (S : Nat → Nat → Bool)
mutual
@[simp] def wpS : Ms → WS
  | .pass => fun d δ A => d.nx δ A
  | .brk => fun d δ A => d.bk δ A
  | .cont => fun d δ A => d.ct δ A
  | .expr e => fun d δ A => (wp F S e).1 δ A (fun _ A1 => d.nx δ A1) (fun k p A1 => d.ex k p δ A1)
  | .set i e => fun d δ A => (wp F S e).1 δ A (fun x A1 => d.nx (δ.set i (some x)) A1) (fun k p A1 => d.ex k p δ A1)
  | .setC i it g own c e => fun d δ A => (wp F S (.comp it g own c e)).1 δ A (fun x A1 => d.nx (δ.set i (some x)) A1) (fun k p A1 => d.ex k p δ A1)
  | .tset g e => fun d δ A => (wp F S e).1 δ A (fun x A1 => wpG g x δ fun δ1 => d.nx δ1 A1) (fun k p A1 => d.ex k p δ A1)
  | .par is es => fun d δ A => wpEs F S es δ A (fun xs A1 => xs.length = is.length ∧ d.nx (setAll δ is xs) A1) (fun k p A1 => d.ex k p δ A1)
  | .sto a b e => fun d δ A => (wp F S e).1 δ A (fun v A1 => (wp F S a).1 δ A1 (fun x A2 => (wp F S b).1 δ A2 (fun y A3 => stoP x y v A3 fun A4 => d.nx δ A4) (fun k p A1 => d.ex k p δ A1)) (fun k p A1 => d.ex k p δ A1)) (fun k p A1 => d.ex k p δ A1)
  | .ife c a b => fun d δ A => (wp F S c).2 δ A (fun k A1 => if k = true then wpB a d δ A1 else wpB b d δ A1) (fun k p A1 => d.ex k p δ A1)
  | .whl c b => fun d δ A => ∃ n, whP (wp F S c).2 (wpB b) d n δ A
  | .fr it g b => fun d δ A => wpI F S it δ A (fun xs gd A1 => frP gd g (wpB b) d xs δ A1) (fun k p A1 => d.ex k p δ A1)
  | .ret e => fun d δ A => (wp F S e).1 δ A (fun x A1 => d.rt x A1) (fun k p A1 => d.ex k p δ A1)
  | .retN => fun d _ A => d.rt .non A
  | .rais k => fun d δ A => d.ex k [] δ A
  | .raisv k e => fun d δ A => (wp F S e).1 δ A (fun x A1 => d.ex k [x] δ A1) (fun c p A1 => d.ex c p δ A1)
  | .none => fun _ _ _ => False
@[simp] def wpB : Mb → WS
  | .nil => fun d δ A => d.nx δ A
  | .cons s r => fun d δ A => wpS s { d with nx := fun δ1 A1 => wpB r d δ1 A1 } δ A
end
end

section
variable (G : GE)
def PostS (ι : List Addr) (H : Hp) (K : L2.St → Hp → Prop) (δ' : DSt) (A' : AH) : Prop := ∀ ι' H' σ', Stp ι H ι' H' → Rep G ι' A' H' → SR G ι' H' δ' σ' → K σ' H'
structure Fin (W : WX) (ι : List Addr) (H : Hp) (d : DE) (D : L2.Ends) : Prop where
  nx : ∀ δ' A', d.nx δ' A' → PostS G ι H D.nx δ' A'
  rt : ∀ v A', d.rt v A' → PostV G ι H D.rt v A'
  bk : ∀ δ' A', d.bk δ' A' → PostS G ι H D.bk δ' A'
  ct : ∀ δ' A', d.ct δ' A' → PostS G ι H D.ct δ' A'
  ex : ∀ c p δ' A', d.ex c p δ' A' → ∀ ι' H' cls dd σ', Stp ι H ι' H' → Rep G ι' A' H' → SR G ι' H' δ' σ' → XR G ι' H' c p cls dd → W cls dd σ' H'
def LS (W : WX) (t : WS) : L2.TS := fun D σ H => ∃ (ι : List Addr) (A : AH) (δ : DSt) (d : DE), Rep G ι A H ∧ SR G ι H δ σ ∧ t d δ A ∧ Fin G W ι H d D
def LG (t : D → DSt → (DSt → Prop) → Prop) : L2.TG := fun v σ H Q => ∃ (ι : List Addr) (A : AH) (δ : DSt) (x : D) (K : DSt → Prop), Rep G ι A H ∧ SR G ι H δ σ ∧ VR G ι H x v ∧ t x δ K ∧ ∀ δ', K δ' → ∀ σ', SR G ι H δ' σ' → Q σ' H
def LGs (t : List D → DSt → (DSt → Prop) → Prop) : L2.TGs := fun v σ H Q => ∃ (ι : List Addr) (A : AH) (δ : DSt) (x : List D) (K : DSt → Prop), Rep G ι A H ∧ SR G ι H δ σ ∧ VRs G ι H x v ∧ t x δ K ∧ ∀ δ', K δ' → ∀ σ', SR G ι H δ' σ' → Q σ' H
end

section
variable {G : GE} {ι ι1 : List Addr} {H H1 : Hp} {A : AH} {W : WX} {X : Cx}
theorem PostS.stp {K : L2.St → Hp → Prop} {δ' : DSt} {A' : AH} (h : PostS G ι H K δ' A') (s : Stp ι H ι1 H1) : PostS G ι1 H1 K δ' A' := fun ι' H' σ' t => h ι' H' σ' (s.trans t)
theorem PostS.now {K : L2.St → Hp → Prop} {δ' : DSt} {A' : AH} {σ : L2.St} (h : PostS G ι H K δ' A') (R : Rep G ι A' H) (Sr : SR G ι H δ' σ) : K σ H := h ι H σ .refl R Sr
theorem Fin.stp {d : DE} {D : L2.Ends} (f : Fin G W ι H d D) (s : Stp ι H ι1 H1) : Fin G W ι1 H1 d D :=
  ⟨fun δ' A' q => (f.nx δ' A' q).stp s, fun v A' q => (f.rt v A' q).stp s, fun δ' A' q => (f.bk δ' A' q).stp s, fun δ' A' q => (f.ct δ' A' q).stp s,
    fun c p δ' A' q ι' H' cls dd σ' t => f.ex c p δ' A' q ι' H' cls dd σ' (s.trans t)⟩
/-- an exception of a part -/
theorem Fin.exX {d : DE} {D : L2.Ends} {δ : DSt} {σ : L2.St} (f : Fin G W ι H d D) (Sr : SR G ι H δ σ) : ∀ c p A', d.ex c p δ A' → PostX G ι H W σ c p A' :=
  fun c p A' q ι' H' cls dd s R x => f.ex c p δ A' q ι' H' cls dd σ s R (Sr.mono s) x
theorem PS.weak {st : Stmt} {t t' : L2.TS} (h : PS X st t) (k : ∀ D σ H, t' D σ H → t D σ H) : PS X st t' := ⟨fun pins s σ H D I q => h.run pins s σ H D I (k D σ H q)⟩
theorem PSs.weak {st : List Stmt} {t t' : L2.TS} (h : PSs X st t) (k : ∀ D σ H, t' D σ H → t D σ H) : PSs X st t' := ⟨fun pins s σ H D I q => h.run pins s σ H D I (k D σ H q)⟩
theorem PG.weak {tg : Expr} {t t' : L2.TG} (h : PG X tg t) (k : ∀ v σ H Q, t' v σ H Q → t v σ H Q) : PG X tg t' := ⟨fun pins s σ H v u Q I r q => h.run pins s σ H v u Q I r (k v σ H Q q)⟩
theorem PGs.weak {tg : List Expr} {t t' : L2.TGs} (h : PGs X tg t) (k : ∀ v σ H Q, t' v σ H Q → t v σ H Q) : PGs X tg t' := ⟨fun pins s σ H v u Q I r q => h.run pins s σ H v u Q I r (k v σ H Q q)⟩

/-! ### targets -/
theorem lg_name {i : Nat} {e : Expr} (h : PG X e (gName i)) : PG X e (LG G (wpG (.nm i))) := PG.weak h fun v σ H Q ⟨ι, A, δ, x, K, R, Sr, r, t, k⟩ => k _ t _ (Sr.put i r)
theorem lg_tup {ts : List Tg} {e : Expr} (hK : X.K = G.K) (h : PG X e (gTup X.K ts.length (LGs G (wpGs ts)))) : PG X e (LG G (wpG (.tp ts))) := PG.weak h fun v σ H Q ⟨ι, A, δ, x, K, R, Sr, r, t, k⟩ => by
  cases x with
  | tup ds =>
    obtain ⟨hl, t⟩ := (show ds.length = ts.length ∧ wpGs ts ds δ K from t)
    obtain ⟨a, vs, ev, q, rs⟩ := r.tup
    exact ⟨a, vs, ev, by rw [hK]; exact q, by rw [← rs.len]; exact hl, ι, A, δ, ds, K, R, Sr, rs, t, k⟩
  | _ => exact (show False from t).elim
theorem lgs_nil : PGs X [] (LGs G (wpGs [])) := PGs.weak pgs_nil fun v σ H Q ⟨ι, A, δ, x, K, R, Sr, r, t, k⟩ => by
  cases x with
  | nil =>
    unfold VRs at r
    subst r
    exact ⟨rfl, k _ t _ Sr⟩
  | cons a b => exact (show False from t).elim
theorem lgs_cons {t : Tg} {ts : List Tg} {e : Expr} {es : List Expr} (h1 : PG X e (LG G (wpG t))) (h2 : PGs X es (LGs G (wpGs ts)))
    (hs : (assignEach (e :: es) X.env).map (·.2) = assign e X.env :: (assignEach es X.env).map (·.2)) : PGs X (e :: es) (LGs G (wpGs (t :: ts))) :=
  PGs.weak (pgs_cons h1 h2 hs) fun v σ H Q ⟨ι, A, δ, x, K, R, Sr, r, w, k⟩ => by
    cases x with
    | nil => exact (show False from w).elim
    | cons a b =>
      unfold VRs at r
      obtain ⟨y, ys, ev, r1, r2⟩ := r
      exact ⟨y, ys, ev, ι, A, δ, a, _, R, Sr, r1, w, fun δ' w2 σ' Sr' => ⟨ι, A, δ', b, K, R, Sr', r2, w2, k⟩⟩

/-! ### stores -/
def rSetD : L2.TSet := fun o i v H Q => ∃ a H', o = .ref a ∧ DPut H a i v H' ∧ Q H'
theorem set_dict (hu : X.A.units + 1 < cLine) : PSet X rSetD := fun pins s σ H o i v ov iv u Q I ro ri rv ⟨a, H', eo, g, q⟩ => by
  subst eo
  cases (show ov = Value.ref a from ro)
  exact d_setItem hu I g ri rv fun s' I' => ⟨H', I', q⟩
theorem PSet.or {t t' : L2.TSet} (h : PSet X t) (h' : PSet X t') : PSet X (fun o i v H Q => t o i v H Q ∨ t' o i v H Q) := fun pins s σ H o i v ov iv u Q I ro ri rv q => by
  rcases q with q | q
  · exact h pins s σ H o i v ov iv u Q I ro ri rv q
  · exact h' pins s σ H o i v ov iv u Q I ro ri rv q
def rSet : L2.TSet := fun o i v H Q => rSetL o i v H Q ∨ rSetD o i v H Q
theorem br_sto {x y z : D} {o i v : V} {K : AH → Prop} {Q : Hp → Prop} (R : Rep G ι A H) (ro : VR G ι H x o) (ri : VR G ι H y i) (rv : VR G ι H z v) (h : stoP x y z A K)
    (k : ∀ A', K A' → ∀ H', Stp ι H ι H' → Rep G ι A' H' → Q H') : rSet o i v H Q := by
  cases x with
  | ref n =>
    obtain ⟨a, ea, hi⟩ := ro.ref
    unfold stoP at h
    cases e : A[n]? with
    | none => simp only [e] at h
    | some cl =>
      simp only [e] at h
      cases cl with
      | ro xs => exact (show False from h).elim
      | lst xs =>
        cases y with
        | int j =>
          obtain ⟨m, em, h⟩ := opt_some h
          obtain ⟨vs, q, r⟩ := R.lst hi e
          obtain ⟨s, R'⟩ := R.setL (xs := xs) hi q (VRs.set m r rv)
          exact .inl ⟨a, vs, j, m, ea, ri.int, q, by rw [← r.len]; exact em, k _ h _ s R'⟩
        | _ => exact (show False from h).elim
      | dct kvs =>
        obtain ⟨ky, ek, hl, h⟩ := opt_some h
        obtain ⟨ws, q, r⟩ := R.dct hi e
        obtain ⟨s, R'⟩ := R.setD hi q (KRs.put ky r rv)
        refine .inr ⟨a, _, ea, .inl ⟨ws, ky, q, ?_, by rw [← r.len]; exact lim_lt hl, rfl⟩, k _ h _ s R'⟩
        cases y with
        | int j => cases ek; exact ri.int
        | str j => cases ek; exact ri.str
        | _ => cases ek
  | _ => exact (show False from h).elim
end
end Zw
set_option Elab.async false
set_option linter.all false
set_option maxRecDepth 100000
set_option maxHeartbeats 16000000
/-! Zr: each statement's rule. -/
namespace Zw
open PySem PySem.Spec PyProof.Rows L2

/-! ### stores that change places -/
def isStar : Expr → Bool
  | .Starred _ _ => true
  | _ => false
def swName (sc : Scope) (line : Nat) : Expr → Option Str
  | .Name id pos => if sc.names.lookup id == some .local && pos.line == line then some id else none
  | _ => none
def swLine (ts : List Expr) : Nat := (ts.head?.map (·.pos.line)).getD 0
def swNone (sc : Scope) (ts vs : List Expr) : Bool :=
  (!(ts.length == 2 || ts.length == 3) || vs.length != ts.length) || vs.any isStar || ((ts.filterMap (swName sc (swLine ts))).length != ts.length || (ts.filterMap (swName sc (swLine ts))).eraseDups.length != (ts.filterMap (swName sc (swLine ts))).length) || vs.all (foldedForSure 8)
def swSome (sc : Scope) (ts vs : List Expr) (names : List Str) : Bool :=
  !(!(ts.length == 2 || ts.length == 3) || vs.length != ts.length) && !(vs.any isStar) && decide (ts.filterMap (swName sc (swLine ts)) = names) && !(names.length != ts.length || names.eraseDups.length != names.length) && !(vs.all (foldedForSure 8)) && !(vs.all (constantsAlone 8))
theorem swName_eq {env : Env} {line : Nat} : (fun (x : Expr) => match x with | .Name id pos => if env.kindOf id == some .local && pos.line == line then some id else none | _ => none) = swName env.scope line := by
  funext x
  cases x <;> rfl
theorem isStar_eq : (fun (x : Expr) => match x with | .Starred .. => true | _ => false) = isStar := by
  funext x
  cases x <;> rfl
theorem fnKind {env : Env} (hk : env.scope.kind = .function) : (env.blockKind != .function) = false := by
  unfold Env.blockKind; rw [hk]; rfl
theorem swN {env : Env} {ts vs : List Expr} {k k2 : Nat} {p p2 : Pos} (hk : env.scope.kind = .function) (h : swNone env.scope ts vs = true) : swappedStores [.Tuple ts k p] (.Tuple vs k2 p2) env = pure none := by
  unfold swappedStores
  unfold swNone swLine at h
  rw [← isStar_eq, ← swName_eq] at h
  simp only [Bool.or_eq_true] at h
  dsimp only
  rw [fnKind hk, Bool.or_false]
  split
  · rfl
  · rename_i h1
    split
    · rfl
    · rename_i h2
      split
      · rfl
      · rename_i h3
        split
        · rfl
        · rename_i h4
          exfalso
          rcases h with ((h | h) | h) | h
          · exact h1 (by rw [Bool.or_eq_true]; exact h)
          · exact h2 h
          · exact h3 (by rw [Bool.or_eq_true]; exact h)
          · exact h4 h
theorem swS {env : Env} {ts vs : List Expr} {names : List Str} {k k2 : Nat} {p p2 : Pos} (hk : env.scope.kind = .function) (h : swSome env.scope ts vs names = true) : swappedStores [.Tuple ts k p] (.Tuple vs k2 p2) env = pure (some names) := by
  unfold swappedStores
  unfold swSome at h
  simp only [Bool.and_eq_true, Bool.not_eq_true', decide_eq_true_eq] at h
  obtain ⟨⟨⟨⟨⟨h1, h2⟩, h3⟩, h4⟩, h5⟩, h6⟩ := h
  dsimp only
  rw [fnKind hk, Bool.or_false]
  split
  · rename_i z; rw [h1] at z; cases z
  · split
    · rename_i z
      have z : vs.any isStar = true := by rw [← isStar_eq]; exact z
      rw [h2] at z; cases z
    · split
      · rename_i z
        have z : ((ts.filterMap (swName env.scope (swLine ts))).length != ts.length || (ts.filterMap (swName env.scope (swLine ts))).eraseDups.length != (ts.filterMap (swName env.scope (swLine ts))).length) = true := by rw [← swName_eq]; exact z
        rw [h3, h4] at z; cases z
      · split
        · rename_i z; rw [h5] at z; cases z
        · split
          · rename_i z; rw [h6] at z; cases z
          · rw [← h3, ← swName_eq]; rfl
/-- a value that no comprehension makes, or one for a captured name -/
def swOk (sc : Scope) (y : Option Str) : Expr → Bool
  | .ListComp _ _ _ _ | .SetComp _ _ _ _ | .DictComp _ _ _ _ _ => match y with
    | some y => (match sc.names.lookup y with | some .cell => true | _ => false)
    | none => false
  | _ => true
def notComp : Expr → Bool
  | .ListComp _ _ _ _ | .SetComp _ _ _ _ | .DictComp _ _ _ _ _ => false
  | _ => true
theorem sw_no {v : Expr} {tg : Option Expr} {l : Nat} {env : Env} (h : notComp v = true) : swapsWith v tg l env = pure false := by
  cases v <;> first | rfl | exact ff h
theorem sw_name {v : Expr} {y : Str} {p : Pos} {l : Nat} {env : Env} (h : swOk env.scope (some y) v = true) : swapsWith v (some (.Name y p)) l env = pure false := by
  have key : ∀ (sc : Scope) (b : Bool), (match env.scope.names.lookup y with | some .cell => true | _ => false) = true → ((env.blockKind == .function && env.kindOf y == some .local && b) = false) := fun _ b h => by
    have e : env.kindOf y = env.scope.names.lookup y := rfl
    rw [e]
    split at h
    · rename_i e; rw [e]
      have : (some NameKind.cell == some NameKind.local) = false := rfl
      rw [this, Bool.and_false, Bool.false_and]
    · exact ff h
  cases v <;> first
    | rfl
    | (unfold swapsWith; dsimp only; rw [Bool.and_assoc, key env.scope _ h])

section
variable {G : GE} {X : Cx} {W : WX} {e : Expr} {pos : Pos} {ta tb tc : Zw.WE}
/-- an expression's reading within a statement -/
theorem le_in {ι : List Addr} {A : AH} {H : Hp} {δ : DSt} {σ : L2.St} {d : DE} {D : L2.Ends} {Q0 : DK} {Q : VK} (R : Rep G ι A H) (Sr : SR G ι H δ σ) (f : Fin G W ι H d D) (t : ta δ A Q0 (fun k p A1 => d.ex k p δ A1))
    (k : ∀ x A', Q0 x A' → ∀ ι' H' v, Stp ι H ι' H' → Rep G ι' A' H' → SR G ι' H' δ σ → VR G ι' H' x v → Fin G W ι' H' d D → Q v H') : LE G W ta σ H Q :=
  ⟨ι, A, δ, Q0, _, R, Sr, t, fun x A' q ι' H' v s R' r => k x A' q ι' H' v s R' (Sr.mono s) r (f.stp s), f.exX Sr⟩
theorem lt_in {ι : List Addr} {A : AH} {H : Hp} {δ : DSt} {σ : L2.St} {d : DE} {D : L2.Ends} {Q0 : Bool → AH → Prop} {Q : Bool → Hp → Prop} {tc : WT} (R : Rep G ι A H) (Sr : SR G ι H δ σ) (f : Fin G W ι H d D) (t : tc δ A Q0 (fun k p A1 => d.ex k p δ A1))
    (k : ∀ x A', Q0 x A' → ∀ ι' H', Stp ι H ι' H' → Rep G ι' A' H' → SR G ι' H' δ σ → Fin G W ι' H' d D → Q x H') : LT G W tc σ H Q :=
  ⟨ι, A, δ, Q0, _, R, Sr, t, fun x A' q ι' H' s R' => k x A' q ι' H' s R' (Sr.mono s) (f.stp s), f.exX Sr⟩
theorem Fin.nxN {ι : List Addr} {A : AH} {H : Hp} {δ : DSt} {σ : L2.St} {d : DE} {D : L2.Ends} (f : Fin G W ι H d D) (R : Rep G ι A H) (Sr : SR G ι H δ σ) (q : d.nx δ A) : D.nx σ H := (f.nx _ _ q).now R Sr
theorem ls_next {st : Stmt} (h : PS X st tNext) : PS X st (LS G W fun d δ A => d.nx δ A) := PS.weak h fun D σ H ⟨ι, A, δ, d, R, Sr, t, f⟩ => f.nxN R Sr t
theorem ls_break : PS X (.Break pos) (LS G W fun d δ A => d.bk δ A) := PS.weak ps_break fun D σ H ⟨ι, A, δ, d, R, Sr, t, f⟩ => (f.bk _ _ t).now R Sr
theorem ls_cont : PS X (.Continue pos) (LS G W fun d δ A => d.ct δ A) := PS.weak ps_continue fun D σ H ⟨ι, A, δ, d, R, Sr, t, f⟩ => (f.ct _ _ t).now R Sr
theorem ls_never {st : Stmt} : PS X st (LS G W fun _ _ _ => False) := PS.weak ps_never fun D σ H ⟨ι, A, δ, d, R, Sr, t, f⟩ => t
theorem ls_expr (h : PE X e (LE G W ta)) (hn : notComp e = true) : PS X (.Expr e pos) (LS G W fun d δ A => ta δ A (fun _ A1 => d.nx δ A1) (fun k p A1 => d.ex k p δ A1)) :=
  PS.weak (ps_expr h (sw_no hn)) fun D σ H ⟨ι, A, δ, d, R, Sr, t, f⟩ => le_in R Sr f t fun x A' q ι' H' v s R' Sr' r f' => f'.nxN R' Sr' q
theorem ls_setT {st : Stmt} {i : Nat} (h : PS X st (tAsg (LE G W ta) (gName i))) : PS X st (LS G W fun d δ A => ta δ A (fun x A1 => d.nx (δ.set i (some x)) A1) (fun k p A1 => d.ex k p δ A1)) :=
  PS.weak h fun D σ H ⟨ι, A, δ, d, R, Sr, t, f⟩ => le_in R Sr f t fun x A' q ι' H' v s R' Sr' r f' => f'.nxN R' (Sr'.put i r) q
theorem ls_tset {st : Stmt} {g : Tg} (h : PS X st (tAsg (LE G W ta) (LG G (wpG g)))) : PS X st (LS G W fun d δ A => ta δ A (fun x A1 => wpG g x δ fun δ1 => d.nx δ1 A1) (fun k p A1 => d.ex k p δ A1)) :=
  PS.weak h fun D σ H ⟨ι, A, δ, d, R, Sr, t, f⟩ => le_in R Sr f t fun x A' q ι' H' v s R' Sr' r f' => ⟨ι', A', δ, x, _, R', Sr', r, q, fun δ' z σ' Sr2 => f'.nxN R' Sr2 z⟩
theorem ls_sto {st : Stmt} (h : PS X st (tAsg (LE G W tc) (gSub (LE G W ta) (LE G W tb) rSet))) :
    PS X st (LS G W fun d δ A => tc δ A (fun v A1 => ta δ A1 (fun x A2 => tb δ A2 (fun y A3 => stoP x y v A3 fun A4 => d.nx δ A4) (fun k p A1 => d.ex k p δ A1)) (fun k p A1 => d.ex k p δ A1)) (fun k p A1 => d.ex k p δ A1)) :=
  PS.weak h fun D σ H ⟨ι, A, δ, d, R, Sr, t, f⟩ => le_in R Sr f t fun v A1 q1 ι1 H1 vv s1 R1 Sr1 r1 f1 => le_in R1 Sr1 f1 q1 fun x A2 q2 ι2 H2 o s2 R2 Sr2 r2 f2 => le_in R2 Sr2 f2 q2 fun y A3 q3 ι3 H3 i s3 R3 Sr3 r3 f3 =>
    br_sto R3 (VR.mono s3 _ _ r2) r3 (VR.mono (s2.trans s3) _ _ r1) q3 fun A' q H' s R' => (f3.stp s).nxN R' (Sr3.mono s) q
theorem ls_if {c : Expr} {p q : List Stmt} {tc : WT} {ta tb : WS} (hc : PT X c (LT G W tc)) (ha : PSs X p (LS G W ta)) (hb : PSs X q (LS G W tb)) : PS X (.If c p q pos) (LS G W fun d δ A => tc δ A (fun k A1 => if k = true then ta d δ A1 else tb d δ A1) (fun k p A1 => d.ex k p δ A1)) :=
  PS.weak (ps_if hc ha hb) fun D σ H ⟨ι, A, δ, d, R, Sr, t, f⟩ => lt_in R Sr f t fun k A1 q1 ι1 H1 s1 R1 Sr1 f1 => by
    cases k with
    | true => exact ⟨ι1, A1, δ, d, R1, Sr1, q1, f1⟩
    | false => exact ⟨ι1, A1, δ, d, R1, Sr1, q1, f1⟩
theorem ls_ret (h : PE X e (LE G W ta)) : PS X (.Return (some e) pos) (LS G W fun d δ A => ta δ A (fun x A1 => d.rt x A1) (fun k p A1 => d.ex k p δ A1)) :=
  PS.weak (ps_ret h) fun D σ H ⟨ι, A, δ, d, R, Sr, t, f⟩ => le_in R Sr f t fun x A' q ι' H' v s R' Sr' r f' => (f'.rt _ _ q).now R' r
theorem ls_retN : PS X (.Return none pos) (LS G W fun d δ A => d.rt .non A) := PS.weak ps_retN fun D σ H ⟨ι, A, δ, d, R, Sr, t, f⟩ => (f.rt _ _ t).now R .mkNon
theorem ls_nil : PSs X [] (LS G W fun d δ A => d.nx δ A) := PSs.weak pss_nil fun D σ H ⟨ι, A, δ, d, R, Sr, t, f⟩ => f.nxN R Sr t
theorem ls_cons {st : Stmt} {rest : List Stmt} {ta tb : WS} (h1 : PS X st (LS G W ta)) (h2 : PSs X rest (LS G W tb)) : PSs X (st :: rest) (LS G W fun d δ A => ta { d with nx := fun δ1 A1 => tb d δ1 A1 } δ A) :=
  PSs.weak (pss_cons h1 h2) fun D σ H ⟨ι, A, δ, d, R, Sr, t, f⟩ => ⟨ι, A, δ, _, R, Sr, t, ⟨fun δ' A' q ι' H' σ' s R' Sr' => ⟨ι', A', δ', d, R', Sr', q, f.stp s⟩, f.rt, f.bk, f.ct, f.ex⟩⟩
theorem ls_while {c : Expr} {body : List Stmt} {tc : WT} {tb : WS} (hp : PassesOwn (model X.prog X.w) X.A X.env X.xe) (hc : PT X c (LT G W tc)) (hb : PSs X body (LS G W tb)) : PS X (.While c body [] pos) (LS G W fun d δ A => ∃ n, whP tc tb d n δ A) :=
  PS.weak (ps_while hp hc hb) fun D σ H ⟨ι, A, δ, d, R, Sr, ⟨n, t⟩, f⟩ => by
    refine ⟨fun m σ' H' => ∃ ι' A' δ', Stp ι H ι' H' ∧ Rep G ι' A' H' ∧ SR G ι' H' δ' σ' ∧ whP tc tb d m δ' A', ⟨n, ι, A, δ, .refl, R, Sr, t⟩, ?_⟩
    rintro m σ1 H1 ⟨ι1, A1, δ1, s1, R1, Sr1, h⟩
    cases m with
    | zero => exact (show False from h).elim
    | succ m =>
      refine lt_in R1 Sr1 (f.stp s1) h fun k A2 q2 ι2 H2 s2 R2 Sr2 f2 => ?_
      have s02 := s1.trans s2
      cases k with
      | false => exact f2.nxN R2 Sr2 q2
      | true =>
        refine ⟨fun σ' H' => ∃ ι' A' δ', Stp ι H ι' H' ∧ Rep G ι' A' H' ∧ SR G ι' H' δ' σ' ∧ whP tc tb d m δ' A', fun σ' H' z => ⟨m, Nat.lt_succ_self m, z⟩, ι2, A2, δ1, _, R2, Sr2, q2, ?_⟩
        exact ⟨fun δ' A' q ι' H' σ' s R' Sr' => ⟨ι', A', δ', s02.trans s, R', Sr', q⟩, f2.rt, f2.nx, fun δ' A' q ι' H' σ' s R' Sr' => ⟨ι', A', δ', s02.trans s, R', Sr', q⟩, f2.ex⟩
theorem ls_for {tg iter : Expr} {body : List Stmt} {ti : WI} {g : Tg} {tb : WS} (hp : PassesOwn (model X.prog X.w) X.A X.env X.xe) (hc : X.calm = true) (hi : PI X tg iter (LI G W ti)) (hg : PG X tg (LG G (wpG g))) (hb : PSs X body (LS G W tb)) (hs : notSet iter = true) :
    PS X (.For tg iter body [] pos) (LS G W fun d δ A => ti δ A (fun xs gd A1 => frP gd g tb d xs δ A1) (fun k p A1 => d.ex k p δ A1)) :=
  PS.weak (ps_for hp hc hi hg hb (nofold hs)) fun D σ H ⟨ι, A, δ, d, R, Sr, t, f⟩ => ⟨ι, A, δ, _, _, R, Sr, t, fun xs gd A1 h1 ι1 H1 J s1 R1 iok => by
    refine ⟨fun i m σ' Hc => m = xs.length - i ∧ i ≤ xs.length ∧ ∃ ι' A' δ', Stp ι1 H1 ι' Hc ∧ Rep G ι' A' Hc ∧ SR G ι' Hc δ' σ' ∧ frP gd g tb d (xs.drop i) δ' A', ⟨xs.length, by simp, Nat.zero_le _, ι1, A1, δ, .refl, R1, Sr.mono s1, h1⟩, ?_⟩
    rintro i m σ2 Hc ⟨em, hi, ι', A', δ', st, Rc, Sc, hc⟩
    by_cases hlt : i < xs.length
    · obtain ⟨x, ex⟩ : ∃ x, xs[i]? = some x := ⟨xs[i], List.getElem?_eq_getElem hlt⟩
      have edrop : xs.drop i = x :: xs.drop (i + 1) := by
        have := List.drop_eq_getElem_cons hlt
        rw [this]
        have e3 : xs[i] = x := by rw [List.getElem?_eq_getElem hlt] at ex; exact Option.some.inj ex
        rw [e3]
      rw [edrop] at hc
      unfold frP at hc
      obtain ⟨hgd, hc⟩ := hc
      obtain ⟨hgo, hy⟩ := (iok ι' A' Hc st Rc hgd).1 i x ex
      refine .inr ⟨hgo, fun σ3 H' => m ≠ 0 ∧ ∃ ι' A' δ', Stp ι1 H1 ι' H' ∧ Rep G ι' A' H' ∧ SR G ι' H' δ' σ3 ∧ frP gd g tb d (xs.drop (i + 1)) δ' A', fun σ3 H' z => ⟨xs.length - (i + 1), by omega, rfl, hlt, z.2⟩, fun v H' y => ?_⟩
      obtain ⟨ι2, st2, R2, rx⟩ := hy v H' y
      refine ⟨ι2, A', δ', x, _, R2, Sc.mono st2, rx, hc, fun δ3 h3 σ3 Sr3 => ⟨ι2, A', δ3, _, R2, Sr3, h3, ?_⟩⟩
      have f2 := f.stp (s1.trans (st.trans st2))
      exact ⟨fun δ4 A4 q ι4 H4 σ4 s R4 Sr4 => ⟨by omega, ι4, A4, δ4, (st.trans st2).trans s, R4, Sr4, q⟩, f2.rt, f2.nx, fun δ4 A4 q ι4 H4 σ4 s R4 Sr4 => ⟨by omega, ι4, A4, δ4, (st.trans st2).trans s, R4, Sr4, q⟩, f2.ex⟩
    · have ei : i = xs.length := by omega
      subst ei
      rw [List.drop_length] at hc
      unfold frP at hc
      obtain ⟨hgd, hc⟩ := hc
      exact .inl ⟨(iok ι' A' Hc st Rc hgd).2, (f.stp (s1.trans st)).nxN Rc Sc hc⟩, f.exX Sr⟩
theorem ls_par2 {st : Stmt} {i j : Nat} {t : DSt → AH → (List D → AH → Prop) → DX → Prop} (h : PS X st (tPar i j (LA G W t))) :
    PS X st (LS G W fun d δ A => t δ A (fun xs A1 => xs.length = [i, j].length ∧ d.nx (setAll δ [i, j] xs) A1) (fun k p A1 => d.ex k p δ A1)) :=
  PS.weak h fun D σ H ⟨ι, A, δ, d, R, Sr, t, f⟩ => ⟨ι, A, δ, _, _, R, Sr, t, fun xs A1 ⟨hl, q⟩ ι1 H1 vs s1 R1 r1 => by
    match xs, hl, q, r1 with
    | [a, b], _, q, r1 =>
      obtain ⟨v, w, ev, ra, rb⟩ := r1.two
      exact ⟨v, w, ev, (f.stp s1).nxN R1 (((Sr.mono s1).put i ra).put j rb) q⟩, f.exX Sr⟩
theorem ls_par3 {st : Stmt} {i j l : Nat} {t : DSt → AH → (List D → AH → Prop) → DX → Prop} (h : PS X st (tPar3 i j l (LA G W t))) :
    PS X st (LS G W fun d δ A => t δ A (fun xs A1 => xs.length = [i, j, l].length ∧ d.nx (setAll δ [i, j, l] xs) A1) (fun k p A1 => d.ex k p δ A1)) :=
  PS.weak h fun D σ H ⟨ι, A, δ, d, R, Sr, t, f⟩ => ⟨ι, A, δ, _, _, R, Sr, t, fun xs A1 ⟨hl, q⟩ ι1 H1 vs s1 R1 r1 => by
    match xs, hl, q, r1 with
    | [a, b, c], _, q, r1 =>
      unfold VRs at r1
      obtain ⟨u, r, ev, ra, r2⟩ := r1
      obtain ⟨v, w, ev2, rb, rc⟩ := VRs.two r2
      subst ev2
      exact ⟨u, v, w, ev, (f.stp s1).nxN R1 ((((Sr.mono s1).put i ra).put j rb).put l rc) q⟩, f.exX Sr⟩
end
end Zw
set_option Elab.async false
set_option linter.all false
set_option maxRecDepth 100000
set_option maxHeartbeats 4000000
/-! Zra: an exception's own __init__ that says super().__init__('m'); self.f = y. -/
namespace Zw
open PySem PySem.Spec PyProof.Rows L2
open PySem.W PySem.Calls in
section
variable {prog : Program} {w : World} {A : Around} {E : Value → Shared → Prop} {h : Heap} {g : Array GenState} {d : Drawn} {t : Nat} {os : OsState}
variable {nm q : Str} {C N : Addr} {bs bm : List Value} {hdct : Bool} {sn : List Str} {sub : List Value} {ab : Bool} {col : Option Bool} {dd : Option Addr} {k0 k1 k2 k3 k5 : Option Value}
/-- the bound ValueError.__init__, called -/
theorem att_bound {u e t0 : Addr} {rest : List Value} {Q : Value → Shared → Prop}
    (hC : h.get? C = some (excClassObj nm q C N bs bm hdct sn sub ab col dd k0 k1 k2 k3 k5 "ValueError.__new__")) (he : h.get? e = some (HandSPX.excO C t0)) (hu : h.get? u = some (kxs_mw "ValueError.__init__" e)) (hrest : rest.length ≤ sizeLine)
    (hq : ∀ h' t1, (∀ b o, b ≠ e → h.get? b = some o → h'.get? b = some o) → h'.get? e = some (HandSPX.excO C t1) → Q .none ⟨h', g, d, t, os⟩) :
    wpAny (model prog w) A (call (.ref u) rest) Q E ⟨h, g, d, t, os⟩ := by
  refine wpAny_call (codeAny_of_tree ?_)
  show wpAny _ A.in1 (callAny (.ref u) ⟨rest, []⟩) _ _ _
  simp only [callAny]
  refine wpAny_bind (wpAny_load hu ?_)
  simp only [kxs_mw, show (Value.type "method-wrapper" == Value.type "method" || Value.type "method-wrapper" == Value.type "builtin_function_or_method" || Value.type "method-wrapper" == Value.type "method-wrapper") = true by decide, if_true]
  refine KFB.if_so (by decide) ?_
  refine wpAny_bind (check_bound_init F.excBase_ValueError.toExcCallFacts hC he rfl ?_)
  refine wpAny_bind (wpAny_pure (wpAny_pure ?_))
  refine ⟨plainId_quiet F.excBase_ValueError.init.plain _, codeAny_builtin F.excBase_ValueError.initEntry ?_⟩
  exact exc_init_tree (cls := .ref C) (t0 := t0) (dv := none) (c2 := .none) (c3 := .none) (b4 := .bool false) he hrest fun h' k e' _ => hq h' _ k e'
end

theorem bind2 {fd : FuncData} {q1 q2 : Pos} {y : Str} {a b : Value} (hp : fd.params = ⟨[], [⟨"self", none, q1⟩, ⟨y, none, q2⟩], none, [], [], none, []⟩) (hd : fd.defaults = .none) (hy : y ≠ ("self" : Str)) :
    bindArgs fd ⟨[a, b], []⟩ = pure [(("self" : Str), a), (y, b)] := by
  obtain ⟨f1, f2, f3, f4, f5, f6, f7, f8, f9, f10, f11, f12, f13, f14, f15⟩ := fd
  dsimp only at hp hd
  subst hp hd
  have e : (y == ("self" : Str)) = false := by simpa using hy
  have e2 : (y == y) = true := by simp
  unfold bindArgs
  simp [seqItems?, List.lookup, e, e2]
  rfl

/-- the body of such an __init__ -/
def attB (f y : Str) : List Stmt → Bool
  | [.Expr (.Call (.Attribute (.Call (.Name s _) [] [] _) i p2) [.Constant (.str _) _ _] [] p4) _, .Assign [.Attribute (.Name o _) g _] (.Name z _) _] => (p2.endLine == p4.line) && decide (s = "super") && decide (i = "__init__") && decide (o = "self") && decide (g = f) && decide (z = y)
  | _ => false
/-- what the written part says of the __init__ of the class at C -/
structure IniI (P : Program) (K : PySem.W.Frag) (C : Addr) (f y : Str) (fd : FuncData) (fI : Addr) : Prop where
  bd : ∃ body, fd.body = .stmts body ∧ attB f y body = true
  pr : ∃ q1 q2, fd.params = ⟨[], [⟨"self", none, q1⟩, ⟨y, none, q2⟩], none, [], [], none, []⟩
  df : fd.defaults = .none
  ys : y ≠ ("self" : Str)
  yd : (y == ("__debug__" : Str)) = false
  gl : fd.globals = mainGlobals
  bl : fd.builtins = builtinsNs
  cd : PySem.W.codeIn K fd.code fd.qualname = true
  co : fd.scope.isCoroutine = false
  gn : fd.scope.isGenerator = false
  kd : fd.scope.kind = .function
  nc : ∀ x ∈ fd.scope.names, x.2 ≠ .cell
  ls : fd.scope.names.lookup ("self" : Str) = some .local
  ly : fd.scope.names.lookup y = some .local
  lu : fd.scope.names.lookup ("super" : Str) = some .globalImplicit
  lc : fd.scope.names.lookup ("__class__" : Str) = some .free
  cl : ∃ cc cv cdd csl, fd.closure.lookup ("__class__" : Str) = some cc ∧ K.lookup cc = some ⟨cv, cdd, .cell (some (.ref C)), csl⟩
  fl : ∃ (cda : Addr) (u : Value) (v : Option Addr) (vs : Array Value) (sl : Array (Option Value)) (file : Str) (tf : Tok), fd.code = .ref cda ∧ K.lookup cda = some ⟨u, v, .fields vs, sl⟩ ∧ vs[2]? = some (.str file tf) ∧ ((P.main.file : Str) == file) = true
  tp : (P.main.scope.names.lookup ("super" : Str)).isSome = false
/-- what it says of the class -/
structure AttI (P : Program) (K : PySem.W.Frag) (C : Addr) (f : Str) : Prop where
  ox : OexC K C
  fr : PySem.W.findIn K (.ref C) f = some none
  su : PySem.W.ks_superIn K C C "__init__" = some (some (.builtin "ValueError.__init__"))
  ve : PySem.W.subIn K (.ref C) (.type "ValueError") = some true
  mr : PySem.W.mroIn K C (.ref C) = some true
  op : PySem.W.nsIn K cStatics "thirdparty.any" = some none
  sp : PySem.W.nsIn K mainGlobals "super" = some none
  fi : ∃ (fI : Addr) (oc : Value) (od : Option Addr) (fd : FuncData) (sl : Array (Option Value)) (y : Str), PySem.W.findIn K (.ref C) "__init__" = some (some (.ref fI)) ∧ PySem.W.typeIn K (.ref fI) = some (.type "function") ∧
    K.lookup fI = some ⟨oc, od, .func fd, sl⟩ ∧ IniI P K C f y fd fI

theorem att_line {env : Env} {o : Expr} {name : Str} {p2 p3 p4 : Pos} {m : Str} {j : Nat} (h : (p2.endLine == p4.line) = true) :
    eval (.Call (.Attribute o name p2) [.Constant (.str m) j p3] [] p4) env = (do
      let ov ← attributeBase o name env (eval o env)
      standAt p2.atName
      let (f, first) ← holding [ov] (getMethod ov name (do return (← importBound o env).getD true))
      callWith p4 f first (backTo p4 (starEach [.Constant (.str m) j p3] env)) []) := by
  show (do
    let ov ← attributeBase o name env (eval o env)
    standAt p2.atName
    methodCall o name p2 p4 env ov 1 (backTo p4 (starEach [.Constant (.str m) j p3] env)) (backToKw p4 (keywordEach [] env))) = _
  unfold methodCall methodCallPos
  rw [h, Bool.or_true, if_pos rfl]
  rfl
open PySem.W PySem.Calls in
section
variable {P : Program} {w : World} {K : PySem.W.Frag} {mg : Str → Option Value} {base : Heap} {A : Around} {R : Result → Shared → Prop} {h : Heap} {g : Array GenState} {d : Drawn} {t : Nat} {os : OsState} {C : Addr} {f : Str}
theorem att_run {e t0 fI : Addr} {u : Value} {oc : Value} {od : Option Addr} {fd : FuncData} {sl : Array (Option Value)} {y : Str} (T : AttI P K C f) (lk : K.lookup fI = some ⟨oc, od, .func fd, sl⟩) (I : IniI P K C f y fd fI)
    (M : Mod K mg base) (bk : ∀ b o, base.get? b = some o → h.get? b = some o) (hd : A.depth < recursionLimit) (be : base.get? e = none) (hx : h.get? e = some (HandSPX.excO C t0))
    (hq : ∀ h' t' dx t1, (∀ b o, b ≠ e → h.get? b = some o → h'.get? b = some o) → h.objs.size ≤ dx → h'.get? e = some ({ cls := .ref C, dict := some dx, data := .fields #[.ref t1, .none, .none, .none, .bool false, .none] } : Obj) →
      h'.Ns1 dx (fun z => if z = f then some u else none) → R (.ok (.ret .none)) ⟨h', g, d, t', os⟩) :
    codeAny (model P w) A (.call (.ref fI) ⟨[.ref e, u], []⟩) R ⟨h, g, d, t, os⟩ := by
  obtain ⟨nm, q, N, bs, bm, sn, sub, ab, col, dd, k0, k1, k2, k3, k5, hCK, hbm⟩ := T.ox.cls
  have hcl : PySem.W.clsIn K C = some { name := nm, bases := bs, mro := .ref C :: bm, ns := N, qualname := q, hasDict := true, slotNames := sn, subclasses := sub, abstract := ab, collection := col, hasDel := false } := by unfold PySem.W.clsIn; rw [hCK] <;> rfl
  obtain ⟨body, hb, hbb⟩ := I.bd
  obtain ⟨q1, q2, hp⟩ := I.pr
  obtain ⟨cc, cv, cdd, csl, hcc, lcc⟩ := I.cl
  obtain ⟨cda, uu, vv, vs, csl2, file, tf, hcda, lcda, hvs, hfile⟩ := I.fl
  obtain ⟨mb, hmb, hmb2⟩ := M.blt
  have X : K.In h := M.kin.keeps bk
  have ec : e ≠ C := fun z => by
    have := X _ _ hCK
    rw [z, this] at hx
    have := congrArg Obj.data (Option.some.inj hx)
    cases this
  unfold attB at hbb
  split at hbb
  · rename_i s p0 p1 i p2 m j p3 p4 p5 o p6 g' p7 z p8 p9
    simp only [Bool.and_eq_true, decide_eq_true_eq] at hbb
    obtain ⟨⟨⟨⟨⟨e0, e1⟩, e2⟩, e3⟩, e4⟩, e5⟩ := hbb
    subst e1 e2 e3 e4 e5
    refine ks_codeAny_call_defAt hd (X _ _ lk) rfl (M.nolimit.keeps bk) (codeRec_of X I.cd) hb (.of_eq (bind2 hp I.df I.ys)) I.nc (fun x hx => ?_) (fun h1 hns kk => ?_) I.co I.gn I.kd
    · rcases List.mem_cons.mp hx with z | z
      · rw [z]; exact I.ls
      · rw [List.mem_singleton.mp z]; exact I.ly
    · have X1 : K.In h1 := X.keeps kk
      have hx1 := kk _ _ hx
      have hD1 := X1 _ _ hCK
      have lt1 : h.objs.size < h1.objs.size := hns.lt
      refine ks_wpAt_execs_cons (ks_wpAt_Expr_any (ks_wpAt_MethodCall (pl := (do return (← importBound (.Call (.Name "super" p0) [] [] p1) (callEnv fd h.objs.size fI)).getD true)) (ks_wpAt_super_base I.lu I.lc (by decide) rfl (X1 _ _ lk) rfl (by rw [hp]; rfl) hcda (X1 _ _ lcda) rfl hvs hfile I.tp ?_) (att_line e0)) (by unfold interactive; rw [show (callEnv fd h.objs.size fI).scope.kind = .function from I.kd]; rfl))
      refine ks_loadName_global I.kd I.lu (loadGlobal_builtin (mg := mg) (mb := mb) (by show h1.Ns fd.globals mg; rw [I.gl]; exact M.glob.keeps fun b o z => kk _ _ (bk b o z)) (PySem.W.mg_none_of M.kin M.glob T.sp) (by show h1.Ns fd.builtins mb; rw [I.bl]; exact hmb.keeps fun b o z => kk _ _ (bk b o z)) ((hmb2 _ (by decide)).trans (show bootBuiltins "super" = some (.type "super") by first | rfl | kernel_rfl)) ⟨rfl, ?_⟩)
      refine wpAny_loadName_free I.kd I.lc hcc ⟨_, X1 _ _ lcc, rfl⟩ ?_
      refine wpAny_loadName_local I.kd I.ls hns (v := .ref e) ?_ ?_
      · show (([(("self" : Str), Value.ref e), (z, u)] : List (Str × Value)).reverse).lookup ("self" : Str) = _
        rw [show (([(("self" : Str), Value.ref e), (z, u)] : List (Str × Value)).reverse) = [(z, u), (("self" : Str), Value.ref e)] from rfl]
        have ne : (("self" : Str) == z) = false := by simpa using Ne.symm I.ys
        simp [List.lookup, ne]
      refine ks_wpAny_isType_cls hD1 rfl ⟨rfl, ?_⟩
      refine ks_wpAny_call_super hD1 rfl hx1 rfl (fun c z => by cases z) (looks_mroIn X1 T.mr) (fun h2 e2 k2 => ?_)
      have X2 : K.In h2 := X1.keeps k2
      have hx2 := k2 _ _ hx1
      have I2 : PySem.W.InstAt h2 e (HandSPX.excO C t0) C none := ⟨hx2, rfl, rfl, trivial⟩
      have hsup : alongIn K "__init__" ((((Value.ref C :: bm).dropWhile (· != .ref C)).drop 1)) = some (some (.builtin "ValueError.__init__")) := by
        have z := T.su
        unfold ks_superIn at z
        rw [hcl] at z
        exact z
      refine kxs_getMethod kxs_ValueError e2 (looks_opaque X2 T.op) (l₀ := .ref C :: bm) (fun A Q E s k q => wpAny_bind ((looks_clsIn X2 hcl) A _ E s k (wpAny_pure q))) rfl X2 hsup (I2.type.andThen (looks_subIn X2 T.ve)) ec (by decide) ?_
      have hu : (h2.push (kxs_mw "ValueError.__init__" e)).get? h2.objs.size = some (kxs_mw "ValueError.__init__" e) := Heap.get?_push_at rfl rfl
      have k3' : ∀ b o, h2.get? b = some o → (h2.push (kxs_mw "ValueError.__init__" e)).get? b = some o := fun b o z => Heap.get?_push_of_some _ z
      refine kxs_callWith (i := "ValueError.__init__") (x := e) (args := (false, eval (.Constant (.str m) j p3) (callEnv fd h.objs.size fI)) :: backTo p4 []) (by rfl) (evalArgs_plain (spliced_cons (Constant_str (spliced_nil ⟨hu, ?_⟩))))
      refine att_bound (k3' _ _ (k2 _ _ hD1)) (k3' _ _ hx2) hu (by show 1 ≤ sizeLine; rw [sizeLine_eq]; decide) (fun h4 t1 k4 hx4 => ?_)
      have k14 : ∀ b o, b ≠ e → h1.get? b = some o → h4.get? b = some o := fun b o n z => k4 b o n (k3' _ _ (k2 _ _ z))
      have X4 : K.In h4 := fun b o z => k14 b o (fun y => by
        have n := M.kin _ _ z
        rw [y, be] at n
        cases n) (X1 _ _ z)
      have Le : h.objs.size ≠ e := fun z => by
        have n := Heap.lt_size hx
        rw [← z] at n
        exact Nat.lt_irrefl _ n
      have hns4 : h4.Ns h.objs.size (fun x => ([(("self" : Str), Value.ref e), (z, u)] : List (Str × Value)).reverse.lookup x) := by
        obtain ⟨oL, es, ep, hL, r⟩ := hns
        exact ⟨oL, es, ep, k14 _ _ Le hL, r⟩
      have lt4 : h.objs.size < h4.objs.size := hns4.lt
      refine ks_wpAt_execs_cons (wpAt_of_wpAny (plainObj_wpAny_Assign_Attribute ?_ (by rfl)))
      refine wpAny_Name (wpAny_loadName_local I.kd I.ly hns4 (v := u) ?_ ?_) I.yd
      · rw [show (([(("self" : Str), Value.ref e), (z, u)] : List (Str × Value)).reverse) = [(z, u), (("self" : Str), Value.ref e)] from rfl]
        simp [List.lookup]
      refine wpAny_Name (wpAny_loadName_local I.kd I.ls hns4 (v := .ref e) ?_ ?_) (by decide)
      · rw [show (([(("self" : Str), Value.ref e), (z, u)] : List (Str × Value)).reverse) = [(z, u), (("self" : Str), Value.ref e)] from rfl]
        have ne : (("self" : Str) == z) = false := by simpa using Ne.symm I.ys
        simp [List.lookup, ne]
      refine PySem.W.set_plain X4 (ox := HandSPX.excO C t1) (od := none) ⟨hx4, rfl, rfl, trivial⟩ T.ox.sa ?_
      refine PySem.HandSPX.exc_osa X4 hx4 hcl (show PySem.HandSPX.refsVE (.ref C :: bm) = true from hbm) rfl T.fr (fun h5 tk5 dx k5 dn dne hx5 hn => ?_)
      exact wpAt_of_wpAny (wpAny_execs_nil (hq h5 _ dx t1 (fun b o n y => k5 b o n (k14 b o n (kk b o y))) (Nat.le_trans (Nat.le_of_lt lt4) dn) hx5 hn))
  · exact absurd hbb Bool.false_ne_true
end

/-! ### C(e), C such a class -/
def tAtt (C : Addr) (f : Str) (te : TE) : L2.St → Hp → XK → Prop := fun σ H Q => te σ H fun v H1 => ∀ dx, H1 dx = none → Q (.ref C) (some dx) (upd H1 dx (.xd [(f, v)]))
section
variable {X : Cx} {x f : Str} {C : Addr} {e : Expr} {te : TE} {p pos : Pos}
theorem pmk_att {k : Nat} (T : AttI X.prog X.K C f) (hr : Room k X.A) (hg : Gl X x) (hm : X.mg x = some (.ref C)) (he : PE X e te)
    (hdb : (x == ("__debug__" : Str)) = false) (hst : starEach [e] X.env = (false, eval e X.env) :: starEach [] X.env) :
    PMk X (.Call (.Name x p) [e] [] pos) (tAtt C f te) := by
  intro pins s σ H Q I h
  obtain ⟨nm, q, N, bs, bm, sn, sub, ab, col, dd, k0, k1, k2, k3, k5, hC, hbm⟩ := T.ox.cls
  obtain ⟨fI, oc, od, fd, sl, y, iC, tI, lk, J⟩ := T.fi
  refine wpAny_Call_Name_kw (ld_glob I hg hm ?_ hdb)
  refine PySem.W.callWith_K (h₀ := X.base) I.ok.mod.kin T.ox.kC (thn ((pa_cons he pa_nil hst).run pos pins s σ H (fun vs H1 => match vs with | [v] => ∀ dx, H1 dx = none → Q (.ref C) (some dx) (upd H1 dx (.xd [(f, v)])) | _ => False) I h) fun us s1 ⟨vs, H1, I1, r1, hq⟩ => ⟨I1.kIn, ?_⟩) hst rfl
  show wpAny _ _ (call (.ref C) us) _ _ _
  obtain ⟨v, q, rfl⟩ : ∃ v, (∀ dx, H1 dx = none → Q (.ref C) (some dx) (upd H1 dx (.xd [(f, v)]))) ∧ vs = [v] := by
    match vs, hq with
    | [v], hq => exact ⟨v, hq, rfl⟩
  obtain ⟨u, rfl, ru⟩ : ∃ u, us = [u] ∧ RelV v u := by
    cases r1 with
    | cons a b => cases b; exact ⟨_, rfl, a⟩
  obtain ⟨hp, g, dr, tk, os⟩ := s1
  have hsz : hp.objs.size ≤ hp.objs.size + 1 := Nat.le_succ _
  have kk : ∀ b o, hp.get? b = some o → ((hp.push (PySem.W.kdv_tup [u])).push (PySem.HandSPX.excO C hp.objs.size)).get? b = some o := fun b o e => Heap.get?_push_of_some _ (Heap.get?_push_of_some _ e)
  have hget : ((hp.push (PySem.W.kdv_tup [u])).push (PySem.HandSPX.excO C hp.objs.size)).get? (hp.objs.size + 1) = some (PySem.HandSPX.excO C hp.objs.size) := by heap_get
  have be : X.base.get? (hp.objs.size + 1) = none := by
    cases z : X.base.get? (hp.objs.size + 1) with
    | none => rfl
    | some o =>
      have := Heap.lt_size (I1.bk _ _ z)
      exact absurd this (by show ¬ hp.objs.size + 1 < hp.objs.size; omega)
  refine wpAny_call (PySem.HandSPX.call_own F.excBase_ValueError (fun Y => PySem.HandSPX.refsVE_contains Y bm hbm) (I1.kIn _ _ hC) (PySem.W.looks_findIn I1.kIn iC) (fun self => PySem.W.bind_fn I1.kIn self tI) (by show 1 ≤ sizeLine; rw [sizeLine_eq]; decide)
    (att_run (e := hp.objs.size + 1) (u := u) T lk J I1.ok.mod (fun b o z => kk _ _ (I1.bk b o z)) (by have := hr.dp; rw [make_depth]; omega) be hget fun h' t' dx t1 k' sd hx' hn => ?_))
  have sd : hp.objs.size ≤ dx := Nat.le_trans (by rw [Heap.size_push, Heap.size_push]; omega) sd
  have nd : H1 dx = none := I1.hok.fresh sd
  have na : H1 (hp.objs.size + 1) = none := I1.hok.fresh hsz
  have nex : dx ≠ hp.objs.size + 1 := fun z => by
    obtain ⟨o, es, ep, e1, e2, _⟩ := hn
    rw [z, hx'] at e1
    have z2 := Option.some.inj e1
    subst z2
    cases e2
  obtain ⟨G, g1', g2'⟩ := restrict h' fun b => decide (b ≠ hp.objs.size + 1)
  have gk : ∀ b, b ≠ hp.objs.size + 1 → G.get? b = h'.get? b := fun b hb => g1' b (decide_eq_true hb)
  have ge : G.get? (hp.objs.size + 1) = none := g2' _ (by simp)
  have kG : ∀ b o, hp.get? b = some o → G.get? b = some o := fun b o z => by
    have nb : b ≠ hp.objs.size + 1 := fun w => by
      have z2 := Heap.lt_size z
      rw [w] at z2
      exact absurd z2 (Nat.not_lt.mpr hsz)
    rw [gk b nb]
    exact k' b o nb (kk b o z)
  have nG : G.Ns1 dx (fun z => if z = f then some u else none) := hn.at fun o z => (gk dx nex).trans z
  have J2 : Inv X pins σ (upd H1 dx (.xd [(f, v)])) ⟨G, g, dr, tk, os⟩ := I1.laid (t' := tk) (a := dx) (o := .xd [(f, v)]) kG sd ⟨_, nG, fun z => by
    rw [lookup_put]
    by_cases h : z = f
    · rw [if_pos h, if_pos h]; exact ru
    · rw [if_neg h, if_neg h]; exact True.intro⟩
  refine ⟨rfl, _, _, _, ⟨G, g, dr, tk, os⟩, _, .ref C, some dx, rfl, J2, fun b o z => ?_, ge, hx', ⟨rfl, rfl⟩, rfl, rfl, by rw [upd_ne nex.symm]; exact na, rfl, I1.bare, raises_own T.ox.exC T.ox.tyC, q dx nd⟩
  have nb : b ≠ hp.objs.size + 1 := fun w => by rw [w, ge] at z; cases z
  rw [gk b nb] at z
  exact z
end
section
variable {G : GE} {X : Cx} {W : WX} {x : Str} {k L : Nat} {e : Expr} {ta : Zw.WE} {p pos pos' : Pos}
theorem ls_raisv (hK : X.K = G.K) (hc : X.calm = true) (tk : Takes X W) (T : AttI X.prog X.K (G.T k) (G.xn k)) (hr : Room L X.A) (hg : Gl X x) (hm : X.mg x = some (.ref (G.T k)))
    (hdb : (x == ("__debug__" : Str)) = false) (hst : starEach [e] X.env = (false, eval e X.env) :: starEach [] X.env) (he : PE X e (LE G W ta)) :
    PS X (.Raise (some (.Call (.Name x p) [e] [] pos)) none pos') (LS G W fun d δ A => ta δ A (fun y A1 => d.ex k [y] δ A1) (fun c q A1 => d.ex c q δ A1)) :=
  PS.weak (ps_raise hc tk (pmk_att T hr hg hm he hdb hst)) fun D σ H ⟨ι, A, δ, d, R, Sr, t, f⟩ =>
    le_in R Sr f t fun y A' q ι' H' v s R' Sr' r f' dx hd => by
      have sn : Stp ι' H' ι' (upd H' dx (.xd [(G.xn k, v)])) := stp_new hd
      exact f'.ex k [y] δ A' q ι' _ _ (some dx) σ sn (R'.new hd) (Sr'.mono sn) ⟨rfl, [v], VRs.cons (VR.mono sn _ _ r) VRs.nil, .inr ⟨dx, v, rfl, rfl, upd_same⟩⟩
end
end Zw
set_option Elab.async false
set_option linter.all false
set_option maxRecDepth 100000
set_option maxHeartbeats 16000000
/-! Zs: which tree a statement is; every statement's wish is a reading. -/
namespace Zw
open PySem PySem.Spec PyProof.Rows L2

mutual
def isG (c : Cc) (sc : Scope) : Tg → Expr → Bool
  | .nm i, e => match e with
    | .Name x _ => decide (c.N[i]? = some x) && locB sc x
    | _ => false
  | .tp ts, e => match e with
    | .Tuple es _ _ => isGs c sc ts es
    | _ => false
def isGs (c : Cc) (sc : Scope) : List Tg → List Expr → Bool
  | [], es => es.isEmpty
  | t :: ts, es => match es with
    | e :: es => isG c sc t e && isGs c sc ts es
    | [] => false
end
def locL (sc : Scope) (x : Str) : Bool := match sc.names.lookup x with
  | some .local => true
  | _ => false
/-- a, b = x, y -/
def isPar (c : Cc) (sc : Scope) (is : List Nat) (ts vs : List Expr) : Bool := match is, ts, vs with
  | [i, j], [.Name x px, .Name y py], [a, b] => decide (c.N[i]? = some x) && decide (c.N[j]? = some y) && decide (i ≠ j) && locL sc x && locL sc y && swSome sc [.Name x px, .Name y py] [a, b] [x, y]
  | [i, j, l], [.Name x px, .Name y py, .Name z pz], [a, b, d] => decide (c.N[i]? = some x) && decide (c.N[j]? = some y) && decide (c.N[l]? = some z) && decide (i ≠ j) && decide (i ≠ l) && decide (j ≠ l) && locL sc x && locL sc y && locL sc z &&
      swSome sc [.Name x px, .Name y py, .Name z pz] [a, b, d] [x, y, z]
  | _, _, _ => false
def swT (sc : Scope) : Expr → Expr → Bool
  | .Tuple ts _ _, .Tuple vs _ _ => swNone sc ts vs
  | .Tuple _ _ _, _ => true
  | _, _ => false
mutual
def isS (c : Cc) (rs : List Nat) (sc : Scope) : Ms → Stmt → Bool
  | .pass, s => match s with
    | .Pass _ => true
    | _ => false
  | .brk, s => match s with
    | .Break _ => true
    | _ => false
  | .cont, s => match s with
    | .Continue _ => true
    | _ => false
  | .expr e, s => match s with
    | .Expr x _ => isE c true sc e x && notComp x
    | _ => false
  | .set i e, s => match s with
    | .Assign [.Name y _] v _ => decide (c.N[i]? = some y) && locB sc y && isE c true sc e v && swOk sc (some y) v
    | _ => false
  | .setC i it g own cd el, s => match s with
    | .Assign [.Name y py] (.ListComp elt [⟨tg, iter, ifs, 0⟩] scope pos) _ => decide (c.N[i]? = some y) && locL sc y && (py.line == pos.line) && !(scope.names.any fun (n, k) => n == y && (k == .local || k == .cell)) &&
        ((match tg with | .Name y _ => decide (c.N[g]? = some y) && locB scope y | _ => false) && decide (g ∈ own) && blkC c.N sc scope (blkScope c own) && notSet iter && tgOk it tg &&
        isI c true sc it iter && isF c (relS scope sc) cd ifs && isE c false (relS scope sc) el elt)
    | _ => false
  | .tset g e, s => match s with
    | .Assign [tg] v _ => isG c sc g tg && isE c true sc e v && swT sc tg v
    | _ => false
  | .par is es, s => match s with
    | .Assign [.Tuple ts _ _] (.Tuple vs _ _) _ => isPar c sc is ts vs && isEs c true sc es vs
    | _ => false
  | .sto a b e, s => match s with
    | .Assign [.Subscript o i _] v _ => isE c true sc a o && isE c true sc b i && isE c true sc e v && notSlice i
    | _ => false
  | .ife x a b, s => match s with
    | .If t p q _ => isE c true sc x t && isB c rs sc a p && isB c rs sc b q
    | _ => false
  | .whl x b, s => match s with
    | .While t p [] _ => isE c true sc x t && isB c rs sc b p
    | _ => false
  | .fr it g b, s => match s with
    | .For tg iter p [] _ => isI c true sc it iter && isG c sc g tg && isB c rs sc b p && notSet iter && tgOk it tg
    | _ => false
  | .ret e, s => match s with
    | .Return (some x) _ => isE c true sc e x
    | _ => false
  | .retN, s => match s with
    | .Return none _ => true
    | _ => false
  | .rais k, s => match s with
    | .Raise (some (.Call (.Name x _) [.Constant (.str _) _ _] [] _)) none _ => decide (c.gl.lookup x = some k) && glB sc x && decide (k < 1000 ∧ k ∈ rs)
    | _ => false
  | .raisv k e, s => match s with
    | .Raise (some (.Call (.Name x _) [y] [] _)) none _ => decide (c.gl.lookup x = some k) && glB sc x && decide (k + 1000 ∈ rs) && isE c true sc e y && notStar y
    | _ => false
  | .none, _ => true
def isB (c : Cc) (rs : List Nat) (sc : Scope) : Mb → List Stmt → Bool
  | .nil, ss => ss.isEmpty
  | .cons m r, ss => match ss with
    | s :: t => isS c rs sc m s && isB c rs sc r t
    | [] => false
end
mutual
def lamsS : Ms → Stmt → List (Nat × Expr)
  | .expr e, s => match s with | .Expr x _ => lamsE e x | _ => []
  | .set _ e, s => match s with | .Assign _ v _ => lamsE e v | _ => []
  | .setC _ it _ _ _ _, s => match s with | .Assign _ (.ListComp _ [⟨_, iter, _, _⟩] _ _) _ => lamsI it iter | _ => []
  | .tset _ e, s => match s with | .Assign _ v _ => lamsE e v | _ => []
  | .par _ es, s => match s with | .Assign _ (.Tuple vs _ _) _ => lamsEs es vs | _ => []
  | .sto a b e, s => match s with | .Assign [.Subscript o i _] v _ => lamsE a o ++ lamsE b i ++ lamsE e v | _ => []
  | .ife x a b, s => match s with | .If t p q _ => lamsE x t ++ lamsB a p ++ lamsB b q | _ => []
  | .whl x b, s => match s with | .While t p _ _ => lamsE x t ++ lamsB b p | _ => []
  | .fr it _ b, s => match s with | .For _ iter p _ _ => lamsI it iter ++ lamsB b p | _ => []
  | .ret e, s => match s with | .Return (some x) _ => lamsE e x | _ => []
  | .raisv _ e, s => match s with | .Raise (some (.Call _ [y] _ _)) _ _ => lamsE e y | _ => []
  | _, _ => []
def lamsB : Mb → List Stmt → List (Nat × Expr)
  | .cons m r, s :: t => lamsS m s ++ lamsB r t
  | _, _ => []
end

/-- a class that may be raised with a text -/
def ExcI (G : GE) (k : Nat) : Prop := ∃ (bmB : List Value) (B newId initId : String), ExcBaseFacts B newId initId bmB ∧ PySem.W.excIn G.K (G.T k) bmB newId = true ∧ PySem.W.keepIn G.K (.ref (G.T k)) = true ∧
  PySem.W.subIn G.K (.ref (G.T k)) (.type "BaseException") = some true ∧ PySem.W.typeIn G.K (.ref (G.T k)) = some (.type "type")
/-- .. with or without an attribute (from 1000 on) -/
def RsI (G : GE) (k : Nat) : Prop := if k < 1000 then ExcI G k else AttI G.P G.K (G.T (k - 1000)) (G.xn (k - 1000))
structure CtxS (G : GE) (c : Cc) (L : Nat) (sc : Scope) (X : Cx) (W : WX) : Prop extends CtxE G c L true sc X W where
  hp : PassesOwn (model X.prog X.w) X.A X.env X.xe
  fn : ∀ x, X.fn x = true
  kd : X.env.scope.kind = .function

section
variable {G : GE} {F : Nat → DSp} {S : Nat → Nat → Bool} {c : Cc} {L : Nat} {rs : List Nat} {sc : Scope} {X : Cx} {W : WX}
theorem locB_loc {x : Str} (cx : CtxS G c L sc X W) (h : locB sc x = true) : Loc X.env.scope x := by
  show X.env.scope.names.lookup x = _ ∨ X.env.scope.names.lookup x = _
  rw [cx.sc]
  unfold locB at h
  split at h
  · rename_i e; exact .inl e
  · rename_i e; exact .inr e
  · exact ff h
theorem locL_loc {x : Str} (cx : CtxS G c L sc X W) (h : locL sc x = true) : X.env.scope.names.lookup x = some .local := by
  rw [cx.sc]
  unfold locL at h
  split at h
  · rename_i e; exact e
  · exact ff h
theorem each_of {env : Env} : ∀ {ts : List Tg} {es : List Expr}, isGs c sc ts es = true → (assignEach es env).length = ts.length ∧ (assignEach es env).findIdx? (·.1) = none
  | [], [], _ => ⟨rfl, rfl⟩
  | [], _ :: _, h => ff h
  | _ :: _, [], h => ff h
  | t :: ts, e :: es, h => by
    unfold isGs at h
    rw [Bool.and_eq_true] at h
    obtain ⟨h1, h2⟩ := each_of (env := env) h.2
    have key : assignEach (e :: es) env = (false, assign e env) :: assignEach es env := by
      have h := h.1
      cases e with
      | Starred a b => cases t <;> exact ff h
      | _ => rfl
    rw [key]
    refine ⟨by rw [List.length_cons, List.length_cons, h1], ?_⟩
    rw [List.findIdx?_cons, h2]; rfl
theorem each_map {env : Env} {t : Tg} {e : Expr} {es : List Expr} (h : isG c sc t e = true) : (assignEach (e :: es) env).map (·.2) = assign e env :: (assignEach es env).map (·.2) := by
  cases e with
  | Starred a b => cases t <;> exact ff h
  | _ => rfl
mutual
theorem sG (cx : CtxS G c L sc X W) : (g : Tg) → {e : Expr} → isG c sc g e = true → PG X e (LG G (wpG g))
  | .nm i, e, h => by
    unfold isG at h; split at h
    · rw [Bool.and_eq_true, decide_eq_true_eq] at h
      exact lg_name (pg_name (by rw [cx.N]; exact cx.nd) (by rw [cx.N]; exact h.1) (locB_loc cx h.2) (.inl (cx.fn _)))
    · exact ff h
  | .tp ts, e, h => by
    unfold isG at h; split at h
    · obtain ⟨h1, h2⟩ := each_of (env := X.env) h
      exact lg_tup cx.K (pg_tup cx.calm (sGs cx ts h) h1 h2)
    · exact ff h
theorem sGs (cx : CtxS G c L sc X W) : (ts : List Tg) → {es : List Expr} → isGs c sc ts es = true → PGs X es (LGs G (wpGs ts))
  | [], es, h => by
    cases es with
    | nil => exact lgs_nil
    | cons a b => exact ff h
  | t :: ts, es, h => by
    cases es with
    | nil => exact ff h
    | cons a b =>
      have h : (isG c sc t a && isGs c sc ts b) = true := h
      rw [Bool.and_eq_true] at h
      exact lgs_cons (sG cx t h.1) (sGs cx ts h.2) (each_map h.1)
end
theorem LamsOk.l' {a b : List (Nat × Expr)} (h : LamsOk G X W (a ++ b)) : LamsOk G X W a := fun p hp => h p (List.mem_append_left _ hp)
theorem LamsOk.r' {a b : List (Nat × Expr)} (h : LamsOk G X W (a ++ b)) : LamsOk G X W b := fun p hp => h p (List.mem_append_right _ hp)
mutual
theorem sS (fx : Fx G F S c L) (hr : ∀ k ∈ rs, RsI G k) (cx : CtxS G c L sc X W) : (m : Ms) → {s : Stmt} → isS c rs sc m s = true → LamsOk G X W (lamsS m s) → PS X s (LS G W (wpS F S m))
  | .pass, s, h, hl => by
    unfold isS at h; split at h
    · exact ls_next ps_pass
    · exact ff h
  | .brk, s, h, hl => by
    unfold isS at h; split at h
    · exact ls_break
    · exact ff h
  | .cont, s, h, hl => by
    unfold isS at h; split at h
    · exact ls_cont
    · exact ff h
  | .expr e, s, h, hl => by
    unfold isS at h; split at h
    · rw [Bool.and_eq_true] at h
      exact ls_expr (sE fx e h.1 cx.toCtxE fun _ => hl).1 h.2
    · exact ff h
  | .set i e, s, h, hl => by
    unfold isS at h; split at h
    · simp only [Bool.and_eq_true, decide_eq_true_eq] at h
      obtain ⟨⟨⟨h1, h2⟩, h3⟩, h4⟩ := h
      exact ls_setT (ps_set (by rw [cx.N]; exact cx.nd) (by rw [cx.N]; exact h1) (locB_loc cx h2) (sE fx e h3 cx.toCtxE fun _ => hl).1 (sw_name (by rw [cx.sc]; exact h4)) (.inl (cx.fn _)))
    · exact ff h
  | .setC i it g own cd el, s, h, hl => by
    unfold isS at h; split at h
    · rename_i y py elt tg iter ifs scope pos spos
      simp only [Bool.and_eq_true, decide_eq_true_eq, Bool.not_eq_true'] at h
      obtain ⟨⟨⟨⟨k1, k2⟩, k3⟩, k4⟩, ⟨⟨⟨⟨⟨⟨⟨h1, h2⟩, h3⟩, h4⟩, ht⟩, h5⟩, h6⟩, h7⟩⟩ := h
      have cb : ∀ (s : Shared) (H : Hp) (C : Addr) (cl : List (Str × Addr)) (fp : List Addr), CtxE G c L false (relS scope sc) (X.blk s H scope (compEnvC scope cl C X.env) fp) (fun _ _ _ _ => False) := fun s H C cl fp =>
        ⟨cx.prog, cx.w, cx.K, cx.mg, cx.base, cx.N, cx.nd, by rw [← cx.sc]; rfl, cx.calm, cx.room, takes0, fun z => by cases z⟩
      have no : ∀ {P : Prop}, false = true → P := fun z => by cases z
      split at h1
      · rename_i y' p
        rw [Bool.and_eq_true, decide_eq_true_eq] at h1
        have z := ps_setLc (spos := spos) cx.calm (by rw [cx.N]; exact cx.nd) (by rw [cx.N]; exact k1) (locL_loc cx k2) (sw_true (pos := pos) (py := py) (l := spos.line) cx.kd (locL_loc cx k2) k3 k4) (sI fx it (tg := .Name y' p) h5 ht cx.toCtxE fun _ => hl) (own := blkScope c own) (by rw [cx.N, cx.sc]; exact blkOk_by h3)
          (g := gName g) (fun s H C cl fp => pg_name (X := X.blk s H scope (compEnvC scope cl C X.env) fp) (by show X.N.Nodup; rw [cx.N]; exact cx.nd) (by show X.N[g]? = some y'; rw [cx.N]; exact h1.1) ?_ ?_)
          (fun s H C cl fp => sF fx cd h6 (cb s H C cl fp)) (fun s H C cl fp => (sE fx el h7 (cb s H C cl fp) no).1) (nofold h4)
        · rw [blkScope_ix] at z
          exact ls_setT (PS.weak z fun D σ H w => comp_imp h2 w)
        · have h1 := h1.2
          unfold locB at h1
          show (relabel scope X.env).names.lookup y' = some .local ∨ (relabel scope X.env).names.lookup y' = some .cell
          split at h1
          · rename_i e1; exact .inl (lookup_relS_keep (by decide) e1)
          · rename_i e1; exact .inr (lookup_relS_keep (by decide) e1)
          · exact ff h1
        · have h1 := h1.2
          unfold locB at h1
          show (scope.names.lookup y' == some .cell) = true ∨ (relabel scope X.env).names.lookup y' = some .local
          split at h1
          · rename_i e1; exact .inr (lookup_relS_keep (by decide) e1)
          · rename_i e1; exact .inl (by rw [e1]; rfl)
          · exact ff h1
      · exact ff h1
    · exact ff h
  | .tset g e, s, h, hl => by
    unfold isS at h; split at h
    · rename_i tg v pos
      simp only [Bool.and_eq_true] at h
      obtain ⟨⟨h1, h2⟩, h3⟩ := h
      refine ls_tset (ps_asg (sE fx e h2 cx.toCtxE fun _ => hl).1 (sG cx g h1) ?_ ?_ (each_map h1))
      · cases tg with
        | Tuple ts k p => cases v <;> rfl
        | _ => cases v <;> exact ff h3
      · cases tg with
        | Tuple ts k p =>
          cases v with
          | Tuple vs k2 p2 => exact swN cx.kd (by rw [cx.sc]; exact h3)
          | _ => rfl
        | _ => cases v <;> exact ff h3
    · exact ff h
  | .par is es, s, h, hl => by
    unfold isS at h; split at h
    · rename_i ts kt pt vs k2 p2 pos
      rw [Bool.and_eq_true] at h
      have r := sEs fx es h.2 cx.toCtxE fun _ => hl
      have h1 := h.1
      unfold isPar at h1
      split at h1
      · rename_i i j x px y py a b
        simp only [Bool.and_eq_true, decide_eq_true_eq] at h1
        obtain ⟨⟨⟨⟨⟨a1, a2⟩, a3⟩, a4⟩, a5⟩, a6⟩ := h1
        have z := ls_par2 (ps_par (pos := pos) (kt := kt) (pt := pt) (k2 := k2) (pt2 := p2) cx.calm (by rw [cx.N]; exact cx.nd) (by rw [cx.N]; exact a1) (by rw [cx.N]; exact a2) a3 (locL_loc cx a4) (locL_loc cx a5) r.pa (swS cx.kd (by rw [cx.sc]; exact a6)) rfl)
        rw [rowP_eq] at z
        exact z
      · rename_i i j l x px y py z pz a b d
        simp only [Bool.and_eq_true, decide_eq_true_eq] at h1
        obtain ⟨⟨⟨⟨⟨⟨⟨⟨⟨a1, a2⟩, a3⟩, a4⟩, a5⟩, a6⟩, a7⟩, a8⟩, a9⟩, a0⟩ := h1
        have z := ls_par3 (ps_par3 (pos := pos) (kt := kt) (pt := pt) (k2 := k2) (pt2 := p2) cx.calm (by rw [cx.N]; exact cx.nd) (by rw [cx.N]; exact a1) (by rw [cx.N]; exact a2) (by rw [cx.N]; exact a3) a4 a5 a6 (locL_loc cx a7) (locL_loc cx a8) (locL_loc cx a9) r.pa (swS cx.kd (by rw [cx.sc]; exact a0)) rfl)
        rw [rowP_eq] at z
        exact z
      · exact ff h1
    · exact ff h
  | .sto a b e, s, h, hl => by
    unfold isS at h; split at h
    · rename_i o i p v pos
      simp only [Bool.and_eq_true] at h
      obtain ⟨⟨⟨h1, h2⟩, h3⟩, h4⟩ := h
      have ha := (sE fx a h1 cx.toCtxE fun _ => hl.l'.l').1
      have hb := (sE fx b h2 cx.toCtxE fun _ => hl.l'.r').1
      have he := (sE fx e h3 cx.toCtxE fun _ => hl.r').1
      refine ls_sto (ps_asg he (pg_sub ha hb (Zw.PSet.or set_list (set_dict (by have := cx.room.units; omega))) (fun _ => by cases i <;> first | rfl | exact ff h4)) ?_ ?_ rfl)
      · cases v <;> rfl
      · cases v <;> rfl
    · exact ff h
  | .ife x a b, s, h, hl => by
    unfold isS at h; split at h
    · simp only [Bool.and_eq_true] at h
      obtain ⟨⟨h1, h2⟩, h3⟩ := h
      exact ls_if (sE fx x h1 cx.toCtxE fun _ => hl.l'.l').2.1 (sB fx hr cx a h2 hl.l'.r') (sB fx hr cx b h3 hl.r')
    · exact ff h
  | .whl x b, s, h, hl => by
    unfold isS at h; split at h
    · simp only [Bool.and_eq_true] at h
      exact ls_while cx.hp (sE fx x h.1 cx.toCtxE fun _ => hl.l').2.1 (sB fx hr cx b h.2 hl.r')
    · exact ff h
  | .fr it g b, s, h, hl => by
    unfold isS at h; split at h
    · simp only [Bool.and_eq_true] at h
      obtain ⟨⟨⟨⟨h1, h2⟩, h3⟩, h4⟩, ht⟩ := h
      exact ls_for cx.hp cx.calm (sI fx it h1 ht cx.toCtxE fun _ => hl.l') (sG cx g h2) (sB fx hr cx b h3 hl.r') h4
    · exact ff h
  | .ret e, s, h, hl => by
    unfold isS at h; split at h
    · exact ls_ret (sE fx e h cx.toCtxE fun _ => hl).1
    · exact ff h
  | .retN, s, h, hl => by
    unfold isS at h; split at h
    · exact ls_retN
    · exact ff h
  | .rais k, s, h, hl => by
    unfold isS at h; split at h
    · rename_i x p m j p2 pos pos'
      simp only [Bool.and_eq_true, decide_eq_true_eq] at h
      obtain ⟨⟨h1, h2⟩, h3⟩ := h
      obtain ⟨g1, g2, g3⟩ := glB_gl cx.toCtxE h2
      have hE : ExcI G k := by
        have z := hr k h3.2
        unfold RsI at z
        rw [if_pos h3.1] at z
        exact z
      obtain ⟨bmB, B, newId, initId, F0, f1, f2, f3, f4⟩ := hE
      refine PS.weak (ps_raise cx.calm cx.tk (pmk_own F0 (by rw [cx.K]; exact f1) (of_gl fx cx.toCtxE h1) (by rw [cx.K]; exact f2) (raises_own (by rw [cx.K]; exact f3) (by rw [cx.K]; exact f4)) g1 g2)) fun D σ H ⟨ι, A, δ, d, R, Sr, t, f⟩ => ?_
      exact f.ex k [] δ A t ι H _ none σ .refl R Sr ⟨rfl, [], VRs.nil, .inl ⟨rfl, rfl⟩⟩
    · exact ff h
  | .raisv k e, s, h, hl => by
    unfold isS at h; split at h
    · rename_i x p y pos pos'
      simp only [Bool.and_eq_true, decide_eq_true_eq] at h
      obtain ⟨⟨⟨⟨h1, h2⟩, h3⟩, h4⟩, h5⟩ := h
      obtain ⟨g1, g2, g3⟩ := glB_gl cx.toCtxE h2
      have hA : AttI G.P G.K (G.T k) (G.xn k) := by
        have z := hr _ h3
        unfold RsI at z
        rw [if_neg (by omega), Nat.add_sub_cancel] at z
        exact z
      exact ls_raisv cx.K cx.calm cx.tk (by rw [cx.prog, cx.K]; exact hA) cx.room g1 (of_gl fx cx.toCtxE h1) g2 (star_cons h5) (sE fx e h4 cx.toCtxE fun _ => hl).1
    · exact ff h
  | .none, s, h, hl => ls_never
theorem sB (fx : Fx G F S c L) (hr : ∀ k ∈ rs, RsI G k) (cx : CtxS G c L sc X W) : (m : Mb) → {s : List Stmt} → isB c rs sc m s = true → LamsOk G X W (lamsB m s) → PSs X s (LS G W (wpB F S m))
  | .nil, s, h, hl => by
    cases s with
    | nil => exact ls_nil
    | cons a b => exact ff h
  | .cons m r, s, h, hl => by
    cases s with
    | nil => exact ff h
    | cons a b =>
      have h : (isS c rs sc m a && isB c rs sc r b) = true := h
      rw [Bool.and_eq_true] at h
      have z := ls_cons (sS fx hr cx m h.1 hl.l') (sB fx hr cx r h.2 hl.r')
      exact z
end
end
end Zw
set_option Elab.async false
set_option linter.all false
set_option maxRecDepth 100000
set_option maxHeartbeats 16000000
/-! Zt: defs, lambdas, the def that calls a lambda under a try. -/
namespace Zw
open PySem PySem.Spec PyProof.Rows L2

/-- a def as the fragment has it -/
structure DefI (G : GE) (k : Nat) (x : Str) (st : Stmt) (c : Addr) (ps : List Str) : Prop where
  ex : ∃ (oc : Value) (od : Option Addr) (kV doc pm : Value) (an : Option Addr) (ct : Value) (osl : Array (Option Value)),
    G.K.lookup (G.T k) = some ⟨oc, od, .func (PySem.W.fnOf x x (defArgs st) (defBody st) (defScope st) .none kV doc pm an (.ref c) ct), osl⟩
  cd : PySem.W.codeIn G.K (.ref c) x = true
  kp : PySem.W.keepIn G.K (.ref (G.T k)) = true
  bd : ∀ (kV doc pm : Value) (an : Option Addr) (cdv ct : Value) (us : List Value), us.length = ps.length → bindArgs (PySem.W.fnOf x x (defArgs st) (defBody st) (defScope st) .none kV doc pm an cdv ct) ⟨us, []⟩ = pure (ps.zip us)
/-- how the text's keywords bind -/
def KwI (x : Str) (st : Stmt) (ps : List Str) (m : Nat) (ks : List Str) (perm : List Nat) : Prop :=
  ∀ (kV doc pm : Value) (an : Option Addr) (cdv ct : Value) (us ws : List Value), us.length = m → ws.length = ks.length →
    bindArgs (PySem.W.fnOf x x (defArgs st) (defBody st) (defScope st) .none kV doc pm an cdv ct) ⟨us, ks.zip ws⟩ = pure (ps.zip (perm.map fun i => (us ++ ws).getD i .none))
/-- the def's promise by its tree -/
def defSp (F : Nat → DSp) (S : Nat → Nat → Bool) (n np : Nat) (m : Mb) : DSp := fun ds A Q E => ds.length = np ∧ wpB F S m { nx := fun _ A1 => Q .non A1, rt := Q, bk := fun _ _ => False, ct := fun _ _ => False, ex := fun c p _ A1 => E c p A1 } (startD n ds) A
/-- the lambda's -/
def lamSp (F : Nat → DSp) (S : Nat → Nat → Bool) (n np : Nat) (e : E) : DSp := fun ds A Q E => ds.length = np ∧ (wp F S e).1 (startD n ds) A Q E

/-- the code object of a def and its table -/
structure TabI (G : GE) (x : Str) (c P : Addr) : Prop where
  tb : LamX.TabB G.base G.mg c P
  mem : (P, x ++ ".<locals>." ++ "<lambda>") ∈ G.tabs
  un : ∀ p ∈ G.tabs, p.1 = P → p.2 = x ++ ".<locals>." ++ "<lambda>"

/-! ### the def that calls a lambda under a try -/
def cauB (a here err se : Str) : List Stmt → Bool
  | [.Assign [.Name h1 _] (.Constant .none _ _) _, .Try [.Expr (.Call (.Name a1 _) [] [] _) _] [.ExceptHandler (some (.Name se1 _)) (some err1) [.Assign [.Name h2 _] (.Name err2 _) _] _] [] [] _, .Return (some (.Name h3 _)) _] =>
    decide (h1 = here) && decide (a1 = a) && decide (se1 = se) && decide (err1 = err) && decide (h2 = here) && decide (err2 = err) && decide (h3 = here)
  | _ => false
structure CauI (G : GE) (x : Str) (st : Stmt) (k : Nat) (c0 : Addr) (a here err se : Str) : Prop where
  df : DefI G k x st c0 [a]
  mg : G.mg x = some (.ref (G.T k))
  sg : FnScope [a, here, err] [a] (defScope st)
  bd : cauB a here err se (defBody st) = true
  la : (defScope st).names.lookup a = some .local
  lh : (defScope st).names.lookup here = some .local
  le : (defScope st).names.lookup err = some .local
  ge : (defScope st).names.lookup se = some .globalImplicit
  me : G.mg se = some (.ref (G.T 0))
  ok : okN x = true ∧ okN a = true ∧ okN here = true ∧ okN err = true ∧ okN se = true
theorem noPar_eq {p : Arguments} (h : noPar p = true) : p = ⟨[], [], none, [], [], none, []⟩ := by
  unfold noPar at h
  simp only [Bool.and_eq_true, List.isEmpty_iff, Option.isNone_iff_eq_none] at h
  obtain ⟨⟨⟨⟨⟨⟨h1, h2⟩, h3⟩, h4⟩, h5⟩, h6⟩, h7⟩ := h
  cases p
  simp only at h1 h2 h3 h4 h5 h6 h7
  subst h1 h2 h3 h4 h5 h6 h7
  rfl
section
variable {G : GE} {F : Nat → DSp} {S : Nat → Nat → Bool} {c : Cc} {L : Nat} {X : Cx} {W : WX}
theorem cau_p {x y : Str} {st : Stmt} {k : Nat} {c0 cd P : Addr} {a here err se : Str} (I : CauI G x st k c0 a here err se) (T : TabI G y cd P) (hK : X.K = G.K) (hm : X.mg = G.mg) (hB : X.base = G.base) (hcode : X.env.code = .ref cd) (hq : X.env.qual = y ++ ".<locals>.") (hr : Room (L + 2) X.A) (hg : Gl X x) :
    CauP G X x L := by
  intro params body scope p lpos pos t hL hp hbody
  have hp := noPar_eq hp
  subst hp
  obtain ⟨oc, od, kV, doc, pm, an, ct, osl, lk⟩ := I.df.ex
  obtain ⟨k1, k2, k3, k4, k5⟩ := I.ok
  have hb := I.bd
  have Sg := I.sg
  unfold cauB at hb
  split at hb
  · rename_i h1 q1 j1 q2 q3 a1 q4 q5 q6 se1 q7 err1 h2 q8 err2 q9 q10 q11 q12 h3 q13 q14 ebody
    simp only [Bool.and_eq_true, decide_eq_true_eq] at hb
    obtain ⟨⟨⟨⟨⟨⟨b1, b2⟩, b3⟩, b4⟩, b5⟩, b6⟩, b7⟩ := hb
    subst b1 b2 b3 b4 b5
    have b6 := b6
    subst b6
    subst b7
    have bind : L2.Binds X.K (PySem.W.fnOf x x (defArgs st) (defBody st) (defScope st) .none kV doc pm an (.ref c0) ct) [a1] [] := .all (I.df.bd kV doc pm an (.ref c0) ct)
    rw [ebody] at lk bind
    have z := LamX.pe_lamcall (X := X) (T := G.tabs) (TT := TTc X.K (G.T 0)) (x := x) (a := a1) (g := G.T k) (c := cd) (P := P) (k := L) (params := ⟨[], [], none, [], [], none, []⟩) (body := body) (scope := scope) (t := t) (p := p) (lpos := lpos) (pos := pos)
      hg (by rw [hm]; exact I.mg) (by rw [hK]; exact I.df.kp) (by rw [hK]; exact lk) (by rw [hK]; exact I.df.cd) bind Sg rfl (.inl I.la)
      ?_ (by rw [hB, hm]; exact T.tb) hcode (by rw [hq]; exact T.mem) (by rw [hq]; exact T.un) hr hL rfl (fun _ _ _ _ _ => rfl) hbody (okN_ne k1).1 (okN_ne k2).1 (okN_ne k2).2
    · rw [hK] at z
      exact z
    · exact caught_gives I.ge (by rw [hm]; exact I.me) (okN_ne k5).1 Sg.nd I.la I.lh I.le (okN_ne k3).1 (okN_ne k3).2 (okN_ne k4).1 (okN_ne k4).2
  · exact ff hb
end
end Zw
set_option Elab.async false
set_option linter.all false
set_option maxRecDepth 100000
set_option maxHeartbeats 16000000
/-! Zu: a def keeps its promise; a lambda; the law's end. -/
namespace Zw
open PySem PySem.Spec PyProof.Rows L2

def lamI (q : Str) : Expr → LamI
  | .Lambda p b s _ => ⟨q, p, b, s⟩
  | _ => ⟨q, ⟨[], [], none, [], [], none, []⟩, .Constant .none 0 ⟨0, 0, 0, 0⟩, ⟨.function, [], false, false, []⟩⟩
def lamB : Expr → Bool
  | .Lambda p _ s _ => p.defaults.isEmpty && p.kw_defaults.isEmpty && s.names.all fun y => !decide (y.2 = .free)
  | _ => false
def lamQ (x : Str) : Str := x ++ ".<locals>." ++ "<lambda>"

section
variable {G : GE} {F : Nat → DSp} {S : Nat → Nat → Bool} {c : Cc} {L : Nat}
theorem lams_ok {X : Cx} {W : WX} {x : Str} {cd P : Addr} {ls : List (Nat × Expr)} (hm : X.mg = G.mg) (hB : X.base = G.base) (T : ls ≠ [] → TabI G x cd P) (hcode : X.env.code = .ref cd) (hq : X.env.qual = x ++ ".<locals>.") (h : ∀ p ∈ ls, G.lam p.1 = lamI (lamQ x) p.2 ∧ lamB p.2 = true) :
    LamsOk G X W ls := by
  intro p hp
  have T := T (List.ne_nil_of_mem hp)
  obtain ⟨h1, h2⟩ := h p hp
  obtain ⟨k, e⟩ := p
  have h1 : G.lam k = lamI (lamQ x) e := h1
  have h2 : lamB e = true := h2
  show PE X e _
  cases e with
  | Lambda pr b s pos =>
    have h2 : (pr.defaults.isEmpty && pr.kw_defaults.isEmpty && s.names.all fun y => !decide (y.2 = .free)) = true := h2
    simp only [Bool.and_eq_true, List.isEmpty_iff, List.all_eq_true, Bool.not_eq_true', decide_eq_false_iff_not] at h2
    obtain ⟨⟨d1, d2⟩, d3⟩ := h2
    have z := le_lam (G := G) (X := X) (W := W) (k := k) (c := cd) (P := P) (pos := pos) (by rw [hB, hm]; exact T.tb) hcode (by rw [h1, hq]; rfl) (by rw [h1]; exact T.mem) (by rw [h1]; exact T.un)
      (by
        rw [h1]
        show defaultsOf pr X.env = ([], [])
        cases pr
        simp only at d1 d2
        subst d1 d2
        rfl) (by rw [h1]; exact d3)
    rw [h1] at z
    exact z
  | _ => exact ff h2
theorem def_fn {k : Nat} {x : Str} {st : Stmt} {c0 : Addr} {ps : List Str} {rs : List Nat} {m : Mb} (I : DefI G k x st c0 ps) (Sc : FnScope c.N ps (defScope st)) (hb : isB c rs (defScope st) m (defBody st) = true) (fx : Fx G F S c L) (hr : ∀ k ∈ rs, RsI G k)
    (hc : glB (defScope st) c.cau = true → ∃ st' k' c' a here err se, CauI G c.cau st' k' c' a here err se) (hT : (glB (defScope st) c.cau || !(lamsB m (defBody st)).isEmpty) = true → ∃ P, TabI G x c0 P)
    (hl : ∀ p ∈ lamsB m (defBody st), G.lam p.1 = lamI (lamQ x) p.2 ∧ lamB p.2 = true)
    {oc : Value} {od : Option Addr} {kV doc pm : Value} {an : Option Addr} {ct : Value} {osl : Array (Option Value)} (lk : G.K.lookup (G.T k) = some ⟨oc, od, .func (PySem.W.fnOf x x (defArgs st) (defBody st) (defScope st) .none kV doc pm an (.ref c0) ct), osl⟩) :
    FnOk G.P G.w G.K G.mg G.base (L2.CX G.P G.w) (L + 3) (G.T k) (PySem.W.fnOf x x (defArgs st) (defBody st) (defScope st) .none kV doc pm an (.ref c0) ct) ps (liftSp G (defSp F S c.N.length ps.length m)) := by
  refine fn_of lk I.cd Sc (fun vs H Q E ⟨ι, A, ds, Q0, E0, R, r, h, _⟩ => by rw [← r.len]; exact h.1) ?_
  intro A outer s H vs Q E hroom ⟨ι, A0, ds, Q0, E0, R, r, h, kQ, kE⟩
  have cx : CtxS G c L (defScope st) (cxOf (L2.CX G.P G.w) G.P G.w G.K G.mg G.base c.N x (defScope st) (G.T k) (.ref c0) A outer s H E) (fun cls d _ H => E cls d H) :=
    { prog := rfl, w := rfl, K := rfl, mg := rfl, base := rfl, N := rfl, nd := Sc.nd, sc := rfl, calm := rfl, room := hroom.mono (by omega), tk := takes_of rfl rfl rfl rfl,
      cau := fun _ hg => by
        obtain ⟨st', k', c', a, here, err, se, J⟩ := hc hg
        obtain ⟨P, T⟩ := hT (by rw [show glB (defScope st) c.cau = true from hg]; rfl)
        refine cau_p J T rfl rfl rfl rfl rfl hroom ?_
        have hg : glB (defScope st) c.cau = true := hg
        show (defScope st).names.lookup c.cau = some .globalImplicit
        unfold glB at hg
        simp only [Bool.and_eq_true] at hg
        have hg := hg.1.1
        split at hg
        · assumption
        · exact ff hg
      hp := passes_of rfl, fn := fun _ => rfl, kd := Sc.kind }
  refine ⟨_, sB fx hr cx m hb ?_, ι, A0, startD c.N.length ds, _, R, startD_SR r, h.2, ?_⟩
  · by_cases he : lamsB m (defBody st) = []
    · rw [he]
      exact fun p hp => (List.not_mem_nil hp).elim
    · obtain ⟨P, T⟩ := hT (by
        have : (lamsB m (defBody st)).isEmpty = false := by
          cases e : lamsB m (defBody st) with
          | nil => exact absurd e he
          | cons a b => rfl
        rw [this, Bool.not_false, Bool.or_true])
      exact lams_ok rfl rfl (fun _ => T) rfl rfl hl
  · refine ⟨fun δ' A' q ι' H' σ' s R' Sr' => (kQ _ _ q) ι' H' .non s R' .mkNon, fun v A' q => kQ v A' q, fun _ _ q => q.elim, fun _ _ q => q.elim, fun k p δ' A' q ι' H' cls d σ' s R' Sr' xr => kE k p A' q ι' H' cls d s R' xr⟩
theorem def_ok {k : Nat} {x : Str} {st : Stmt} {c0 : Addr} {ps : List Str} {rs : List Nat} {m : Mb} {kws : List (Nat × List Str × List Nat)} (I : DefI G k x st c0 ps) (Sc : FnScope c.N ps (defScope st)) (hb : isB c rs (defScope st) m (defBody st) = true) (fx : Fx G F S c L) (hr : ∀ k ∈ rs, RsI G k)
    (hc : glB (defScope st) c.cau = true → ∃ st' k' c' a here err se, CauI G c.cau st' k' c' a here err se) (hT : (glB (defScope st) c.cau || !(lamsB m (defBody st)).isEmpty) = true → ∃ P, TabI G x c0 P)
    (hl : ∀ p ∈ lamsB m (defBody st), G.lam p.1 = lamI (lamQ x) p.2 ∧ lamB p.2 = true) (hk : ∀ q ∈ kws, KwI x st ps q.1 q.2.1 q.2.2) : FnI G (L + 3) k (defSp F S c.N.length ps.length m) kws := by
  obtain ⟨oc, od, kV, doc, pm, an, ct, osl, lk⟩ := I.ex
  exact ⟨_, ps, def_fn I Sc hb fx hr hc hT hl lk, I.kp, .all (I.bd kV doc pm an (.ref c0) ct), fun q hq s us ws _ e1 e2 => .of_eq (hk q hq kV doc pm an (.ref c0) ct us ws e1 e2)⟩
theorem no_lams {ls : List (Nat × Expr)} {LT : Nat → LamI} {q : Str} (h : ls.isEmpty = true) : ∀ p ∈ ls, LT p.1 = lamI q p.2 ∧ lamB p.2 = true := fun p hp => by
  rw [List.isEmpty_iff.mp h] at hp
  exact (List.not_mem_nil hp).elim
theorem lam_row {ls : List (Nat × Expr)} {a : Nat} {q : Str} {LT : Nat → LamI} (hr : ls.map (·.1) = List.range' a ls.length) (hT : ∀ j, j < ls.length → LT (a + j) = lamI q (ls.getD j (0, .Constant .none 0 ⟨0, 0, 0, 0⟩)).2) (hb : (ls.all fun p => lamB p.2) = true) :
    ∀ p ∈ ls, LT p.1 = lamI q p.2 ∧ lamB p.2 = true := fun p hp => by
  obtain ⟨j, hj, e⟩ := List.mem_iff_getElem.mp hp
  have e1 : p.1 = a + j := by
    have z : (ls.map (·.1))[j]? = some p.1 := by rw [List.getElem?_map, List.getElem?_eq_getElem hj, e]; rfl
    rw [hr, List.getElem?_range' hj] at z
    have := Option.some.inj z
    omega
  refine ⟨?_, List.all_eq_true.mp hb p hp⟩
  rw [e1, hT j hj, List.getD_eq_getElem?_getD, List.getElem?_eq_getElem hj, e]; rfl
/-- a lambda handed on -/
theorem lam_def {k : Nat} {N ps : List Str} {e : E} (hN : c.N = N) (Sc : NdefX.NScope N ps [] (G.lam k).scope)
    (hb : ∀ (pm cv ctv : Value) (us : List Value), us.length = ps.length → bindArgs (PySem.W.kla_fn "<lambda>" (G.lam k).qual (G.lam k).params (G.lam k).body (G.lam k).scope [] pm cv ctv) ⟨us, []⟩ = pure (ps.zip us))
    (hi : isE c false (G.lam k).scope e (G.lam k).body = true) (fx : Fx G F S c L) : LamOk G (L + 1) k (lamSp F S N.length ps.length e) := by
  subst hN
  refine lam_ok (t := (wp F S e).1) Sc hb (fun ds A Q E h => h.1) (fun f c' A outer s H E hr => ?_) fun ds A Q E h => h.2
  refine (sE fx e hi ⟨rfl, rfl, rfl, rfl, rfl, rfl, Sc.nd, rfl, rfl, hr, takes_of rfl rfl rfl rfl, fun z => by cases z⟩ fun z => by cases z).1
theorem FnI.mono {j k l : Nat} {sp : DSp} {kws : List (Nat × List Str × List Nat)} (h : FnI G j l sp kws) (hl : j ≤ k) : FnI G k l sp kws := by
  obtain ⟨fd, ps, h1, h2, h3, h4⟩ := h
  exact ⟨fd, ps, h1.mono hl, h2, h3, h4⟩
theorem FnI.kw {l : Nat} {sp : DSp} {kws kws' : List (Nat × List Str × List Nat)} (h : FnI G L l sp kws) (hl : ∀ q ∈ kws', q ∈ kws) : FnI G L l sp kws' := by
  obtain ⟨fd, ps, h1, h2, h3, h4⟩ := h
  exact ⟨fd, ps, h1, h2, h3, fun q hq => h4 q (hl q hq)⟩
theorem LamOk.mono {j k l : Nat} {sp : DSp} (h : LamOk G j l sp) (hl : j ≤ k) : LamOk G k l sp := fun f c' A outer s H us vs Q E hr => h f c' A outer s H us vs Q E (hr.mono hl)
end

/-! ### the end -/
/-- the tables that the top has left empty -/
def TabsK (q : Program) (K : PySem.W.Frag) (h : Heap) : Prop := ∀ (x : Str) (c P : Addr), ((recsOf q).any fun e => e.name == x) = true → PySem.W.tabIn K x = some (c, P) → PySem.W.CodeHd h c P ∧ h.get? P = some { cls := .none, data := .fields #[] }
theorem walk_ofAll {l : PySem.W.OpenLaw} {n k : Nat} {q : Program} {loose : List Str} {XP : (Str → Option Value) → Heap → Prop} {YP : World → Heap → Prop} {d : DefRec} {K : Params → PySem.W.Frag} {x : Str}
    (hn : l.most = some n) (hn2 : n ≤ sizeLine) (hdf : d.params.defaults = []) (hr : Room k callerA) (hY : ∀ (w : World) (h : Heap), YP w h → (K w.params).In h)
    (F : ∀ (w : World) (mg : Str → Option Value) (fa : Addr) (h : Heap), (K w.params).In h → h.Ns mainGlobals mg → mg d.name = some (.ref fa) → TabsK q (K w.params) h → LamX.LawAtS l w (K w.params) (L2.CX l.prog w) k n x mg fa h) :
    PySem.W.WalkO q loose XP YP l.row.toRowW d [] (fun f vs => PySem.call f vs) := by
  refine Att.attach_callB hn hdf fun w s₀ s₁ mg mb fa o pm cd doc a vs ns G Y ho hd hcd hmg hobj hints hlen hbits hg => ?_
  have KX := hY w _ Y
  have tabs : TabsK q (K w.params) s₁.heap := fun x c P hx ht => by
    obtain ⟨dL, hm⟩ : ∃ dL, (recsOf q).find? (fun e => e.name == x) = some dL := by
      cases e : (recsOf q).find? (fun e => e.name == x) with
      | some dL => exact ⟨dL, rfl⟩
      | none =>
        obtain ⟨y, h1, h2⟩ := List.any_eq_true.mp hx
        exact absurd h2 (by simpa using List.find?_eq_none.mp e y h1)
    exact PySem.W.tab_of G.T KX hm ht
  obtain ⟨fd, cs, sp, hT, nT, C, hb, hsp, hF⟩ := F w mg fa _ KX G.T.g hmg tabs
  refine LamX.law_callTs KX G.T.g G.T.b G.T.builtins G.T.nolimit hg hT nT C G.T.bmain hobj hints (Nat.le_trans hlen hn2) hr hF hb (fun H hH hS => hsp H a ns hlen hbits hH hS) fun H e s' => ?_
  rintro ⟨_, _, _, _, _, _, _, _, _, _, _, _, z⟩
  exact z
end Zw
set_option Elab.async false
set_option linter.all false
set_option maxRecDepth 100000
set_option maxHeartbeats 16000000
/-! Zv: the facts of a law's fragment by one look, the law's end. -/
namespace Zw
open PySem PySem.Spec PyProof.Rows L2

def mkG (P : Program) (w : World) (K : PySem.W.Frag) (mg : Str → Option Value) (base : Heap) (T : List Addr) (tabs : List (Addr × Str)) (LT : Nat → LamI) (xs : List (Nat × Str)) : GE := ⟨P, w, K, mg, base, fun i => T.getD i 0, tabs, fun k => (xs.lookup k).getD "", LT⟩
/-- the classes 0 .. n - 1 of the text, all below the first one -/
def subN (n : Nat) : Nat → Nat → Bool := fun j k => decide (j < n) && decide (k < n) && (decide (j = k) || decide (k = 0))
def veM : List Value := [.type "ValueError", .type "Exception", .type "BaseException", .type "object"]
/-- a class -/
def clsB (K : PySem.W.Frag) (a : Addr) (own : Bool) : Bool :=
  (own || PySem.W.excIn K a veM "ValueError.__new__") && PySem.W.keepIn K (.ref a) && (PySem.W.subIn K (.ref a) (.type "BaseException") == some true) && (PySem.W.typeIn K (.ref a) == some (.type "type")) &&
  ((PySem.W.findIn K (.ref a) "__getattribute__" == some (some (.builtin "BaseException.__getattribute__"))) && (PySem.W.findIn K (.ref a) "__getattr__" == some none) && PySem.W.hasDictIn K a &&
    (PySem.W.findIn K (.ref a) "__class__" == some (some (.builtin "object.__class__"))) && (PySem.W.specialIn K (.builtin "object.__class__") "__get__" == some (some (.builtin "getset_descriptor.__get__"))) &&
    (PySem.W.takesIn K (.builtin "object.__class__") == some true) && (PySem.W.mroIn K a (.type "object") == some true))
/-- a class with an own __init__ that keeps an attribute -/
def oexB (K : PySem.W.Frag) (C : Addr) : Bool := match K.lookup C with
  | some ⟨.type "type", _, .cls cd, sl⟩ => (match cd.mro, sl.toList with
    | .ref C' :: bm, [_, _, _, _, some (.builtin n), _] => C' == C && n == "ValueError.__new__" && !cd.hasDel && cd.hasDict && PySem.HandSPX.refsVE bm
    | _, _ => false)
  | _ => false
def fdB (P : Program) (K : PySem.W.Frag) (C : Addr) (f : Str) (fd : FuncData) : Bool :=
  match fd.params, fd.body, fd.code, fd.closure.lookup ("__class__" : Str) with
  | ⟨[], [⟨s, none, _⟩, ⟨y, none, _⟩], none, [], [], none, []⟩, .stmts body, .ref cda, some cc =>
    attB f y body && decide (s = "self") && (match fd.defaults with | .none => true | _ => false) && decide (y ≠ ("self" : Str)) && !(y == ("__debug__" : Str)) && decide (fd.globals = mainGlobals) && decide (fd.builtins = builtinsNs) &&
    PySem.W.codeIn K (.ref cda) fd.qualname && !fd.scope.isCoroutine && !fd.scope.isGenerator && decide (fd.scope.kind = .function) && fd.scope.names.all (fun x => decide (x.2 ≠ .cell)) &&
    decide (fd.scope.names.lookup ("self" : Str) = some .local) && decide (fd.scope.names.lookup y = some .local) && decide (fd.scope.names.lookup ("super" : Str) = some .globalImplicit) && decide (fd.scope.names.lookup ("__class__" : Str) = some .free) &&
    (match K.lookup cc with | some ⟨_, _, .cell (some (.ref C')), _⟩ => C' == C | _ => false) &&
    (match K.lookup cda with | some ⟨_, _, .fields vs, _⟩ => (match (vs[2]? : Option Value) with | some (Value.str file _) => P.main.file == file | _ => false) | _ => false) && !(P.main.scope.names.lookup ("super" : Str)).isSome
  | _, _, _, _ => false
def iniB (P : Program) (K : PySem.W.Frag) (C : Addr) (f : Str) : Bool := match PySem.W.findIn K (.ref C) "__init__" with
  | some (some (.ref fI)) => (PySem.W.typeIn K (.ref fI) == some (.type "function")) && (match K.lookup fI with | some ⟨_, _, .func fd, _⟩ => fdB P K C f fd | _ => false)
  | _ => false
def attOk (P : Program) (K : PySem.W.Frag) (C : Addr) (f : Str) : Bool :=
  oexB K C && (PySem.W.findIn K (.ref C) "__setattr__" == some (some (.builtin "object.__setattr__"))) && (PySem.W.subIn K (.ref C) (.type "BaseException") == some true) && (PySem.W.typeIn K (.ref C) == some (.type "type")) && PySem.W.keepIn K (.ref C) &&
  (PySem.W.findIn K (.ref C) f == some none) && (PySem.W.ks_superIn K C C "__init__" == some (some (.builtin "ValueError.__init__"))) && (PySem.W.subIn K (.ref C) (.type "ValueError") == some true) && (PySem.W.mroIn K C (.ref C) == some true) &&
  (PySem.W.nsIn K cStatics "thirdparty.any" == some none) && (PySem.W.nsIn K mainGlobals "super" == some none) && iniB P K C f && xfB K C
theorem oexB_ok {K : PySem.W.Frag} {C : Addr} (h : oexB K C = true) : ∃ nm q N bs bm sn sub ab col dd k0 k1 k2 k3 k5, K.lookup C = some (excClassObj nm q C N bs bm true sn sub ab col dd k0 k1 k2 k3 k5 "ValueError.__new__") ∧ PySem.HandSPX.refsVE bm = true := by
  unfold oexB at h
  split at h
  · rename_i dd cd sl ho
    split at h
    · rename_i C' bm a b c d n e hm hs
      simp only [Bool.and_eq_true, beq_iff_eq, Bool.not_eq_true'] at h
      obtain ⟨⟨⟨⟨h1, h2⟩, h3⟩, h4⟩, h5⟩ := h
      subst h1 h2
      obtain ⟨nm, bs, mro, ns, qn, hd, sn, sb, ab, col, del⟩ := cd
      dsimp only at hm h3 h4
      subst hm h3 h4
      have es : sl = #[a, b, c, d, some (.builtin "ValueError.__new__"), e] := by
        apply Array.toList_inj.mp
        rw [hs]
      subst es
      exact ⟨_, _, _, _, _, _, _, _, _, _, _, _, _, _, _, ho, h5⟩
    · exact ff h
  · exact ff h
theorem fdB_ok {P : Program} {K : PySem.W.Frag} {C fI : Addr} {f : Str} {fd : FuncData} (h : fdB P K C f fd = true) : ∃ y, IniI P K C f y fd fI := by
  unfold fdB at h
  split at h
  · rename_i s q1 y q2 body cda cc e1 e2 e3 e4
    simp only [Bool.and_eq_true, decide_eq_true_eq, Bool.not_eq_true', List.all_eq_true] at h
    obtain ⟨⟨⟨⟨⟨⟨⟨⟨⟨⟨⟨⟨⟨⟨⟨⟨⟨⟨h1, h2⟩, h3⟩, h4⟩, h5⟩, h6⟩, h7⟩, h8⟩, h9⟩, h10⟩, h11⟩, h12⟩, h13⟩, h14⟩, h15⟩, h16⟩, h17⟩, h18⟩, h19⟩ := h
    subst h2
    refine ⟨y, ⟨body, e2, h1⟩, ⟨q1, q2, e1⟩, ?_, h4, h5, h6, h7, by rw [e3]; exact h8, h9, h10, h11, h12, h13, h14, h15, h16, ?_, ?_, h19⟩
    · split at h3
      · assumption
      · exact ff h3
    · split at h17
      · rename_i cv cdd C' csl ho
        have e := beq_iff_eq.mp h17
        subst e
        exact ⟨cc, cv, cdd, csl, e4, ho⟩
      · exact ff h17
    · split at h18
      · rename_i u v vs sl ho
        split at h18
        · rename_i file tf hv
          exact ⟨cda, u, v, vs, sl, file, tf, e3, ho, hv, h18⟩
        · exact ff h18
      · exact ff h18
  · exact ff h
theorem attOk_ok {P : Program} {K : PySem.W.Frag} {C : Addr} {f : Str} (h : attOk P K C f = true) : AttI P K C f ∧ XfC K C := by
  unfold attOk at h
  simp only [Bool.and_eq_true, beq_iff_eq] at h
  obtain ⟨⟨⟨⟨⟨⟨⟨⟨⟨⟨⟨⟨h1, h2⟩, h3⟩, h4⟩, h5⟩, h6⟩, h7⟩, h8⟩, h9⟩, h10⟩, h11⟩, h12⟩, h13⟩ := h
  refine ⟨⟨⟨oexB_ok h1, h2, h3, h4, h5⟩, h6, h7, h8, h9, h10, h11, ?_⟩, xfB_ok h13⟩
  unfold iniB at h12
  split at h12
  · rename_i fI hf
    rw [Bool.and_eq_true, beq_iff_eq] at h12
    obtain ⟨t1, t2⟩ := h12
    split at t2
    · rename_i oc od fd sl ho
      obtain ⟨y, I⟩ := fdB_ok (fI := fI) t2
      exact ⟨fI, oc, od, fd, sl, y, hf, t1, ho, I⟩
    · exact ff t2
  · exact ff h12
/-- a global tuple of texts -/
def isStrs : List Str → List Value → Bool
  | [], [] => true
  | s :: ss, .str x _ :: vs => decide (x = s) && isStrs ss vs
  | _, _ => false
def gtOk (K : PySem.W.Frag) (a : Addr) (ss : List Str) : Bool := match K.lookup a with
  | some ⟨.type t, _, .seq its _, _⟩ => t == "tuple" && decide (its.size ≤ sizeLine) && isStrs ss its.toList
  | _ => false
def gtsB (K : PySem.W.Frag) (T : List Addr) (gs : List (Nat × List Str)) : Bool := gs.all fun p => gtOk K (T.getD p.1 0) p.2
theorem isStrs_ok : ∀ {ss : List Str} {vs : List Value}, isStrs ss vs = true → Vals (ss.map V.str) vs
  | [], [], _ => .nil
  | [], _ :: _, h => by cases h
  | _ :: _, [], h => by cases h
  | s :: ss, v :: vs, h => by
    cases v <;> first | (cases h; done) | skip
    rename_i x t
    have h : (decide (x = s) && isStrs ss vs) = true := h
    rw [Bool.and_eq_true, decide_eq_true_eq] at h
    exact .cons ⟨t, by rw [h.1]⟩ (isStrs_ok h.2)
def tyNames : List String := ["int", "bool", "str", "tuple", "list", "dict"]
/-- the kinships -/
def kinB (P : Program) (K : PySem.W.Frag) (T : List Addr) (n : Nat) (xs : List (Nat × Str)) : Bool :=
  (tyAll.all fun m => tyNames.all fun t => PySem.W.kitOne K (.type m) (.type t) == some (subT (subN n) (.b m) (.b t))) &&
  (tyAll.all fun m => (List.range n).all fun k => PySem.W.kitOne K (.type m) (.ref (T.getD k 0)) == some false) &&
  ((List.range n).all fun j => tyNames.all fun t => PySem.W.kitOne K (.ref (T.getD j 0)) (.type t) == some false) &&
  ((List.range n).all fun j => (List.range n).all fun k => PySem.W.kitOne K (.ref (T.getD j 0)) (.ref (T.getD k 0)) == some (subN n j k)) &&
  ((List.range n).all fun j => PySem.W.exmOne K (.ref (T.getD j 0)) (.ref (T.getD 0 0)) == some true) && ((List.range n).all fun j => clsB K (T.getD j 0) (xs.lookup j).isSome) && (xs.all fun p => decide (xs.lookup p.1 = some p.2) && attOk P K (T.getD p.1 0) p.2)
def glbB (K : PySem.W.Frag) (T : List Addr) (GL : List (Str × Nat)) : Bool :=
  (GL.all fun p => PySem.W.nsIn K mainGlobals p.1 == some (some (.ref (T.getD p.2 0)))) && (bltNames.all fun x => PySem.W.nsIn K mainGlobals x == some none)
def defsB (K : PySem.W.Frag) (ds : List (Addr × Addr × Str)) : Bool := ds.all fun d => PySem.W.codeIn K (.ref d.2.1) d.2.2 && PySem.W.keepIn K (.ref d.1)
def dsOf (T : List Addr) (dl : List (Nat × Addr × Str)) : List (Addr × Addr × Str) := dl.map fun p => (T.getD p.1 0, p.2)
/-- code objects, tables, names -/
def csB (q : Program) (K : PySem.W.Frag) (cs : List (Addr × Addr × Str)) : Bool :=
  (cs.all fun p => ((recsOf q).any fun e => e.name == p.2.2) && decide (PySem.W.tabIn K p.2.2 = some (p.1, p.2.1)) && (K.lookup p.2.1).isNone) && decide (cs.map (·.2.1)).Nodup
def tabsOf (cs : List (Addr × Addr × Str)) : List (Addr × Str) := cs.map fun p => (p.2.1, lamQ p.2.2)
theorem rng_all {n : Nat} {f : Nat → Bool} (h : (List.range n).all f = true) {j : Nat} (hj : j < n) : f j = true := List.all_eq_true.mp h j (List.mem_range.mpr hj)

section
variable {P : Program} {w : World} {K : PySem.W.Frag} {mg : Str → Option Value} {base h : Heap} {T : List Addr} {tabs : List (Addr × Str)} {LT : Nat → LamI} {xs : List (Nat × Str)} {n : Nat} {GL : List (Str × Nat)}
theorem cls_of (hk : kinB P K T n xs = true) {j : Nat} (hj : j < n) : clsB K (T.getD j 0) (xs.lookup j).isSome = true ∧ PySem.W.exmOne K (.ref (T.getD j 0)) (.ref (T.getD 0 0)) = some true := by
  unfold kinB at hk
  simp only [Bool.and_eq_true] at hk
  obtain ⟨⟨⟨⟨⟨⟨_, _⟩, _⟩, _⟩, h5⟩, h6⟩, _⟩ := hk
  exact ⟨rng_all h6 hj, beq_iff_eq.mp (rng_all h5 hj)⟩
theorem att_of (hk : kinB P K T n xs = true) {p : Nat × Str} (hp : p ∈ xs) : AttI P K (T.getD p.1 0) p.2 ∧ XfC K (T.getD p.1 0) ∧ xs.lookup p.1 = some p.2 := by
  unfold kinB at hk
  simp only [Bool.and_eq_true] at hk
  obtain ⟨_, h7⟩ := hk
  have z := List.all_eq_true.mp h7 p hp
  rw [Bool.and_eq_true, decide_eq_true_eq] at z
  exact ⟨(attOk_ok z.2).1, (attOk_ok z.2).2, z.1⟩
theorem exc_of (hk : kinB P K T n xs = true) {j : Nat} (hj : j < n) : ExcC K (T.getD j 0) ∧ PySem.W.exmOne K (.ref (T.getD j 0)) (.ref (T.getD 0 0)) = some true := by
  obtain ⟨c, e⟩ := cls_of hk hj
  unfold clsB at c
  simp only [Bool.and_eq_true, beq_iff_eq] at c
  obtain ⟨⟨⟨⟨c1, c2⟩, c3⟩, c4⟩, ⟨⟨⟨⟨⟨⟨d1, d2⟩, d3⟩, d4⟩, d5⟩, d6⟩, d7⟩⟩ := c
  exact ⟨⟨d1, d2, c3, d3, d4, d5, d6, d7⟩, e⟩
theorem rsi_of (hk : kinB P K T n xs = true) {j : Nat} (hj : j < n) (hl : j < 1000) (hx : (xs.lookup j).isSome = false) : RsI (mkG P w K mg base T tabs LT xs) j := by
  obtain ⟨c, e⟩ := cls_of hk hj
  unfold RsI
  rw [if_pos hl]
  rw [hx] at c
  unfold clsB at c
  simp only [Bool.and_eq_true, beq_iff_eq, Bool.false_or] at c
  obtain ⟨⟨⟨⟨c1, c2⟩, c3⟩, c4⟩, _⟩ := c
  exact ⟨_, _, _, _, PySem.F.excBase_ValueError, c1, c2, c3, c4⟩
theorem rsa_of (hk : kinB P K T n xs = true) {p : Nat × Str} (hp : p ∈ xs) : RsI (mkG P w K mg base T tabs LT xs) (p.1 + 1000) := by
  obtain ⟨a, _, l⟩ := att_of hk hp
  unfold RsI
  rw [if_neg (by omega), Nat.add_sub_cancel]
  show AttI P K (T.getD p.1 0) ((xs.lookup p.1).getD "")
  rw [l]
  exact a
theorem kin_of (hk : kinB P K T n xs = true) {t : TyT} (ht : (match t with | .b x => decide (x ∈ tyNames) | .c k => decide (k < n)) = true) : Kin (mkG P w K mg base T tabs LT xs) (subN n) (List.range n) t := by
  have hk' := hk
  unfold kinB at hk
  simp only [Bool.and_eq_true] at hk
  obtain ⟨⟨⟨⟨⟨⟨h1, h2⟩, h3⟩, h4⟩, h5⟩, h6⟩, _⟩ := hk
  cases t with
  | b x =>
    have hx : x ∈ tyNames := of_decide_eq_true ht
    refine ⟨fun m hm => beq_iff_eq.mp (List.all_eq_true.mp (List.all_eq_true.mp h1 m hm) x hx), fun k hk => ?_⟩
    have hk := List.mem_range.mp hk
    exact ⟨(exc_of hk' hk).1, beq_iff_eq.mp (List.all_eq_true.mp (rng_all h3 hk) x hx)⟩
  | c k =>
    have hk0 : k < n := of_decide_eq_true ht
    refine ⟨fun m hm => beq_iff_eq.mp (rng_all (List.all_eq_true.mp h2 m hm) hk0), fun j hj => ?_⟩
    have hj := List.mem_range.mp hj
    exact ⟨(exc_of hk' hj).1, beq_iff_eq.mp (rng_all (rng_all h4 hj) hk0)⟩
/-- what a def's context asks of the text: the parts that are alike for all defs -/
theorem fx_of {gs : List (Nat × List Str)} {F : Nat → DSp} {c : Cc} {L : Nat} (X : K.In h) (Gn : h.Ns mainGlobals mg) (hk : kinB P K T n xs = true) (hg : glbB K T GL = true) (e1 : c.gl = GL) (ht : gtsB K T gs = true) (e5 : (c.gts.all fun p => decide (p ∈ gs)) = true) (e2 : c.exs = List.range n) (e4 : (c.xns.all fun p => decide (p ∈ xs)) = true) (e3 : (c.tys.all fun t => match t with | .b x => decide (x ∈ tyNames) | .c k => decide (k < n)) = true)
    (fn : ∀ k ∈ c.av, FnI (mkG P w K mg base T tabs LT xs) L k (F k) ((c.kw.filter fun q => decide (q.1 = k)).map (·.2))) (lam : ∀ k ∈ c.lams, LamOk (mkG P w K mg base T tabs LT xs) L k (F k)) : Fx (mkG P w K mg base T tabs LT xs) F (subN n) c L := by
  have hg' := hg
  unfold glbB at hg
  rw [Bool.and_eq_true] at hg
  refine ⟨fun x k e => ?_, fn, fun x hx => PySem.W.mg_none_of X Gn (beq_iff_eq.mp (List.all_eq_true.mp hg.2 x hx)), fun t ht => ?_, lam, fun k hk2 => ?_, fun p hp => ?_, fun p hp => ?_⟩
  · rw [e1] at e
    exact PySem.W.mg_of X Gn (beq_iff_eq.mp (List.all_eq_true.mp hg.1 (x, k) (PySem.mem_of_lookup e)))
  · rw [e2]
    exact kin_of hk (List.all_eq_true.mp e3 t ht)
  · unfold subN at hk2
    simp only [Bool.and_eq_true, decide_eq_true_eq] at hk2
    exact (exc_of hk hk2.1.1).2
  · obtain ⟨a, b, l⟩ := att_of hk (of_decide_eq_true (List.all_eq_true.mp e4 p hp))
    refine ⟨b, a.fr, ?_⟩
    show (xs.lookup p.1).getD "" = p.2
    rw [l]
    rfl
  · have z := List.all_eq_true.mp ht p (of_decide_eq_true (List.all_eq_true.mp e5 p hp))
    unfold gtOk at z
    split at z
    · rename_i t d its m sl ho
      simp only [Bool.and_eq_true, beq_iff_eq, decide_eq_true_eq] at z
      obtain ⟨⟨z1, z2⟩, z3⟩ := z
      subst z1
      exact ⟨_, its, m, ho, rfl, rfl, z2, isStrs_ok z3⟩
    · exact ff z
theorem glb_mg (X : K.In h) (Gn : h.Ns mainGlobals mg) (hg : glbB K T GL = true) {x : Str} {k : Nat} (e : GL.lookup x = some k) : mg x = some (.ref (T.getD k 0)) := by
  unfold glbB at hg
  rw [Bool.and_eq_true] at hg
  exact PySem.W.mg_of X Gn (beq_iff_eq.mp (List.all_eq_true.mp hg.1 (x, k) (PySem.mem_of_lookup e)))
theorem def_of {k : Nat} {x : Str} {st : Stmt} {c : Addr} {ps : List Str} {oc : Value} {od : Option Addr} {kV doc pm : Value} {an : Option Addr} {ct : Value} {osl : Array (Option Value)} {ds : List (Nat × Addr × Str)}
    (l : K.lookup (T.getD k 0) = some ⟨oc, od, .func (PySem.W.fnOf x x (defArgs st) (defBody st) (defScope st) .none kV doc pm an (.ref c) ct), osl⟩) (hd : defsB K (dsOf T ds) = true) (hm : (k, c, x) ∈ ds)
    (bd : ∀ (kV doc pm : Value) (an : Option Addr) (cdv ct : Value) (us : List Value), us.length = ps.length → bindArgs (PySem.W.fnOf x x (defArgs st) (defBody st) (defScope st) .none kV doc pm an cdv ct) ⟨us, []⟩ = pure (ps.zip us)) : DefI (mkG P w K mg base T tabs LT xs) k x st c ps := by
  have z := List.all_eq_true.mp hd (T.getD k 0, c, x) (List.mem_map.mpr ⟨_, hm, rfl⟩)
  rw [Bool.and_eq_true] at z
  exact ⟨⟨oc, od, kV, doc, pm, an, ct, osl, l⟩, z.1, z.2, bd⟩
theorem lam_defT {F : Nat → DSp} {S : Nat → Nat → Bool} {c : Cc} {L k : Nat} {N ps : List Str} {e : E} (hN : c.N = N) (Sc : NdefX.NScope N ps [] (LT k).scope)
    (hb : ∀ (pm cv ctv : Value) (us : List Value), us.length = ps.length → bindArgs (PySem.W.kla_fn "<lambda>" (LT k).qual (LT k).params (LT k).body (LT k).scope [] pm cv ctv) ⟨us, []⟩ = pure (ps.zip us))
    (hi : isE c false (LT k).scope e (LT k).body = true) (fx : Fx (mkG P w K mg base T tabs LT xs) F S c L) : LamOk (mkG P w K mg base T tabs LT xs) (L + 1) k (lamSp F S N.length ps.length e) :=
  lam_def (G := mkG P w K mg base T tabs LT xs) hN Sc hb hi fx
theorem def_fnT {F : Nat → DSp} {S : Nat → Nat → Bool} {c : Cc} {L k : Nat} {x : Str} {st : Stmt} {c0 : Addr} {ps : List Str} {rs : List Nat} {m : Mb} (I : DefI (mkG P w K mg base T tabs LT xs) k x st c0 ps) (Sc : FnScope c.N ps (defScope st)) (hb : isB c rs (defScope st) m (defBody st) = true) (fx : Fx (mkG P w K mg base T tabs LT xs) F S c L)
    (hr : ∀ k ∈ rs, RsI (mkG P w K mg base T tabs LT xs) k) (hc : glB (defScope st) c.cau = true → ∃ st' k' c' a here err se, CauI (mkG P w K mg base T tabs LT xs) c.cau st' k' c' a here err se) (hT : (glB (defScope st) c.cau || !(lamsB m (defBody st)).isEmpty) = true → ∃ P', TabI (mkG P w K mg base T tabs LT xs) x c0 P')
    (hl : ∀ p ∈ lamsB m (defBody st), LT p.1 = lamI (lamQ x) p.2 ∧ lamB p.2 = true)
    {oc : Value} {od : Option Addr} {kV doc pm : Value} {an : Option Addr} {ct : Value} {osl : Array (Option Value)} (lk : K.lookup (T.getD k 0) = some ⟨oc, od, .func (PySem.W.fnOf x x (defArgs st) (defBody st) (defScope st) .none kV doc pm an (.ref c0) ct), osl⟩) :
    FnOk P w K mg base (L2.CX P w) (L + 3) (T.getD k 0) (PySem.W.fnOf x x (defArgs st) (defBody st) (defScope st) .none kV doc pm an (.ref c0) ct) ps (liftSp (mkG P w K mg base T tabs LT xs) (defSp F S c.N.length ps.length m)) :=
  def_fn (G := mkG P w K mg base T tabs LT xs) I Sc hb fx hr hc hT hl lk
theorem nodup_at {cs : List (Addr × Addr × Str)} (h : (cs.map (·.2.1)).Nodup) {p r : Addr × Addr × Str} (hp : p ∈ cs) (hr : r ∈ cs) (e : p.2.1 = r.2.1) : p = r := by
  induction cs with
  | nil => cases hp
  | cons a l ih =>
    rw [List.map_cons, List.nodup_cons] at h
    rcases List.mem_cons.mp hp with z | z
    · rcases List.mem_cons.mp hr with y | y
      · rw [z, y]
      · exact absurd (List.mem_map.mpr ⟨r, y, by rw [← e, z]⟩) h.1
    · rcases List.mem_cons.mp hr with y | y
      · exact absurd (List.mem_map.mpr ⟨p, z, by rw [e, y]⟩) h.1
      · exact ih h.2 z y
theorem tab_of_cs {q : Program} {cs : List (Addr × Addr × Str)} (hc : csB q K cs = true) (TB : ∀ p ∈ cs.map (fun p => (p.1, p.2.1)), LamX.TabB base mg p.1 p.2) {p : Addr × Addr × Str} (hp : p ∈ cs) : TabI (mkG P w K mg base T (tabsOf cs) LT xs) p.2.2 p.1 p.2.1 := by
  unfold csB at hc
  rw [Bool.and_eq_true, decide_eq_true_eq] at hc
  refine ⟨TB (p.1, p.2.1) (List.mem_map.mpr ⟨p, hp, rfl⟩), List.mem_map.mpr ⟨p, hp, rfl⟩, fun r hr e => ?_⟩
  obtain ⟨r', hr', er⟩ := List.mem_map.mp hr
  subst er
  rw [nodup_at hc.2 hr' hp e]
  rfl
end
/-- the script as the law gets it -/
def Start (ns : List Int) (d : D) (A : AH) : Prop := (d = .ref 0 ∧ A = [.lst (ns.map .int)]) ∨ (d = .rol (ns.map .int) ∧ A = [])
theorem ints_VRs {G : GE} {ι : List Addr} {H : Hp} : ∀ ns : List Int, VRs G ι H (ns.map .int) (ns.map V.int)
  | [] => VRs.nil
  | n :: ns => VRs.cons .mkInt (ints_VRs ns)
theorem law_at {l : PySem.W.OpenLaw} {q : Program} {w : World} {K : PySem.W.Frag} {mg : Str → Option Value} {fa : Addr} {h : Heap} {n kk : Nat} {x : Str} {T : List Addr} {LT : Nat → LamI} {xs : List (Nat × Str)} {cs : List (Addr × Addr × Str)} {spD : DSp} {fd : FuncData} (tk : TabsK q K h) (hc : csB q K cs = true)
    (hb : ∀ (s : Shared) (u : Value), BindsTo s fd ⟨[u], []⟩ [(x, u)])
    (hF : ∀ base : Heap, K.In base → base.Ns mainGlobals mg → (∀ p ∈ cs, TabI (mkG l.prog w K mg base T (tabsOf cs) LT xs) p.2.2 p.1 p.2.1) → FnOk l.prog w K mg base (L2.CX l.prog w) kk fa fd [x] (liftSp (mkG l.prog w K mg base T (tabsOf cs) LT xs) spD))
    (hS : ∀ (ns : List Int) (d : D) (A : AH), ns.length ≤ n → (∀ z ∈ ns, Builtin.Int.intBits z ≤ 1048576) → Start ns d A → spD [d] A (fun v _ => v = .bl true) fun _ _ _ => False) : LamX.LawAtS l w K (L2.CX l.prog w) kk n x mg fa h := by
  have hc' := hc
  unfold csB at hc
  simp only [Bool.and_eq_true, List.all_eq_true, decide_eq_true_eq] at hc
  have at_ : ∀ p ∈ cs.map (fun p => (p.1, p.2.1)), PySem.W.CodeHd h p.1 p.2 ∧ h.get? p.2 = some { cls := .none, data := .fields #[] } ∧ K.lookup p.2 = none := fun p hp => by
    obtain ⟨r, hr, e⟩ := List.mem_map.mp hp
    subst e
    obtain ⟨⟨h1, h2⟩, h3⟩ := hc.1 r hr
    obtain ⟨t1, t2⟩ := tk r.2.2 r.1 r.2.1 h1 h2
    exact ⟨t1, t2, Option.isNone_iff_eq_none.mp h3⟩
  refine ⟨fd, cs.map (fun p => (p.1, p.2.1)), fun vs H Q E => ∀ base, liftSp (mkG l.prog w K mg base T (tabsOf cs) LT xs) spD vs H Q E, fun p hp => (at_ p hp).2.1, fun p hp => (at_ p hp).2.2, fun p hp => (at_ p hp).1, hb, fun H a ns hl hbits hT hS2 base => ?_, fun base kb nb TB =>
    (hF base kb nb fun p hp => tab_of_cs hc' TB hp).imp fun vs H Q E z => z base⟩
  have tabs : LamX.Tabs (tabsOf cs) H := fun p hp => by
    obtain ⟨r, hr, e⟩ := List.mem_map.mp hp
    subst e
    exact ⟨#[], hT (r.1, r.2.1) (List.mem_map.mpr ⟨r, hr, rfl⟩), True.intro, fun pos cv e => by cases e⟩
  have fin : ∀ (ι : List Addr) (A : AH) (d : D), Start ns d A → Rep (mkG l.prog w K mg base T (tabsOf cs) LT xs) ι A H → VRs (mkG l.prog w K mg base T (tabsOf cs) LT xs) ι H [d] [.ref a] → liftSp (mkG l.prog w K mg base T (tabsOf cs) LT xs) spD [.ref a] H (fun v _ => v = .bl true) fun _ _ _ => False := fun ι A d st R r =>
    ⟨ι, A, [d], _, _, R, r, hS ns d A hl hbits st, fun d A' e ι' H' v _ _ rv => by
      subst e
      exact rv.bl, fun _ _ _ z => z.elim⟩
  have ro : SqI K H a (ns.map V.int) → liftSp (mkG l.prog w K mg base T (tabsOf cs) LT xs) spD [.ref a] H (fun v _ => v = .bl true) fun _ _ _ => False := fun z =>
    fin [] [] (.rol (ns.map .int)) (.inr ⟨rfl, rfl⟩) ⟨rfl, List.nodup_nil, (fun i c e => by simp at e), tabs⟩ (VRs.cons (by unfold VR; exact ⟨a, _, rfl, z, ints_VRs ns⟩) VRs.nil)
  rcases hS2 with (z | ⟨o, z⟩) | z
  · refine fin [a] [.lst (ns.map .int)] (.ref 0) (.inl ⟨rfl, rfl⟩) ⟨rfl, by simp, fun i c e => ?_, tabs⟩ (VRs.cons (.mkRef rfl) VRs.nil)
    cases i with
    | zero =>
      cases (show Cell.lst (ns.map .int) = c from Option.some.inj e)
      exact ⟨a, rfl, _, z, ints_VRs ns⟩
    | succ i => simp at e
  · exact ro (.inl ⟨o, z⟩)
  · exact ro (.inr z)
end Zw
set_option Elab.async false
set_option linter.all false
set_option maxRecDepth 100000
set_option maxHeartbeats 4000000
/-! Zx: how wishes are read by simp. -/
namespace Zw
open PySem
@[simp] theorem opt_s {α : Type} {a : α} {k : α → Prop} : opt (some a) k = k a := rfl
@[simp] theorem opt_n {α : Type} {k : α → Prop} : opt (none : Option α) k = False := rfl
@[simp] theorem getS_z {d : D} {r : DSt} : getS (some d :: r) 0 = some d := rfl
@[simp] theorem getS_zn {r : DSt} : getS (none :: r) 0 = none := rfl
@[simp] theorem getS_c {x : Option D} {r : DSt} {n : Nat} : getS (x :: r) (n + 1) = getS r n := rfl
@[simp] theorem startD_e {n : Nat} : startD n [] = List.replicate n none := by unfold startD; simp
@[simp] theorem startD_c {n : Nat} {d : D} {ds : List D} : startD (n + 1) (d :: ds) = some d :: startD n ds := by unfold startD; simp
/-- a number, not True or False -/
def isIntD : D → Bool
  | .int _ => true
  | _ => false
def isBoolD : D → Bool
  | .bl _ => true
  | _ => false
def isTupD : D → Bool
  | .tup _ => true
  | _ => false
@[simp] theorem isIntD_int {i : Int} : isIntD (.int i) = true := rfl
/-- a value of the built-in kinds -/
def okD (A : AH) (d : D) : Prop := ∃ n, tyD A d = some (.b n)
theorem ty_cases {A : AH} {d : D} {n : String} (h : tyD A d = some (.b n)) : (n = "int" ↔ isIntD d = true) ∧ (n = "bool" ↔ isBoolD d = true) ∧ (n = "tuple" ↔ isTupD d = true) := by
  cases d with
  | ref i =>
    unfold tyD at h
    cases e : A[i]? with
    | none => simp [e] at h
    | some c => cases c <;> simp [e] at h <;> subst h <;> simp [isIntD, isBoolD, isTupD]
  | exc c p => cases p <;> cases h
  | _ => first | (cases h; done) | (cases h; simp [isIntD, isBoolD, isTupD])
theorem si {A : AH} {d : D} {S : Nat → Nat → Bool} {n : String} (h : tyD A d = some (.b n)) : subT S (.b n) (.b "int") = (isIntD d || isBoolD d) := by
  obtain ⟨h1, h2, _⟩ := ty_cases h
  show (n == "int" || (n == "bool" && "int" == "int")) = _
  rw [Bool.eq_iff_iff]; simp [h1, h2]
theorem sb {A : AH} {d : D} {S : Nat → Nat → Bool} {n : String} (h : tyD A d = some (.b n)) : subT S (.b n) (.b "bool") = isBoolD d := by
  obtain ⟨h1, h2, _⟩ := ty_cases h
  show (n == "bool" || (n == "bool" && "bool" == "int")) = _
  rw [Bool.eq_iff_iff]; simp [h2]
theorem st_ {A : AH} {d : D} {S : Nat → Nat → Bool} {n : String} (h : tyD A d = some (.b n)) : subT S (.b n) (.b "tuple") = isTupD d := by
  obtain ⟨h1, h2, h3⟩ := ty_cases h
  show (n == "tuple" || (n == "bool" && "tuple" == "int")) = _
  rw [Bool.eq_iff_iff]; simp [h3]
@[simp] theorem eqP_int {A : AH} {i j : Int} {k : Bool → Prop} : eqP A (.int i) (.int j) k = k (decide (i = j)) := by
  show k (PyData.eqv (.int i) (.int j)) = _
  have e : PyData.eqv (.int i) (.int j) = decide (i = j) := by
    unfold PyData.eqv
    first | rfl | (cases h : decide (i = j) <;> simp_all)
  rw [e]
@[simp] theorem cmp_lt {A : AH} {i j : Int} {k : Bool → Prop} : cmpP .lt (.int i) (.int j) A k = k (decide (i < j)) := rfl
@[simp] theorem cmp_le {A : AH} {i j : Int} {k : Bool → Prop} : cmpP .le (.int i) (.int j) A k = k (decide (i ≤ j)) := rfl
@[simp] theorem cmp_gt {A : AH} {i j : Int} {k : Bool → Prop} : cmpP .gt (.int i) (.int j) A k = k (decide (j < i)) := rfl
@[simp] theorem cmp_ge {A : AH} {i j : Int} {k : Bool → Prop} : cmpP .ge (.int i) (.int j) A k = k (decide (j ≤ i)) := rfl
@[simp] theorem cmp_eqI {A : AH} {i j : Int} {k : Bool → Prop} : cmpP .eq (.int i) (.int j) A k = k (decide (i = j)) := eqP_int
@[simp] theorem cmp_neI {A : AH} {i j : Int} {k : Bool → Prop} : cmpP .ne (.int i) (.int j) A k = k (!decide (i = j)) := eqP_int (k := fun b => k (!b))
@[simp] theorem cmp_isN {A : AH} {x : D} {k : Bool → Prop} : cmpP .is x .non A k = k (isNon x) := rfl
@[simp] theorem cmp_isntN {A : AH} {x : D} {k : Bool → Prop} : cmpP .isnot x .non A k = k (!(isNon x)) := rfl
@[simp] theorem cmp_isB {A : AH} {x : D} {b : Bool} {k : Bool → Prop} : cmpP .is x (.bl b) A k = k (isBlD b x) := rfl
@[simp] theorem cmp_isntB {A : AH} {x : D} {b : Bool} {k : Bool → Prop} : cmpP .isnot x (.bl b) A k = k (!(isBlD b x)) := rfl
@[simp] theorem tru_b {A : AH} {b : Bool} {k : Bool → Prop} : truP A (.bl b) k = k b := rfl
@[simp] theorem tru_n {A : AH} {k : Bool → Prop} : truP A .non k = k false := rfl
@[simp] theorem tru_i {A : AH} {i : Int} {k : Bool → Prop} : truP A (.int i) k = k (i != 0) := rfl
@[simp] theorem bi_lenT {A : AH} {ds : List D} {Q : DK} : biP .len [.tup ds] A Q = Q (.int ds.length) A := rfl
@[simp] theorem bi_lenR {A : AH} {ds : List D} {Q : DK} : biP .len [.rol ds] A Q = Q (.int ds.length) A := rfl
@[simp] theorem bi_absI {A : AH} {i : Int} {Q : DK} : biP .abs [.int i] A Q = Q (.int (if i < 0 then -i else i)) A := rfl
@[simp] theorem bi_intI {A : AH} {i : Int} {Q : DK} : biP .int [.int i] A Q = Q (.int i) A := rfl
@[simp] theorem bi_min {A : AH} {i j : Int} {Q : DK} : biP .min2 [.int i, .int j] A Q = Q (.int (if j < i then j else i)) A := rfl
@[simp] theorem bi_max {A : AH} {i j : Int} {Q : DK} : biP .max2 [.int i, .int j] A Q = Q (.int (if j > i then j else i)) A := rfl
@[simp] theorem idx_tup {A : AH} {ds : List D} {j : Int} {Q : DK} : idxP (.tup ds) (.int j) A Q = opt (L2.atI ds j) fun d => Q d A := rfl
@[simp] theorem idx_rol {A : AH} {ds : List D} {j : Int} {Q : DK} : idxP (.rol ds) (.int j) A Q = opt (L2.atI ds j) fun d => Q d A := rfl
@[simp] theorem bin_add {A : AH} {i j : Int} {Q : DK} : binP .add (.int i) (.int j) A Q = Q (.int (i + j)) A := rfl
@[simp] theorem bin_sub {A : AH} {i j : Int} {Q : DK} : binP .sub (.int i) (.int j) A Q = Q (.int (i - j)) A := rfl
@[simp] theorem bin_mul {A : AH} {i j : Int} {Q : DK} : binP .mul (.int i) (.int j) A Q = (L2.CMul i j ∧ Q (.int (i * j)) A) := rfl
@[simp] theorem bin_fdiv {A : AH} {i j : Int} {Q : DK} : binP .fdiv (.int i) (.int j) A Q = (CDivW i j ∧ Q (.int (i.fdiv j)) A) := rfl
@[simp] theorem bin_mod {A : AH} {i j : Int} {Q : DK} : binP .mod (.int i) (.int j) A Q = (j ≠ 0 ∧ Q (.int (i.fmod j)) A) := rfl
@[simp] theorem bin_pow {A : AH} {i j : Int} {Q : DK} : binP .pow (.int i) (.int j) A Q = (L2.CPow i j ∧ Q (.int (i ^ j.toNat)) A) := rfl
theorem atI_z {α : Type} {x : α} {r : List α} : L2.atI (x :: r) 0 = some x := by
  unfold L2.atI L2.ixN
  simp
theorem atI_o {α : Type} {x y : α} {r : List α} : L2.atI (x :: y :: r) 1 = some y := by
  unfold L2.atI L2.ixN
  have : (1 : Int) < (r.length : Int) + 1 + 1 := by omega
  simp [this]
end Zw
set_option Elab.async false
set_option linter.all false
set_option maxRecDepth 100000
set_option maxHeartbeats 4000000
/-! Zy: comprehensions whose parts leave the heap alone. -/
namespace Zw
open PySem
theorem comp_pure {gd : AH → Prop} {g : Nat} {δw : DSt} {c : DSt → AH → (Bool → AH → Prop) → Prop} {e : DSt → AH → DK → Prop} {Q : DK} {A : AH} (f : D → Bool) (h : D → D) (hg : gd A) : ∀ (xs acc : List D),
    (∀ x ∈ xs, ∀ k : Bool → AH → Prop, k (f x) A → c (δw.set g (some x)) A k) → (∀ x ∈ xs, ∀ k : DK, k (h x) A → e (δw.set g (some x)) A k) → acc.length + xs.length ≤ LIM →
    Q (.ref A.length) (A ++ [.lst (acc ++ (xs.filter f).map h)]) → compP gd g δw c e Q xs acc A
  | [], acc, hc, he, hl, q => by
    refine ⟨hg, ?_⟩
    simpa using q
  | x :: xs, acc, hc, he, hl, q => by
    refine ⟨hg, hc x (by simp) _ ?_⟩
    have hl2 : acc.length < LIM := by rw [List.length_cons] at hl; omega
    cases hf : f x with
    | true =>
      rw [if_pos rfl]
      refine he x (by simp) _ ⟨hl2, comp_pure f h hg xs (acc ++ [h x]) (fun y hy => hc y (by simp [hy])) (fun y hy => he y (by simp [hy])) ?_ ?_⟩
      · rw [List.length_append]; simp at hl ⊢; omega
      · simpa [hf] using q
    | false =>
      rw [if_neg (by decide)]
      refine comp_pure f h hg xs acc (fun y hy => hc y (by simp [hy])) (fun y hy => he y (by simp [hy])) ?_ ?_
      · simp at hl ⊢; omega
      · simpa [hf] using q
end Zw
set_option Elab.async false
set_option linter.all false
set_option maxRecDepth 100000
set_option maxHeartbeats 4000000
/-! D0: the draws that all laws share. -/
namespace Zw
open PySem
def tBegun : Mb := .cons (.setC 1 (.seq (.var 0)) 2 [2] (.yes (.cmp .ge (.bi .abs (.cons (.var 2) .nil)) (.bin .pow (.int 10) (.int 18)))) (.bin .sub (.bi .abs (.cons (.var 2) .nil)) (.bin .pow (.int 10) (.int 18)))) (.cons (.ret (.disp [.inr "large", .inr "cells", .inr "rest", .inr "turn"] (.cons (.var 1) (.cons (.comp (.seq (.var 0)) 2 [2] (.no) (.bi .abs (.cons (.var 2) .nil))) (.cons (.int 0) (.cons (.int 0) .nil)))))) .nil)
def absI (i : Int) : Int := if i < 0 then -i else i
def bigB : D → Bool
  | .int i => decide (10 ^ 18 ≤ absI i)
  | _ => false
def offD : D → D
  | .int i => .int (absI i - 10 ^ 18)
  | d => d
def absD : D → D
  | .int i => .int (absI i)
  | d => d
def drawD (L C : Nat) (r t : Int) : Cell := .dct [(.inr "large", .ref L), (.inr "cells", .ref C), (.inr "rest", .int r), (.inr "turn", .int t)]
theorem pow_ok : L2.CPow 10 18 := ⟨by decide, by decide, by decide⟩
theorem begun_ok {F : Nat → DSp} {S : Nat → Nat → Bool} {ns : List Int} {d : D} {A : AH} {Q : DK} {E : DX} (hs : Start ns d A) (hl : ns.length ≤ 63)
    (q : Q (.ref (A.length + 2)) (A ++ [.lst (((ns.map D.int).filter bigB).map offD), .lst ((ns.map D.int).map absD), drawD A.length (A.length + 1) 0 0])) : defSp F S 3 1 tBegun [d] A Q E := by
  unfold defSp tBegun
  refine ⟨rfl, ?_⟩
  have it : ∀ (A' : AH) (k : List D → (AH → Prop) → Prop), (∀ gd : AH → Prop, (∀ cs : List Cell, gd (A ++ cs)) → k (ns.map D.int) gd) → (∃ cs, A' = A ++ cs) → itP d A' k := by
    rintro A' k h ⟨cs, e⟩
    subst e
    rcases hs with ⟨e1, e2⟩ | ⟨e1, e2⟩
    · subst e1 e2
      show k (ns.map D.int) fun A' => cellL A' 0 = some (ns.map D.int)
      exact h (fun A' => cellL A' 0 = some (ns.map D.int)) fun cs => rfl
    · subst e1
      exact h (fun _ => True) fun _ => True.intro
  simp only [wpB, wpS, wp, wpI, wpO, startD_c, startD_e, List.replicate, getS_z, opt_s]
  refine it A _ (fun gd hgd => ?_) ⟨[], by simp⟩
  refine comp_pure bigB offD (by simpa using hgd []) _ _ ?_ ?_ ?_ ?_
  · intro x hx k hk
    obtain ⟨i, _, e⟩ := List.mem_map.mp hx
    subst e
    simp [wipeD, pow_ok]
    exact hk
  · intro x hx k hk
    obtain ⟨i, _, e⟩ := List.mem_map.mp hx
    subst e
    simp [wipeD, pow_ok]
    exact hk
  · simp [LIM]; omega
  · simp only [wpEs, wp, wpI, wpO, getS_z, getS_c, opt_s, List.set, List.nil_append]
    refine it _ _ (fun gd2 hgd2 => ?_) ⟨_, rfl⟩
    refine comp_pure (fun _ => true) absD (hgd2 _) _ _ (fun x hx k hk => hk) ?_ ?_ ?_
    · intro x hx k hk
      obtain ⟨i, _, e⟩ := List.mem_map.mp hx
      subst e
      simp [wipeD]
      exact hk
    · simp [LIM]; omega
    · refine ⟨by decide, rfl, ?_⟩
      have e1 : (A ++ [Cell.lst (((ns.map D.int).filter bigB).map offD)]).length = A.length + 1 := by simp
      have e2 : (ns.map D.int).filter (fun _ => true) = ns.map D.int := List.filter_eq_self.mpr fun _ _ => rfl
      rw [e1, e2, List.length_append, e1, List.append_assoc, List.append_assoc, List.nil_append]
      exact q
theorem toP_ints {A : AH} {n : Nat} : ∀ ns : List Int, (ns.map D.int).mapM (toP A (n + 1)) = some (ns.map PyData.int)
  | [] => rfl
  | i :: r => by
    rw [List.map_cons, List.mapM_cons, toP_ints r]
    rfl
theorem toP_ref {A : AH} {n i : Nat} {ns : List Int} (h : A[i]? = some (.lst (ns.map .int))) : toP A (n + 2) (.ref i) = some (.list (ns.map PyData.int)) := by
  show ((cellL A i).bind fun xs => (xs.mapM (toP A (n + 1))).map PyData.list) = _
  have e : cellL A i = some (ns.map .int) := by unfold cellL; rw [h]
  rw [e]
  show ((ns.map D.int).mapM (toP A (n + 1))).map PyData.list = _
  rw [toP_ints]; rfl
theorem ne_nil {A : AH} {i j : Nat} {xs : List D} {k : Bool → Prop} (h : A[i]? = some (.lst xs)) (hj : A[j]? = some (.lst [])) : cmpP .ne (.ref i) (.ref j) A k = k (!xs.isEmpty) := by
  show eqP A (.ref i) (.ref j) (fun b => k (!b)) = _
  have e1 : cellL A i = some xs := by unfold cellL; rw [h]
  have e2 : cellL A j = some [] := by unfold cellL; rw [hj]
  have e3 : lenNe A (.ref i) (.ref j) = (xs.length != 0) := by unfold lenNe; simp only [e1, e2]; rfl
  unfold eqP
  rw [e3]
  cases xs with
  | nil =>
    rw [toP_ref (n := 10) (ns := []) h, toP_ref (n := 10) (ns := []) hj]
    rfl
  | cons x xs => rfl
theorem eq_nil {A : AH} {i j : Nat} {xs : List D} {k : Bool → Prop} (h : A[i]? = some (.lst xs)) (hj : A[j]? = some (.lst [])) : cmpP .eq (.ref i) (.ref j) A k = k xs.isEmpty := by
  have := ne_nil (k := fun b => k (!b)) h hj
  simpa [cmpP] using this
/-- the draw's state -/
structure Drw (A : AH) (i L C : Nat) (ls cs : List Int) (r t : Int) : Prop where
  d : A[i]? = some (drawD L C r t)
  l : A[L]? = some (.lst (ls.map .int))
  c : A[C]? = some (.lst (cs.map .int))
  ne : i ≠ L ∧ i ≠ C ∧ L ≠ C
section
variable {A : AH} {i L C : Nat} {ls cs : List Int} {r t : Int} {Q : DK}
theorem at_app {α : Type} {xs ys : List α} {i : Nat} {a : α} (h : xs[i]? = some a) : (xs ++ ys)[i]? = some a := by
  rw [List.getElem?_append_left (List.getElem?_eq_some_iff.mp h).1]; exact h
theorem Drw.app (h : Drw A i L C ls cs r t) (x : AH) : Drw (A ++ x) i L C ls cs r t := ⟨at_app h.d, at_app h.l, at_app h.c, h.ne⟩
theorem Drw.rest (h : Drw A i L C ls cs r t) : idxP (.ref i) (.str "rest") A Q = Q (.int r) A := by
  unfold idxP; simp only [h.d, drawD]; rfl
theorem Drw.large (h : Drw A i L C ls cs r t) : idxP (.ref i) (.str "large") A Q = Q (.ref L) A := by
  unfold idxP; simp only [h.d, drawD]; rfl
theorem Drw.cells (h : Drw A i L C ls cs r t) : idxP (.ref i) (.str "cells") A Q = Q (.ref C) A := by
  unfold idxP; simp only [h.d, drawD]; rfl
theorem Drw.turn (h : Drw A i L C ls cs r t) : idxP (.ref i) (.str "turn") A Q = Q (.int t) A := by
  unfold idxP; simp only [h.d, drawD]; rfl
theorem Drw.setRest {K : AH → Prop} {v : Int} (h : Drw A i L C ls cs r t) (q : K (A.set i (drawD L C v t))) : stoP (.ref i) (.str "rest") (.int v) A K := by
  unfold stoP; simp only [h.d, drawD]
  exact ⟨by show 4 < LIM; decide, q⟩
theorem Drw.setTurn {K : AH → Prop} {v : Int} (h : Drw A i L C ls cs r t) (q : K (A.set i (drawD L C r v))) : stoP (.ref i) (.str "turn") (.int v) A K := by
  unfold stoP; simp only [h.d, drawD]
  exact ⟨by show 4 < LIM; decide, q⟩
theorem Drw.set (h : Drw A i L C ls cs r t) (r' t' : Int) : Drw (A.set i (drawD L C r' t')) i L C ls cs r' t' := by
  obtain ⟨n1, n2, n3⟩ := h.ne
  have hi : i < A.length := (List.getElem?_eq_some_iff.mp h.d).1
  exact ⟨List.getElem?_set_self hi, by rw [List.getElem?_set_ne n1]; exact h.l, by rw [List.getElem?_set_ne n2]; exact h.c, h.ne⟩
theorem Drw.pop {l : Int} (h : Drw A i L C (l :: ls) cs r t) : Drw (A.set L (.lst (ls.map .int))) i L C ls cs r t := by
  obtain ⟨n1, n2, n3⟩ := h.ne
  have hi : L < A.length := (List.getElem?_eq_some_iff.mp h.l).1
  exact ⟨by rw [List.getElem?_set_ne (Ne.symm n1)]; exact h.d, List.getElem?_set_self hi, by rw [List.getElem?_set_ne n3]; exact h.c, h.ne⟩
end
def tInner : Mb := .cons (.set 4 (.bin .mod (.bi .int (.cons (.bin .add (.bin .add (.bin .mul (.var 4) (.int 48271)) (.bi .int (.cons (.var 5) .nil))) (.int 1)) .nil)) (.var 3))) .nil
def tOuter : Mb := .cons (.set 4 (.bin .mod (.bi .int (.cons (.bin .add (.bin .mul (.var 1) (.int 69621)) (.bin .fdiv (.var 3) (.int 7))) .nil)) (.var 3))) (.cons (.fr (.seq (.idx (.var 0) (.str "cells"))) (.nm 5) tInner) (.cons (.set 2 (.bin .add (.bin .mul (.var 2) (.int 2147483647)) (.bin .mod (.bi .int (.cons (.bin .pow (.var 4) (.int 5)) .nil)) (.var 3)))) .nil))
def tBlend : Mb := .cons (.par [1, 2] (.cons (.bin .add (.idx (.var 0) (.str "turn")) (.int 1)) (.cons (.int 0) .nil))) (.cons (.sto (.var 0) (.str "turn") (.var 1)) (.cons (.fr (.seq (.lst (.cons (.int 2147483629) (.cons (.int 2147483587) (.cons (.int 2147483579) .nil))))) (.nm 3) tOuter) (.cons (.ret (.var 2)) .nil)))
theorem fmod_rng {a p : Int} (hp : 0 < p) : 0 ≤ a.fmod p ∧ a.fmod p < p := by
  rw [Int.fmod_eq_emod_of_nonneg a (by omega)]
  exact ⟨Int.emod_nonneg _ (by omega), Int.emod_lt_of_pos _ hp⟩
theorem inner_ok {b : WS} {gd : AH → Prop} {d : DE} {A : AH} {u v w : Option D} {p : Int} (F : Nat → DSp) (S : Nat → Nat → Bool) (hb : ∀ d δ A, wpB F S tInner d δ A → b d δ A) (hp : 0 < p) (hg : gd A) (hd : ∀ s x, 0 ≤ s → s < p → d.nx [u, v, w, some (.int p), some (.int s), x] A) :
    ∀ (cs : List Int) (s : Int) (x : Option D), 0 ≤ s → s < p → frP gd (.nm 5) b d (cs.map D.int) [u, v, w, some (.int p), some (.int s), x] A
  | [], s, x, h1, h2 => ⟨hg, hd s x h1 h2⟩
  | c :: cs, s, x, h1, h2 => by
    refine ⟨hg, ?_⟩
    have hm : L2.CMul s 48271 := .inr ⟨by decide, by decide⟩
    have hn : p ≠ 0 := by omega
    refine hb _ _ _ ?_
    simp [tInner, List.set, hm, hn]
    exact inner_ok F S hb hp hg hd cs _ _ (fmod_rng hp).1 (fmod_rng hp).2
theorem outer_ok {b : WS} {gd : AH → Prop} {d : DE} {A : AH} {i L C : Nat} {ls cs : List Int} {r t0 t : Int} (F : Nat → DSp) (S : Nat → Nat → Bool) (hb : ∀ d δ A, wpB F S tOuter d δ A → b d δ A) (h : Drw A i L C ls cs r t0) (hg : gd A)
    (hd : ∀ f x y z, 0 ≤ f → d.nx [some (.ref i), some (.int t), some (.int f), x, y, z] A) : ∀ (ps : List Int) (f : Int) (x y z : Option D), (∀ p ∈ ps, 0 < p ∧ p < 2 ^ 62) → 0 ≤ f →
      frP gd (.nm 3) b d (ps.map D.int) [some (.ref i), some (.int t), some (.int f), x, y, z] A
  | [], f, x, y, z, hp, h1 => ⟨hg, hd f x y z h1⟩
  | p :: ps, f, x, y, z, hp, h1 => by
    refine ⟨hg, hb _ _ _ ?_⟩
    obtain ⟨p1, p2⟩ := hp p (by simp)
    have hn : p ≠ 0 := by omega
    have hm : L2.CMul t 69621 := .inr ⟨by decide, by decide⟩
    have h7 : CDivW p 7 := ⟨by decide, by decide⟩
    have hc : cellL A C = some (cs.map D.int) := by unfold cellL; rw [h.c]
    simp only [tOuter, wpB, wpS, wp, wpEs, wpI, getS_z, getS_c, opt_s, List.set, bin_mul, bin_fdiv, bin_add, bin_mod, bi_intI, hm, h7, true_and, hn, ne_eq, not_false_eq_true, wpG, Drw.cells h, itP, hc]
    refine inner_ok F S (fun _ _ _ z => z) p1 hc (fun s x h1' h2 => ?_) cs _ _ (fmod_rng p1).1 (fmod_rng p1).2
    have hm2 : L2.CMul f 2147483647 := .inr ⟨by decide, by decide⟩
    have h5 : L2.CPow s 5 := ⟨by decide, by decide, by omega⟩
    simp only [getS_z, getS_c, opt_s, List.set, bin_mul, bin_add, bin_mod, bin_pow, bi_intI, hm2, h5, true_and, hn, ne_eq, not_false_eq_true]
    refine outer_ok F S hb h hg hd ps _ _ _ _ (fun q hq => hp q (by simp [hq])) ?_
    have := (fmod_rng (a := s ^ 5) p1).1
    have h8 : (0 : Int) ≤ f * 2147483647 := Int.mul_nonneg h1 (by decide)
    exact Int.add_nonneg h8 this
theorem blend_ok {A : AH} {i L C : Nat} {ls cs : List Int} {r t : Int} {Q : DK} {E : DX} (F : Nat → DSp) (S : Nat → Nat → Bool) (h : Drw A i L C ls cs r t)
    (q : ∀ f : Int, 0 ≤ f → ∀ A', Drw A' i L C ls cs r (t + 1) → A' = A.set i (drawD L C r (t + 1)) ++ [.lst [.int 2147483629, .int 2147483587, .int 2147483579]] → Q (.int f) A') : defSp F S 6 1 tBlend [.ref i] A Q E := by
  unfold defSp tBlend
  refine ⟨rfl, ?_⟩
  simp only [wpB, wpS, wp, wpEs, wpI, startD_c, startD_e, List.replicate, getS_z, getS_c, opt_s, List.set, Drw.turn h, bin_add, setAll]
  refine ⟨rfl, ?_⟩
  refine Drw.setTurn h ?_
  have h1 := Drw.set h r (t + 1)
  have h2 := h1.app [.lst [.int 2147483629, .int 2147483587, .int 2147483579]]
  refine ⟨by decide, ?_⟩
  have hl : cellL (A.set i (drawD L C r (t + 1)) ++ [.lst [.int 2147483629, .int 2147483587, .int 2147483579]]) (A.set i (drawD L C r (t + 1))).length = some ([2147483629, 2147483587, 2147483579].map D.int) := by
    unfold cellL
    rw [List.getElem?_append_right (Nat.le_refl _), Nat.sub_self]; rfl
  simp only [itP, hl, opt_s]
  refine outer_ok F S (fun _ _ _ z => z) h2 hl (fun f x y z hf => ?_) _ _ _ _ _ (by decide) (Int.le_refl 0)
  exact q f hf _ h2 rfl
/-- grown: all but the draw's own cells stay -/
def Gro (A A' : AH) (i L : Nat) : Prop := A.length ≤ A'.length ∧ ∀ j, j < A.length → j ≠ i → j ≠ L → A'[j]? = A[j]?
theorem Gro.refl {A : AH} {i L : Nat} : Gro A A i L := ⟨Nat.le_refl _, fun _ _ _ _ => rfl⟩
theorem Gro.trans {A A1 A2 : AH} {i L : Nat} (h : Gro A A1 i L) (g : Gro A1 A2 i L) : Gro A A2 i L := ⟨Nat.le_trans h.1 g.1, fun j hj n1 n2 => (g.2 j (Nat.lt_of_lt_of_le hj h.1) n1 n2).trans (h.2 j hj n1 n2)⟩
theorem Gro.app {A : AH} {i L : Nat} (x : AH) : Gro A (A ++ x) i L := ⟨by rw [List.length_append]; omega, fun j hj _ _ => List.getElem?_append_left hj⟩
theorem Gro.setI {A : AH} {i L : Nat} (c : Cell) : Gro A (A.set i c) i L := ⟨by rw [List.length_set]; omega, fun j hj n1 _ => List.getElem?_set_ne (Ne.symm n1)⟩
theorem Gro.setL {A : AH} {i L : Nat} (c : Cell) : Gro A (A.set L c) i L := ⟨by rw [List.length_set]; omega, fun j hj _ n2 => List.getElem?_set_ne (Ne.symm n2)⟩
def tCond : E := .and (.cmp .eq (.idx (.var 0) (.str "rest")) (.int 0)) (.cmp .ne (.idx (.var 0) (.str "large")) (.lst (.nil)))
def tWB : Mb := .cons (.sto (.var 0) (.str "rest") (.meth .pop1 (.idx (.var 0) (.str "large")) (.cons (.int 0) .nil))) .nil
def tTake (kb : Nat) : Mb := .cons (.whl tCond tWB) (.cons (.ife (.cmp .eq (.idx (.var 0) (.str "rest")) (.int 0)) (.cons (.sto (.var 0) (.str "rest") (.call kb (.cons (.var 0) .nil))) .nil) (.nil)) (.cons (.set 2 (.bin .mod (.bi .int (.cons (.idx (.var 0) (.str "rest")) .nil)) (.var 1))) (.cons (.sto (.var 0) (.str "rest") (.bin .fdiv (.bi .int (.cons (.idx (.var 0) (.str "rest")) .nil)) (.var 1))) (.cons (.ret (.var 2)) .nil))))
theorem popL {A : AH} {i L C : Nat} {l : Int} {ls cs : List Int} {r t : Int} {Q : DK} (h : Drw A i L C (l :: ls) cs r t) (q : Q (.int l) (A.set L (.lst (ls.map .int)))) : methP .pop1 (.ref L) [.int 0] A Q := by
  have e : cellW A L = some (.int l :: ls.map .int) := by unfold cellW; rw [h.l]; rfl
  show opt (cellW A L) _
  rw [e]
  refine ⟨⟨by decide, by decide⟩, ?_⟩
  have e2 : seqIndex? 0 (D.int l :: ls.map .int).length = some 0 := by unfold seqIndex?; simp
  rw [e2]
  exact q
theorem last_app {A : AH} {c : Cell} : (A ++ [c])[A.length]? = some c := by rw [List.getElem?_append_right (Nat.le_refl _), Nat.sub_self]; rfl
theorem loop_ok {i L C : Nat} {cs : List Int} {t n : Int} {y : Option D} (F : Nat → DSp) (S : Nat → Nat → Bool) {b : WS} {d : DE} (hb : ∀ d δ A, wpB F S tWB d δ A → b d δ A) : ∀ (ls : List Int) (r : Int) (A : AH), Drw A i L C ls cs r t → (∀ l ∈ ls, 0 ≤ l) → 0 ≤ r →
    (∀ A' ls' r', Drw A' i L C ls' cs r' t → (∀ l ∈ ls', 0 ≤ l) → 0 ≤ r' → Gro A A' i L → d.nx [some (.ref i), some (.int n), y] A') → whP (wp F S tCond).2 b d (ls.length + 1) [some (.ref i), some (.int n), y] A
  | ls, r, A, h, hl, hr, q => by
    show (wp F S tCond).2 _ _ _ _
    simp only [tCond, wp, wpEs, getS_z, opt_s, Drw.rest h, cmp_eqI]
    by_cases h0 : r = 0
    · subst h0
      simp only [decide_true, if_true, Drw.large h]
      have h1 := h.app [.lst []]
      refine ⟨Nat.zero_le _, ?_⟩
      rw [ne_nil h1.l last_app]
      cases ls with
      | nil =>
        simp only [List.map_nil, List.isEmpty_nil, Bool.not_true, Bool.false_eq_true, if_false]
        exact q _ _ _ h1 hl hr (Gro.app _)
      | cons l ls =>
        simp only [List.map_cons, List.isEmpty_cons, Bool.not_false, if_true]
        refine hb _ _ _ ?_
        have h2 := h1.pop
        simp only [tWB, wpB, wpS, wp, wpEs, getS_z, opt_s, Drw.large h1]
        refine ⟨by show opt (cellW _ L) _; unfold cellW; rw [h1.l]; exact True.intro, popL h1 ?_⟩
        refine Drw.setRest h2 ?_
        have h3 := h2.set l t
        exact loop_ok F S hb ls l _ h3 (fun x hx => hl x (by simp [hx])) (hl l (by simp)) fun A' ls' r' g1 g2 g3 g4 => q A' ls' r' g1 g2 g3 (((Gro.app _).trans (Gro.setL _)).trans ((Gro.setI _).trans g4))
    · simp only [decide_eq_false h0, Bool.false_eq_true, if_false]
      exact q _ _ _ h hl hr Gro.refl
theorem take_ok {A : AH} {i L C kb : Nat} {ls cs : List Int} {r t n : Int} {Q : DK} {E : DX} (F Fb : Nat → DSp) (S Sb : Nat → Nat → Bool) (hF : F kb = defSp Fb Sb 6 1 tBlend) (h : Drw A i L C ls cs r t) (hl : ∀ l ∈ ls, 0 ≤ l) (hr : 0 ≤ r) (hn : 0 < n) (hn2 : n < 2 ^ 62)
    (q : ∀ m A' ls' r' t', 0 ≤ m → m < n → Drw A' i L C ls' cs r' t' → (∀ l ∈ ls', 0 ≤ l) → 0 ≤ r' → Gro A A' i L → Q (.int m) A') : defSp F S 3 2 (tTake kb) [.ref i, .int n] A Q E := by
  unfold defSp tTake
  refine ⟨rfl, ?_⟩
  have n0 : n ≠ 0 := by omega
  have hd : ∀ x : Int, CDivW x n := fun x => ⟨n0, by omega⟩
  have fin : ∀ (A1 : AH) (ls1 : List Int) (r1 t1 : Int), Drw A1 i L C ls1 cs r1 t1 → (∀ l ∈ ls1, 0 ≤ l) → 0 ≤ r1 → Gro A A1 i L →
      wpB F S (.cons (.set 2 (.bin .mod (.bi .int (.cons (.idx (.var 0) (.str "rest")) .nil)) (.var 1))) (.cons (.sto (.var 0) (.str "rest") (.bin .fdiv (.bi .int (.cons (.idx (.var 0) (.str "rest")) .nil)) (.var 1))) (.cons (.ret (.var 2)) .nil)))
        { nx := fun _ A1 => Q .non A1, rt := Q, bk := fun _ _ => False, ct := fun _ _ => False, ex := fun c p _ A1 => E c p A1 } [some (.ref i), some (.int n), none] A1 := fun A1 ls1 r1 t1 g1 g2 g3 g4 => by
    simp only [wpB, wpS, wp, wpEs, getS_z, getS_c, opt_s, List.set, Drw.rest g1, bi_intI, bin_mod, bin_fdiv, n0, ne_eq, not_false_eq_true, true_and, hd]
    refine Drw.setRest g1 ?_
    refine q _ _ _ _ _ (fmod_rng hn).1 (fmod_rng hn).2 (g1.set _ _) g2 ?_ (g4.trans (Gro.setI _))
    rw [Int.fdiv_eq_ediv_of_nonneg _ (by omega)]
    exact Int.ediv_nonneg g3 (by omega)
  refine ⟨ls.length + 1, loop_ok F S (fun _ _ _ z => z) ls r A h hl hr fun A1 ls1 r1 g1 g2 g3 g4 => ?_⟩
  show wpB F S (.cons _ _) _ _ _
  simp only [wpB, wpS, wp, wpEs, getS_z, opt_s, Drw.rest g1, cmp_eqI]
  by_cases h0 : r1 = 0
  · subst h0
    simp only [decide_true, if_true, hF]
    refine blend_ok Fb Sb g1 fun f hf A2 g5 e2 => ?_
    refine Drw.setRest g5 ?_
    have z := fin _ ls1 f _ (g5.set f (t + 1)) g2 hf (g4.trans (((Gro.setI _).trans (by rw [e2]; exact Gro.app _)).trans (Gro.setI _)))
    exact z
  · simp only [decide_eq_false h0, Bool.false_eq_true, if_false]
    have z := fin A1 ls1 r1 t g1 g2 g3 g4
    simp only [wpB, wpS, wp, wpEs, getS_z, opt_s, Drw.rest g1] at z
    exact z
def tPick (kt : Nat) : Mb := .cons (.ret (.idx (.var 1) (.call kt (.cons (.var 0) (.cons (.bi .len (.cons (.var 1) .nil)) .nil))))) .nil
theorem atI_in {α : Type} {xs : List α} {m : Int} (h0 : 0 ≤ m) (h1 : m < xs.length) : ∃ x, L2.atI xs m = some x ∧ x ∈ xs := by
  have hj : m.toNat < xs.length := by omega
  refine ⟨xs[m.toNat], ?_, List.getElem_mem hj⟩
  unfold L2.atI L2.ixN
  rw [if_pos h0, if_pos h1]
  exact List.getElem?_eq_getElem hj
/-- from a list that is another one than the draw's -/
theorem pick_ok {A : AH} {i L C kb kt p : Nat} {ls cs : List Int} {r t : Int} {xs : List D} {Q : DK} {E : DX} (F Ft Fb : Nat → DSp) (S St Sb : Nat → Nat → Bool) (hF : F kt = defSp Ft St 3 2 (tTake kb)) (hF2 : Ft kb = defSp Fb Sb 6 1 tBlend) (h : Drw A i L C ls cs r t) (hl : ∀ l ∈ ls, 0 ≤ l) (hr : 0 ≤ r)
    (hp : A[p]? = some (.lst xs)) (np : p ≠ i ∧ p ≠ L) (hx : xs ≠ []) (hx2 : xs.length < 1000)
    (q : ∀ x A' ls' r' t', x ∈ xs → Drw A' i L C ls' cs r' t' → (∀ l ∈ ls', 0 ≤ l) → 0 ≤ r' → Gro A A' i L → Q x A') : defSp F S 2 2 (tPick kt) [.ref i, .ref p] A Q E := by
  unfold defSp tPick
  refine ⟨rfl, ?_⟩
  have hlen : 0 < xs.length := by cases xs with | nil => exact absurd rfl hx | cons a b => simp
  have e1 : ∀ Q : DK, biP .len [.ref p] A Q = Q (.int xs.length) A := fun Q => by unfold biP; simp only [hp]
  simp only [wpB, wpS, wp, wpEs, startD_c, startD_e, List.replicate, getS_z, getS_c, opt_s, e1, hF]
  refine take_ok Ft Fb St Sb hF2 h hl hr (by omega) (by omega) fun m A' ls' r' t' m1 m2 g1 g2 g3 g4 => ?_
  have hp' : A'[p]? = some (.lst xs) := by rw [g4.2 p (List.getElem?_eq_some_iff.mp hp).1 np.1 np.2]; exact hp
  obtain ⟨x, ex, hxm⟩ := atI_in m1 m2
  unfold idxP
  simp only [hp', ex, opt_s]
  exact q x A' ls' r' t' hxm g1 g2 g3 g4
end Zw
set_option Elab.async false
set_option linter.all false
set_option maxRecDepth 100000
set_option maxHeartbeats 4000000
/-! D1: the draws by one word; what stays while a heap grows. -/
namespace Zw
open PySem
/-- a draw's dict at i -/
def Dr (A : AH) (i L C : Nat) : Prop := ∃ ls cs r t, Drw A i L C ls cs r t ∧ (∀ l ∈ ls, 0 ≤ l) ∧ 0 ≤ r
section
variable {A A' : AH} {i L C p : Nat}
theorem lt_of_at {α : Type} {xs : List α} {i : Nat} {a : α} (h : xs[i]? = some a) : i < xs.length := (List.getElem?_eq_some_iff.mp h).1
theorem Dr.lt (h : Dr A i L C) : i < A.length ∧ L < A.length ∧ C < A.length := by
  obtain ⟨ls, cs, r, t, h, _⟩ := h
  exact ⟨lt_of_at h.d, lt_of_at h.l, lt_of_at h.c⟩
theorem Dr.app (h : Dr A i L C) (x : AH) : Dr (A ++ x) i L C := by
  obtain ⟨ls, cs, r, t, h, z⟩ := h
  exact ⟨ls, cs, r, t, h.app x, z⟩
theorem Dr.setN (h : Dr A i L C) {c : Cell} (n : p ≠ i ∧ p ≠ L ∧ p ≠ C) : Dr (A.set p c) i L C := by
  obtain ⟨ls, cs, r, t, h, z⟩ := h
  exact ⟨ls, cs, r, t, ⟨by rw [List.getElem?_set_ne n.1]; exact h.d, by rw [List.getElem?_set_ne n.2.1]; exact h.l, by rw [List.getElem?_set_ne n.2.2]; exact h.c, h.ne⟩, z⟩
theorem Gro.setN {A1 : AH} {c : Cell} (g : Gro A A1 i L) (hp : A.length ≤ p) : Gro A (A1.set p c) i L :=
  ⟨by rw [List.length_set]; exact g.1, fun j hj n1 n2 => by rw [List.getElem?_set_ne (by omega)]; exact g.2 j hj n1 n2⟩
/-- a cell that is none of the draw's stays -/
theorem Gro.at (g : Gro A A' i L) {c : Cell} (h : A[p]? = some c) (n : p ≠ i ∧ p ≠ L) : A'[p]? = some c := by
  rw [g.2 p (lt_of_at h) n.1 n.2]; exact h
theorem Gro.apps (g : Gro A A' i L) (x : AH) : Gro A (A' ++ x) i L := g.trans (Gro.app x)
def kindC : Cell → Option String
  | .lst _ => some "list"
  | .dct _ => some "dict"
  | .ro _ => none
theorem tyD_ref {A : AH} {j : Nat} : tyD A (.ref j) = (A[j]?.bind kindC).map TyT.b := by
  unfold tyD
  cases e : A[j]? with
  | none => simp [e]
  | some c => cases c <;> simp [e, kindC]
theorem okD_ref {A : AH} {j : Nat} : okD A (.ref j) ↔ ∃ c n, A[j]? = some c ∧ kindC c = some n := by
  unfold okD
  rw [tyD_ref]
  cases e : A[j]? with
  | none => simp
  | some c => cases hk : kindC c <;> simp [hk]
theorem tyD_else {A A' : AH} {d : D} (h : ∀ j, d ≠ .ref j) : tyD A d = tyD A' d := by
  cases d with
  | ref j => exact absurd rfl (h j)
  | exc c p => cases p <;> rfl
  | _ => rfl
theorem okD_mono {A A' : AH} (h : ∀ (j : Nat) (c : Cell) (n : String), A[j]? = some c → kindC c = some n → ∃ c' n', A'[j]? = some c' ∧ kindC c' = some n') {d : D} (hd : okD A d) : okD A' d := by
  by_cases z : ∃ j, d = .ref j
  · obtain ⟨j, e⟩ := z
    subst e
    obtain ⟨c, n, e1, e2⟩ := okD_ref.mp hd
    exact okD_ref.mpr (h j c n e1 e2)
  · obtain ⟨n, hd⟩ := hd
    exact ⟨n, by rw [← hd]; exact tyD_else fun j e => z ⟨j, e⟩⟩
theorem okD_app {d : D} (h : okD A d) (x : AH) : okD (A ++ x) d := okD_mono (fun j c n e k => ⟨c, n, at_app e, k⟩) h
theorem Gro.ok (g : Gro A A' i L) (h' : Dr A' i L C) {d : D} (hd : okD A d) : okD A' d := by
  obtain ⟨ls', cs', r', t', h', _⟩ := h'
  refine okD_mono (fun j c n e k => ?_) hd
  by_cases hi : j = i
  · subst hi; exact ⟨_, _, h'.d, rfl⟩
  · by_cases hL : j = L
    · subst hL; exact ⟨_, _, h'.l, rfl⟩
    · exact ⟨c, n, g.at e ⟨hi, hL⟩, k⟩
theorem take_dr {kb : Nat} {n : Int} {Q : DK} {E : DX} (F Fb : Nat → DSp) (S Sb : Nat → Nat → Bool) (hF : F kb = defSp Fb Sb 6 1 tBlend) (h : Dr A i L C) (hn : 0 < n) (hn2 : n < 2 ^ 62)
    (q : ∀ m A', 0 ≤ m → m < n → Dr A' i L C → Gro A A' i L → Q (.int m) A') : defSp F S 3 2 (tTake kb) [.ref i, .int n] A Q E := by
  obtain ⟨ls, cs, r, t, h, h1, h2⟩ := h
  exact take_ok F Fb S Sb hF h h1 h2 hn hn2 fun m A' ls' r' t' m1 m2 g1 g2 g3 g4 => q m A' m1 m2 ⟨_, _, _, _, g1, g2, g3⟩ g4
theorem pick_dr {kb kt : Nat} {xs : List D} {Q : DK} {E : DX} (F Ft Fb : Nat → DSp) (S St Sb : Nat → Nat → Bool) (hF : F kt = defSp Ft St 3 2 (tTake kb)) (hF2 : Ft kb = defSp Fb Sb 6 1 tBlend) (h : Dr A i L C)
    (hp : A[p]? = some (.lst xs)) (np : p ≠ i ∧ p ≠ L) (hx : xs ≠ []) (hx2 : xs.length < 1000)
    (q : ∀ x A', x ∈ xs → Dr A' i L C → Gro A A' i L → Q x A') : defSp F S 2 2 (tPick kt) [.ref i, .ref p] A Q E := by
  obtain ⟨ls, cs, r, t, h, h1, h2⟩ := h
  exact pick_ok F Ft Fb S St Sb hF hF2 h h1 h2 hp np hx hx2 fun x A' ls' r' t' hm g1 g2 g3 g4 => q x A' hm ⟨_, _, _, _, g1, g2, g3⟩ g4
def bigI (i : Int) : Bool := decide (10 ^ 18 ≤ absI i)
theorem bigs_map : ∀ ns : List Int, (((ns.map D.int).filter bigB).map offD) = ((ns.filter bigI).map fun i => absI i - 10 ^ 18).map .int
  | [] => rfl
  | n :: ns => by
    rw [List.map_cons]
    cases h : bigI n with
    | true =>
      have h' : bigB (.int n) = true := h
      rw [List.filter_cons_of_pos h', List.filter_cons_of_pos h, List.map_cons, List.map_cons, List.map_cons, bigs_map ns]
      rfl
    | false =>
      have h' : ¬ bigB (.int n) = true := fun z => by rw [show bigB (.int n) = bigI n from rfl, h] at z; cases z
      rw [List.filter_cons_of_neg h', List.filter_cons_of_neg (by rw [h]; decide), bigs_map ns]
theorem begun_dr {F : Nat → DSp} {S : Nat → Nat → Bool} {ns : List Int} {d : D} {Q : DK} {E : DX} (hs : Start ns d A) (hl : ns.length ≤ 63)
    (q : ∀ A' : AH, A <+: A' → Dr A' (A.length + 2) A.length (A.length + 1) → Q (.ref (A.length + 2)) A') : defSp F S 3 1 tBegun [d] A Q E := by
  refine begun_ok hs hl (q _ (List.prefix_append _ _) ⟨(ns.filter bigI).map fun i => absI i - 10 ^ 18, ns.map absI, 0, 0, ⟨?_, ?_, ?_, ?_⟩, ?_, Int.le_refl 0⟩)
  · rw [List.getElem?_append_right (by omega)]; simp
  · rw [List.getElem?_append_right (by omega), bigs_map]; simp
  · rw [List.getElem?_append_right (by omega)]
    simp
    intro a ha
    rfl
  · omega
  · intro l hl
    simp [bigI] at hl
    obtain ⟨a, ⟨_, h⟩, e⟩ := hl
    omega
/-! ### readings -/
theorem bin_addL {q : Nat} {xs ys : List D} {Q : DK} (h : A[p]? = some (.lst xs)) (h2 : A[q]? = some (.lst ys)) (hl : xs.length + ys.length ≤ LIM) (k : Q (.ref A.length) (A ++ [.lst (xs ++ ys)])) : binP .add (.ref p) (.ref q) A Q := by
  have e1 : cellW A p = some xs := by unfold cellW; rw [h]
  have e2 : cellW A q = some ys := by unfold cellW; rw [h2]
  unfold binP
  simp only [e1, e2, opt_s]
  exact ⟨hl, k⟩
theorem cellL_of {xs : List D} (h : A[p]? = some (.lst xs)) : cellL A p = some xs := by unfold cellL; rw [h]
theorem cellW_of {xs : List D} (h : A[p]? = some (.lst xs)) : cellW A p = some xs := by unfold cellW; rw [h]
theorem bi_list {xs : List D} {Q : DK} (h : A[p]? = some (.lst xs)) : biP .list [.ref p] A Q = Q (.ref A.length) (A ++ [.lst xs]) := by
  unfold biP itemsD
  simp only [cellL_of h, opt_s]
theorem bi_lenL {xs : List D} {Q : DK} (h : A[p]? = some (.lst xs)) : biP .len [.ref p] A Q = Q (.int xs.length) A := by
  unfold biP; simp only [h]
theorem idx_lst {xs : List D} {j : Int} {Q : DK} (h : A[p]? = some (.lst xs)) : idxP (.ref p) (.int j) A Q = opt (L2.atI xs j) fun d => Q d A := by
  unfold idxP; simp only [h]
theorem sto_lst {xs : List D} {j : Int} {v : D} {K : AH → Prop} (h : A[p]? = some (.lst xs)) : stoP (.ref p) (.int j) v A K = opt (L2.ixN xs.length j) fun k => K (A.set p (.lst (xs.set k v))) := by
  unfold stoP; simp only [h]
theorem itP_lst {xs : List D} {k : List D → (AH → Prop) → Prop} (h : A[p]? = some (.lst xs)) : itP (.ref p) A k = k xs fun A' => cellL A' p = some xs := by
  unfold itP; simp only [cellL_of h, opt_s]
end
end Zw
set_option Elab.async false
set_option linter.all false
set_option maxRecDepth 100000
set_option maxHeartbeats 16000000

/-! the trees of tricklestore_k64_tables_of_changes: printed by emit.py -/
namespace Z64
open PySem PySem.Spec PyProof.Rows L2 Zw
abbrev PR : Program := PySem.Challenge.pw_tricklestore_k64_tables_of_changes
abbrev st (i : Nat) : Stmt := PR.main.body.getD i (.Pass ⟨0, 0, 0, 0⟩)
abbrev S : Nat → Nat → Bool := subN 5
abbrev x_TooMany : Nat := 4
abbrev x_BadValue : Nat := 3
abbrev x_BadTable : Nat := 2
abbrev x_BadChanges : Nat := 1
abbrev x_StoreError : Nat := 0
def GL : List (Str × Nat) := ([(("StoreError" : Str), 0), (("BadChanges" : Str), 1), (("BadTable" : Str), 2), (("BadValue" : Str), 3), (("TooMany" : Str), 4), (("_law_begun" : Str), 18), (("_law_blend" : Str), 19), (("_law_take" : Str), 20), (("_law_pick" : Str), 21), (("_law_table" : Str), 28), (("is_number" : Str), 5), (("is_index" : Str), 12), (("is_table_row" : Str), 13), (("need_table" : Str), 14), (("values_by" : Str), 15), (("values_from" : Str), 16), (("_law_reached" : Str), 29), (("_law_words" : Str), 27), (("_law_number" : Str), 24), (("_law_a_change" : Str), 25), (("_law_some_changes" : Str), 31), (("_law_acted" : Str), 23), (("_law_values" : Str), 32), (("is_value" : Str), 6), (("is_triple" : Str), 7)] ++ [(("is_change" : Str), 8), (("need_changes" : Str), 9), (("bounded" : Str), 10), (("act_by" : Str), 11), (("table_of" : Str), 17), (("_law_table_right" : Str), 33), (("_law_bad_table" : Str), 30), (("_law_bad_change" : Str), 26), (("_law_refused" : Str), 34), (("law" : Str), 35), (("_law_caught" : Str), 22), (("CARES" : Str), 36)])
def XNS : List (Nat × Str) := [(4, ("most" : Str))]
def GTS : List (Nat × List Str) := [(36, [("safe" : Str), ("beneath" : Str), ("turns" : Str), ("behind" : Str), ("stop" : Str), ("own" : Str), ("anew" : Str), ("roots" : Str), ("records" : Str)])]
def TYS : List TyT := [.b "int", .b "bool", .b "tuple", .b "list", .c 4, .c 2, .c 1, .c 3]
/-! _law_begun -/
def t__law_begun : Mb := .cons (.setC 1 (.seq (.var 0)) 2 [2] (.yes (.cmp .ge (.bi .abs (.cons (.var 2) .nil)) (.bin .pow (.int 10) (.int 18)))) (.bin .sub (.bi .abs (.cons (.var 2) .nil)) (.bin .pow (.int 10) (.int 18)))) (.cons (.ret (.disp [.inr "large", .inr "cells", .inr "rest", .inr "turn"] (.cons (.var 1) (.cons (.comp (.seq (.var 0)) 2 [2] (.no) (.bi .abs (.cons (.var 2) .nil))) (.cons (.int 0) (.cons (.int 0) .nil)))))) .nil)
def c__law_begun : Cc := ⟨["_law_script", "_law_large", "_law_cell"], GL, [], [], TYS, [0, 1, 2, 3, 4], [], "_law_caught", XNS, GTS⟩
def F__law_begun : Nat → DSp | _ => fun _ _ _ _ => False
def sp__law_begun : DSp := defSp F__law_begun S 3 1 t__law_begun
theorem k__law_begun : isB c__law_begun [] (defScope (st 23)) t__law_begun (defBody (st 23)) = true := by decide +kernel
theorem s__law_begun : FnScope c__law_begun.N ["_law_script"] (defScope (st 23)) := C8.fnScope_by (by decide +kernel)
theorem b__law_begun : ∀ (kV doc pm : Value) (an : Option Addr) (cdv ct : Value) (us : List Value), us.length = (["_law_script"] : List Str).length → bindArgs (PySem.W.fnOf "_law_begun" "_law_begun" (defArgs (st 23)) (defBody (st 23)) (defScope (st 23)) .none kV doc pm an cdv ct) ⟨us, []⟩ = pure ((["_law_script"] : List Str).zip us) := fun _ _ _ _ _ _ us hl => match us, hl with | [_], _ => rfl
/-! _law_blend -/
def t__law_blend_1 : Mb := .cons (.set 4 (.bin .mod (.bi .int (.cons (.bin .add (.bin .add (.bin .mul (.var 4) (.int 48271)) (.bi .int (.cons (.var 5) .nil))) (.int 1)) .nil)) (.var 3))) .nil
def t__law_blend_2 : Mb := .cons (.set 4 (.bin .mod (.bi .int (.cons (.bin .add (.bin .mul (.var 1) (.int 69621)) (.bin .fdiv (.var 3) (.int 7))) .nil)) (.var 3))) (.cons (.fr (.seq (.idx (.var 0) (.str "cells"))) (.nm 5) t__law_blend_1) (.cons (.set 2 (.bin .add (.bin .mul (.var 2) (.int 2147483647)) (.bin .mod (.bi .int (.cons (.bin .pow (.var 4) (.int 5)) .nil)) (.var 3)))) .nil))
def t__law_blend : Mb := .cons (.par [1, 2] (.cons (.bin .add (.idx (.var 0) (.str "turn")) (.int 1)) (.cons (.int 0) .nil))) (.cons (.sto (.var 0) (.str "turn") (.var 1)) (.cons (.fr (.seq (.lst (.cons (.int 2147483629) (.cons (.int 2147483587) (.cons (.int 2147483579) .nil))))) (.nm 3) t__law_blend_2) (.cons (.ret (.var 2)) .nil)))
def c__law_blend : Cc := ⟨["_law_draw", "_law_turn", "_law_found", "_law_prime", "_law_stirred", "_law_cell"], GL, [], [], TYS, [0, 1, 2, 3, 4], [], "_law_caught", XNS, GTS⟩
def F__law_blend : Nat → DSp | _ => fun _ _ _ _ => False
def sp__law_blend : DSp := defSp F__law_blend S 6 1 t__law_blend
theorem k__law_blend : isB c__law_blend [] (defScope (st 24)) t__law_blend (defBody (st 24)) = true := by decide +kernel
theorem s__law_blend : FnScope c__law_blend.N ["_law_draw"] (defScope (st 24)) := C8.fnScope_by (by decide +kernel)
theorem b__law_blend : ∀ (kV doc pm : Value) (an : Option Addr) (cdv ct : Value) (us : List Value), us.length = (["_law_draw"] : List Str).length → bindArgs (PySem.W.fnOf "_law_blend" "_law_blend" (defArgs (st 24)) (defBody (st 24)) (defScope (st 24)) .none kV doc pm an cdv ct) ⟨us, []⟩ = pure ((["_law_draw"] : List Str).zip us) := fun _ _ _ _ _ _ us hl => match us, hl with | [_], _ => rfl
/-! _law_take -/
def t__law_take_1 : Mb := .cons (.sto (.var 0) (.str "rest") (.meth .pop1 (.idx (.var 0) (.str "large")) (.cons (.int 0) .nil))) .nil
def t__law_take : Mb := .cons (.whl (.and (.cmp .eq (.idx (.var 0) (.str "rest")) (.int 0)) (.cmp .ne (.idx (.var 0) (.str "large")) (.lst (.nil)))) t__law_take_1) (.cons (.ife (.cmp .eq (.idx (.var 0) (.str "rest")) (.int 0)) (.cons (.sto (.var 0) (.str "rest") (.call 19 (.cons (.var 0) .nil))) .nil) (.nil)) (.cons (.set 2 (.bin .mod (.bi .int (.cons (.idx (.var 0) (.str "rest")) .nil)) (.var 1))) (.cons (.sto (.var 0) (.str "rest") (.bin .fdiv (.bi .int (.cons (.idx (.var 0) (.str "rest")) .nil)) (.var 1))) (.cons (.ret (.var 2)) .nil))))
def c__law_take : Cc := ⟨["_law_draw", "_law_size", "_law_found"], GL, [19], [], TYS, [0, 1, 2, 3, 4], [], "_law_caught", XNS, GTS⟩
def F__law_take : Nat → DSp | 19 => sp__law_blend | _ => fun _ _ _ _ => False
def sp__law_take : DSp := defSp F__law_take S 3 2 t__law_take
theorem k__law_take : isB c__law_take [] (defScope (st 25)) t__law_take (defBody (st 25)) = true := by decide +kernel
theorem s__law_take : FnScope c__law_take.N ["_law_draw", "_law_size"] (defScope (st 25)) := C8.fnScope_by (by decide +kernel)
theorem b__law_take : ∀ (kV doc pm : Value) (an : Option Addr) (cdv ct : Value) (us : List Value), us.length = (["_law_draw", "_law_size"] : List Str).length → bindArgs (PySem.W.fnOf "_law_take" "_law_take" (defArgs (st 25)) (defBody (st 25)) (defScope (st 25)) .none kV doc pm an cdv ct) ⟨us, []⟩ = pure ((["_law_draw", "_law_size"] : List Str).zip us) := fun _ _ _ _ _ _ us hl => match us, hl with | [_, _], _ => rfl
/-! _law_pick -/
def t__law_pick : Mb := .cons (.ret (.idx (.var 1) (.call 20 (.cons (.var 0) (.cons (.bi .len (.cons (.var 1) .nil)) .nil))))) .nil
def c__law_pick : Cc := ⟨["_law_draw", "_law_some"], GL, [20], [], TYS, [0, 1, 2, 3, 4], [], "_law_caught", XNS, GTS⟩
def F__law_pick : Nat → DSp | 20 => sp__law_take | _ => fun _ _ _ _ => False
def sp__law_pick : DSp := defSp F__law_pick S 2 2 t__law_pick
theorem k__law_pick : isB c__law_pick [] (defScope (st 26)) t__law_pick (defBody (st 26)) = true := by decide +kernel
theorem s__law_pick : FnScope c__law_pick.N ["_law_draw", "_law_some"] (defScope (st 26)) := C8.fnScope_by (by decide +kernel)
theorem b__law_pick : ∀ (kV doc pm : Value) (an : Option Addr) (cdv ct : Value) (us : List Value), us.length = (["_law_draw", "_law_some"] : List Str).length → bindArgs (PySem.W.fnOf "_law_pick" "_law_pick" (defArgs (st 26)) (defBody (st 26)) (defScope (st 26)) .none kV doc pm an cdv ct) ⟨us, []⟩ = pure ((["_law_draw", "_law_some"] : List Str).zip us) := fun _ _ _ _ _ _ us hl => match us, hl with | [_, _], _ => rfl
/-! _law_table -/
def t__law_table_1 : Mb := .cons (.set 9 (.comp (.rng1 (.var 3)) 6 [6] (.no) (.call 20 (.cons (.var 0) (.cons (.var 3) .nil))))) (.cons (.ife (.cmp .eq (.var 4) (.int 1)) (.cons (.set 9 (.comp (.rng1 (.var 3)) 6 [6] (.no) (.ifx (.and (.cmp .gt (.var 6) (.int 0)) (.cmp .gt (.call 20 (.cons (.var 0) (.cons (.int 3) .nil))) (.int 0))) (.var 6) (.idx (.var 9) (.var 6))))) .nil) (.nil)) (.cons (.ife (.cmp .eq (.var 4) (.int 2)) (.cons (.set 9 (.comp (.rng1 (.var 3)) 6 [6] (.no) (.ifx (.and (.cmp .gt (.var 6) (.int 0)) (.cmp .gt (.call 20 (.cons (.var 0) (.cons (.int 4) .nil))) (.int 0))) (.idx (.var 5) (.var 6)) (.idx (.var 9) (.var 6))))) .nil) (.nil)) (.cons (.ife (.cmp .eq (.var 4) (.int 3)) (.cons (.set 9 (.call 21 (.cons (.var 0) (.cons (.lst (.cons (.bin .mul (.lst (.cons (.idx (.var 9) (.int 0)) .nil)) (.var 3)) (.cons (.lrg1 (.var 3)) (.cons (.bin .add (.lst (.cons (.idx (.var 9) (.int 0)) .nil)) (.lrg2 (.int 1) (.var 3))) .nil)))) .nil)))) .nil) (.nil)) (.cons (.expr (.meth .append (.var 7) (.cons (.bi .tuple (.cons (.var 9) .nil)) .nil))) .nil))))
def t__law_table : Mb := .cons (.tset (.tp [.nm 3, .nm 4]) (.tup (.cons (.bin .add (.int 1) (.call 20 (.cons (.var 0) (.cons (.var 1) .nil)))) (.cons (.call 20 (.cons (.var 0) (.cons (.int 5) .nil))) .nil)))) (.cons (.set 5 (.comp (.rng1 (.var 3)) 6 [6] (.no) (.call 20 (.cons (.var 0) (.cons (.var 3) .nil))))) (.cons (.set 7 (.lst (.nil))) (.cons (.fr (.rng1 (.bin .add (.int 1) (.call 20 (.cons (.var 0) (.cons (.var 2) .nil))))) (.nm 8) t__law_table_1) (.cons (.ret (.var 7)) .nil))))
def c__law_table : Cc := ⟨["_law_draw", "_law_most", "_law_many", "_law_size", "_law_way", "_law_base", "_law_value", "_law_found", "_law_lap", "_law_row"], GL, [20, 21], [], TYS, [0, 1, 2, 3, 4], [], "_law_caught", XNS, GTS⟩
def F__law_table : Nat → DSp | 20 => sp__law_take | 21 => sp__law_pick | _ => fun _ _ _ _ => False
def sp__law_table : DSp := defSp F__law_table S 10 3 t__law_table
theorem k__law_table : isB c__law_table [] (defScope (st 33)) t__law_table (defBody (st 33)) = true := by decide +kernel
theorem s__law_table : FnScope c__law_table.N ["_law_draw", "_law_most", "_law_many"] (defScope (st 33)) := C8.fnScope_by (by decide +kernel)
theorem b__law_table : ∀ (kV doc pm : Value) (an : Option Addr) (cdv ct : Value) (us : List Value), us.length = (["_law_draw", "_law_most", "_law_many"] : List Str).length → bindArgs (PySem.W.fnOf "_law_table" "_law_table" (defArgs (st 33)) (defBody (st 33)) (defScope (st 33)) .none kV doc pm an cdv ct) ⟨us, []⟩ = pure ((["_law_draw", "_law_most", "_law_many"] : List Str).zip us) := fun _ _ _ _ _ _ us hl => match us, hl with | [_, _, _], _ => rfl
/-! is_number -/
def t_is_number : Mb := .cons (.ret (.and (.isi [0, 1, 2, 3, 4] (.var 0) (.b "int")) (.not (.isi [0, 1, 2, 3, 4] (.var 0) (.b "bool"))))) .nil
def c_is_number : Cc := ⟨["thing"], GL, [], [], TYS, [0, 1, 2, 3, 4], [], "_law_caught", XNS, GTS⟩
def F_is_number : Nat → DSp | _ => fun _ _ _ _ => False
def sp_is_number : DSp := defSp F_is_number S 1 1 t_is_number
theorem k_is_number : isB c_is_number [] (defScope (st 7)) t_is_number (defBody (st 7)) = true := by decide +kernel
theorem s_is_number : FnScope c_is_number.N ["thing"] (defScope (st 7)) := C8.fnScope_by (by decide +kernel)
theorem b_is_number : ∀ (kV doc pm : Value) (an : Option Addr) (cdv ct : Value) (us : List Value), us.length = (["thing"] : List Str).length → bindArgs (PySem.W.fnOf "is_number" "is_number" (defArgs (st 7)) (defBody (st 7)) (defScope (st 7)) .none kV doc pm an cdv ct) ⟨us, []⟩ = pure ((["thing"] : List Str).zip us) := fun _ _ _ _ _ _ us hl => match us, hl with | [_], _ => rfl
/-! is_index -/
def t_is_index : Mb := .cons (.ret (.and (.call 5 (.cons (.var 0) .nil)) (.chain .le .lt (.int 0) (.var 0) (.var 1)))) .nil
def c_is_index : Cc := ⟨["thing", "many"], GL, [5], [], TYS, [0, 1, 2, 3, 4], [], "_law_caught", XNS, GTS⟩
def F_is_index : Nat → DSp | 5 => sp_is_number | _ => fun _ _ _ _ => False
def sp_is_index : DSp := defSp F_is_index S 2 2 t_is_index
theorem k_is_index : isB c_is_index [] (defScope (st 16)) t_is_index (defBody (st 16)) = true := by decide +kernel
theorem s_is_index : FnScope c_is_index.N ["thing", "many"] (defScope (st 16)) := C8.fnScope_by (by decide +kernel)
theorem b_is_index : ∀ (kV doc pm : Value) (an : Option Addr) (cdv ct : Value) (us : List Value), us.length = (["thing", "many"] : List Str).length → bindArgs (PySem.W.fnOf "is_index" "is_index" (defArgs (st 16)) (defBody (st 16)) (defScope (st 16)) .none kV doc pm an cdv ct) ⟨us, []⟩ = pure ((["thing", "many"] : List Str).zip us) := fun _ _ _ _ _ _ us hl => match us, hl with | [_, _], _ => rfl
/-! is_table_row -/
def t_is_table_row : Mb := .cons (.ret (.and (.isi [0, 1, 2, 3, 4] (.var 0) (.b "tuple")) (.and (.cmp .eq (.bi .len (.cons (.var 0) .nil)) (.var 1)) (.bi .all (.cons (.comp (.seq (.var 0)) 2 [2] (.no) (.call 12 (.cons (.var 2) (.cons (.var 1) .nil)))) .nil))))) .nil
def c_is_table_row : Cc := ⟨["thing", "many", "item"], GL, [12], [], TYS, [0, 1, 2, 3, 4], [], "_law_caught", XNS, GTS⟩
def F_is_table_row : Nat → DSp | 12 => sp_is_index | _ => fun _ _ _ _ => False
def sp_is_table_row : DSp := defSp F_is_table_row S 3 2 t_is_table_row
theorem k_is_table_row : isB c_is_table_row [] (defScope (st 17)) t_is_table_row (defBody (st 17)) = true := by decide +kernel
theorem s_is_table_row : FnScope c_is_table_row.N ["thing", "many"] (defScope (st 17)) := C8.fnScope_by (by decide +kernel)
theorem b_is_table_row : ∀ (kV doc pm : Value) (an : Option Addr) (cdv ct : Value) (us : List Value), us.length = (["thing", "many"] : List Str).length → bindArgs (PySem.W.fnOf "is_table_row" "is_table_row" (defArgs (st 17)) (defBody (st 17)) (defScope (st 17)) .none kV doc pm an cdv ct) ⟨us, []⟩ = pure ((["thing", "many"] : List Str).zip us) := fun _ _ _ _ _ _ us hl => match us, hl with | [_, _], _ => rfl
/-! need_table -/
def t_need_table : Mb := .cons (.ife (.or (.not (.isis (.var 0) ["list", "tuple"])) (.or (.not (.chain .le .le (.int 1) (.bi .len (.cons (.var 0) .nil)) (.int 6))) (.not (.isi [0, 1, 2, 3, 4] (.idx (.var 0) (.int 0)) (.b "tuple"))))) (.cons (.rais 2) .nil) (.nil)) (.cons (.ife (.or (.not (.chain .le .le (.int 1) (.bi .len (.cons (.idx (.var 0) (.int 0)) .nil)) (.int 6))) (.not (.bi .all (.cons (.comp (.seq (.var 0)) 1 [1] (.no) (.call 13 (.cons (.var 1) (.cons (.bi .len (.cons (.idx (.var 0) (.int 0)) .nil)) .nil)))) .nil)))) (.cons (.rais 2) .nil) (.nil)) .nil)
def c_need_table : Cc := ⟨["thing", "row"], GL, [13], [], TYS, [0, 1, 2, 3, 4], [], "_law_caught", XNS, GTS⟩
def F_need_table : Nat → DSp | 13 => sp_is_table_row | _ => fun _ _ _ _ => False
def sp_need_table : DSp := defSp F_need_table S 2 1 t_need_table
theorem k_need_table : isB c_need_table [2] (defScope (st 18)) t_need_table (defBody (st 18)) = true := by decide +kernel
theorem s_need_table : FnScope c_need_table.N ["thing"] (defScope (st 18)) := C8.fnScope_by (by decide +kernel)
theorem b_need_table : ∀ (kV doc pm : Value) (an : Option Addr) (cdv ct : Value) (us : List Value), us.length = (["thing"] : List Str).length → bindArgs (PySem.W.fnOf "need_table" "need_table" (defArgs (st 18)) (defBody (st 18)) (defScope (st 18)) .none kV doc pm an cdv ct) ⟨us, []⟩ = pure ((["thing"] : List Str).zip us) := fun _ _ _ _ _ _ us hl => match us, hl with | [_], _ => rfl
/-! values_by -/
def t_values_by_1 : Mb := .cons (.ife (.cmp .lt (.var 2) (.bi .len (.cons (.var 1) .nil))) (.cons (.set 3 (.idx (.var 1) (.var 2))) (.cons (.set 1 (.bin .add (.var 1) (.sset (.seq (.var 0)) 4 [4] (.yes (.cmp .notin (.idx (.var 4) (.var 3)) (.var 1))) (.idx (.var 4) (.var 3))))) .nil)) (.nil)) .nil
def t_values_by : Mb := .cons (.set 1 (.lst (.cons (.int 0) .nil))) (.cons (.fr (.rng1 (.bi .len (.cons (.idx (.var 0) (.int 0)) .nil))) (.nm 2) t_values_by_1) (.cons (.ret (.var 1)) .nil))
def c_values_by : Cc := ⟨["table", "found", "value", "here", "row"], GL, [], [], TYS, [0, 1, 2, 3, 4], [], "_law_caught", XNS, GTS⟩
def F_values_by : Nat → DSp | _ => fun _ _ _ _ => False
def sp_values_by : DSp := defSp F_values_by S 5 1 t_values_by
theorem k_values_by : isB c_values_by [] (defScope (st 19)) t_values_by (defBody (st 19)) = true := by decide +kernel
theorem s_values_by : FnScope c_values_by.N ["table"] (defScope (st 19)) := C8.fnScope_by (by decide +kernel)
theorem b_values_by : ∀ (kV doc pm : Value) (an : Option Addr) (cdv ct : Value) (us : List Value), us.length = (["table"] : List Str).length → bindArgs (PySem.W.fnOf "values_by" "values_by" (defArgs (st 19)) (defBody (st 19)) (defScope (st 19)) .none kV doc pm an cdv ct) ⟨us, []⟩ = pure ((["table"] : List Str).zip us) := fun _ _ _ _ _ _ us hl => match us, hl with | [_], _ => rfl
/-! values_from -/
def t_values_from : Mb := .cons (.expr (.call 14 (.cons (.var 0) .nil))) (.cons (.ret (.bi .sorted (.cons (.call 15 (.cons (.var 0) .nil)) .nil))) .nil)
def c_values_from : Cc := ⟨["table"], GL, [14, 15], [], TYS, [0, 1, 2, 3, 4], [], "_law_caught", XNS, GTS⟩
def F_values_from : Nat → DSp | 14 => sp_need_table | 15 => sp_values_by | _ => fun _ _ _ _ => False
def sp_values_from : DSp := defSp F_values_from S 1 1 t_values_from
theorem k_values_from : isB c_values_from [] (defScope (st 20)) t_values_from (defBody (st 20)) = true := by decide +kernel
theorem s_values_from : FnScope c_values_from.N ["table"] (defScope (st 20)) := C8.fnScope_by (by decide +kernel)
theorem b_values_from : ∀ (kV doc pm : Value) (an : Option Addr) (cdv ct : Value) (us : List Value), us.length = (["table"] : List Str).length → bindArgs (PySem.W.fnOf "values_from" "values_from" (defArgs (st 20)) (defBody (st 20)) (defScope (st 20)) .none kV doc pm an cdv ct) ⟨us, []⟩ = pure ((["table"] : List Str).zip us) := fun _ _ _ _ _ _ us hl => match us, hl with | [_], _ => rfl
theorem w_values_from_0 : KwI "values_from" (st 20) ["table"] 0 ["table"] [0] := fun _ _ _ _ _ _ us ws h1 h2 => match us, ws, h1, h2 with | [], [_], _, _ => rfl
/-! _law_reached -/
def t__law_reached_1 : Mb := .cons (.ife (.cmp .notin (.idx (.var 4) (.var 3)) (.var 1)) (.cons (.expr (.meth .append (.var 1) (.cons (.idx (.var 4) (.var 3)) .nil))) .nil) (.nil)) .nil
def t__law_reached_2 : Mb := .cons (.fr (.seq (.var 0)) (.nm 4) t__law_reached_1) .nil
def t__law_reached_3 : Mb := .cons (.fr (.seq (.bi .list (.cons (.var 1) .nil))) (.nm 3) t__law_reached_2) .nil
def t__law_reached : Mb := .cons (.set 1 (.lst (.cons (.int 0) .nil))) (.cons (.fr (.rng1 (.bi .len (.cons (.idx (.var 0) (.int 0)) .nil))) (.nm 2) t__law_reached_3) (.cons (.ret (.bi .sorted (.cons (.var 1) .nil))) .nil))
def c__law_reached : Cc := ⟨["_law_table_here", "_law_found", "_law_lap", "_law_value", "_law_row"], GL, [], [], TYS, [0, 1, 2, 3, 4], [], "_law_caught", XNS, GTS⟩
def F__law_reached : Nat → DSp | _ => fun _ _ _ _ => False
def sp__law_reached : DSp := defSp F__law_reached S 5 1 t__law_reached
theorem k__law_reached : isB c__law_reached [] (defScope (st 34)) t__law_reached (defBody (st 34)) = true := by decide +kernel
theorem s__law_reached : FnScope c__law_reached.N ["_law_table_here"] (defScope (st 34)) := C8.fnScope_by (by decide +kernel)
theorem b__law_reached : ∀ (kV doc pm : Value) (an : Option Addr) (cdv ct : Value) (us : List Value), us.length = (["_law_table_here"] : List Str).length → bindArgs (PySem.W.fnOf "_law_reached" "_law_reached" (defArgs (st 34)) (defBody (st 34)) (defScope (st 34)) .none kV doc pm an cdv ct) ⟨us, []⟩ = pure ((["_law_table_here"] : List Str).zip us) := fun _ _ _ _ _ _ us hl => match us, hl with | [_], _ => rfl
/-! _law_words -/
def t__law_words : Mb := .cons (.ret (.lst (.cons (.str "safe") (.cons (.str "beneath") (.cons (.str "turns") (.cons (.str "behind") (.cons (.str "stop") (.cons (.str "own") (.cons (.str "anew") (.cons (.str "roots") (.cons (.str "records") .nil))))))))))) .nil
def c__law_words : Cc := ⟨[], GL, [], [], TYS, [0, 1, 2, 3, 4], [], "_law_caught", XNS, GTS⟩
def F__law_words : Nat → DSp | _ => fun _ _ _ _ => False
def sp__law_words : DSp := defSp F__law_words S 0 0 t__law_words
theorem k__law_words : isB c__law_words [] (defScope (st 32)) t__law_words (defBody (st 32)) = true := by decide +kernel
theorem s__law_words : FnScope c__law_words.N [] (defScope (st 32)) := C8.fnScope_by (by decide +kernel)
theorem b__law_words : ∀ (kV doc pm : Value) (an : Option Addr) (cdv ct : Value) (us : List Value), us.length = ([] : List Str).length → bindArgs (PySem.W.fnOf "_law_words" "_law_words" (defArgs (st 32)) (defBody (st 32)) (defScope (st 32)) .none kV doc pm an cdv ct) ⟨us, []⟩ = pure (([] : List Str).zip us) := fun _ _ _ _ _ _ us hl => match us, hl with | [], _ => rfl
/-! _law_number -/
def t__law_number : Mb := .cons (.ife (.and (.var 1) (.cmp .eq (.call 20 (.cons (.var 0) (.cons (.int 3) .nil))) (.int 0))) (.cons (.ret (.bin .sub (.call 20 (.cons (.var 0) (.cons (.int 1999999999) .nil))) (.int 999999999))) .nil) (.nil)) (.cons (.ret (.bin .sub (.call 20 (.cons (.var 0) (.cons (.int 13) .nil))) (.int 6))) .nil)
def c__law_number : Cc := ⟨["_law_draw", "_law_is_wide"], GL, [20], [], TYS, [0, 1, 2, 3, 4], [], "_law_caught", XNS, GTS⟩
def F__law_number : Nat → DSp | 20 => sp__law_take | _ => fun _ _ _ _ => False
def sp__law_number : DSp := defSp F__law_number S 2 2 t__law_number
theorem k__law_number : isB c__law_number [] (defScope (st 29)) t__law_number (defBody (st 29)) = true := by decide +kernel
theorem s__law_number : FnScope c__law_number.N ["_law_draw", "_law_is_wide"] (defScope (st 29)) := C8.fnScope_by (by decide +kernel)
theorem b__law_number : ∀ (kV doc pm : Value) (an : Option Addr) (cdv ct : Value) (us : List Value), us.length = (["_law_draw", "_law_is_wide"] : List Str).length → bindArgs (PySem.W.fnOf "_law_number" "_law_number" (defArgs (st 29)) (defBody (st 29)) (defScope (st 29)) .none kV doc pm an cdv ct) ⟨us, []⟩ = pure ((["_law_draw", "_law_is_wide"] : List Str).zip us) := fun _ _ _ _ _ _ us hl => match us, hl with | [_, _], _ => rfl
/-! _law_a_change -/
def t__law_a_change : Mb := .cons (.par [2, 3] (.cons (.call 20 (.cons (.var 0) (.cons (.int 9) .nil))) (.cons (.call 24 (.cons (.var 0) (.cons (.var 1) .nil))) .nil))) (.cons (.set 4 (.call 24 (.cons (.var 0) (.cons (.var 1) .nil)))) (.cons (.set 5 (.bi .min2 (.cons (.int 999999999) (.cons (.bin .add (.var 4) (.call 21 (.cons (.var 0) (.cons (.lst (.cons (.int 1) (.cons (.int 1) (.cons (.int 2) (.cons (.int 3) (.cons (.int 4) (.cons (.int 6) (.cons (.int 9) (.cons (.int 40) .nil))))))))) .nil)))) .nil)))) (.cons (.set 6 (.call 21 (.cons (.var 0) (.cons (.lst (.cons (.non) (.cons (.non) (.cons (.var 4) (.cons (.var 5) (.cons (.bin .sub (.var 4) (.int 1)) (.cons (.var 3) (.cons (.int 0) .nil)))))))) .nil)))) (.cons (.ife (.cmp .eq (.var 2) (.int 0)) (.cons (.ret (.tup (.cons (.var 6) (.cons (.non) .nil)))) .nil) (.nil)) (.cons (.ife (.or (.cmp .eq (.var 4) (.var 5)) (.cmp .eq (.var 2) (.int 1))) (.cons (.ret (.tup (.cons (.var 6) (.cons (.tup (.cons (.int 0) (.cons (.var 4) (.cons (.var 4) .nil)))) .nil)))) .nil) (.nil)) (.cons (.set 7 (.lst (.cons (.tup (.cons (.var 3) (.cons (.non) (.cons (.non) .nil)))) (.cons (.tup (.cons (.int 0) (.cons (.non) (.cons (.non) .nil)))) (.cons (.tup (.cons (.var 3) (.cons (.var 4) (.cons (.non) .nil)))) (.cons (.tup (.cons (.var 3) (.cons (.non) (.cons (.var 5) .nil)))) .nil)))))) (.cons (.set 7 (.bin .add (.var 7) (.lst (.cons (.tup (.cons (.var 3) (.cons (.var 4) (.cons (.var 5) .nil)))) (.cons (.tup (.cons (.int 0) (.cons (.var 4) (.cons (.var 5) .nil)))) (.cons (.tup (.cons (.var 3) (.cons (.var 4) (.cons (.var 5) .nil)))) .nil)))))) (.cons (.ret (.tup (.cons (.var 6) (.cons (.idx (.var 7) (.bin .sub (.var 2) (.int 2))) .nil)))) .nil))))))))
def c__law_a_change : Cc := ⟨["_law_draw", "_law_is_wide", "_law_way", "_law_step", "_law_low", "_law_high", "_law_absent", "_law_table_here"], GL, [20, 24, 21], [], TYS, [0, 1, 2, 3, 4], [], "_law_caught", XNS, GTS⟩
def F__law_a_change : Nat → DSp | 20 => sp__law_take | 24 => sp__law_number | 21 => sp__law_pick | _ => fun _ _ _ _ => False
def sp__law_a_change : DSp := defSp F__law_a_change S 8 2 t__law_a_change
theorem k__law_a_change : isB c__law_a_change [] (defScope (st 30)) t__law_a_change (defBody (st 30)) = true := by decide +kernel
theorem s__law_a_change : FnScope c__law_a_change.N ["_law_draw", "_law_is_wide"] (defScope (st 30)) := C8.fnScope_by (by decide +kernel)
theorem b__law_a_change : ∀ (kV doc pm : Value) (an : Option Addr) (cdv ct : Value) (us : List Value), us.length = (["_law_draw", "_law_is_wide"] : List Str).length → bindArgs (PySem.W.fnOf "_law_a_change" "_law_a_change" (defArgs (st 30)) (defBody (st 30)) (defScope (st 30)) .none kV doc pm an cdv ct) ⟨us, []⟩ = pure ((["_law_draw", "_law_is_wide"] : List Str).zip us) := fun _ _ _ _ _ _ us hl => match us, hl with | [_, _], _ => rfl
/-! _law_some_changes -/
def t__law_some_changes_1 : Mb := .cons (.set 4 (.bin .add (.var 2) (.call 20 (.cons (.var 0) (.cons (.int 3) .nil))))) (.cons (.expr (.meth .append (.var 1) (.cons (.call 21 (.cons (.var 0) (.cons (.lst (.cons (.tup (.cons (.var 4) (.cons (.tup (.cons (.int 0) (.cons (.var 4) (.cons (.var 4) .nil)))) .nil))) (.cons (.tup (.cons (.non) (.cons (.non) .nil))) (.cons (.tup (.cons (.non) (.cons (.tup (.cons (.int 0) (.cons (.var 4) (.cons (.non) .nil)))) .nil))) (.cons (.tup (.cons (.non) (.cons (.tup (.cons (.int 0) (.cons (.non) (.cons (.var 4) .nil)))) .nil))) (.cons (.tup (.cons (.var 4) (.cons (.tup (.cons (.int 0) (.cons (.non) (.cons (.non) .nil)))) .nil))) (.cons (.tup (.cons (.non) (.cons (.tup (.cons (.int 0) (.cons (.non) (.cons (.non) .nil)))) .nil))) (.cons (.tup (.cons (.var 2) (.cons (.tup (.cons (.int 1) (.cons (.non) (.cons (.bin .add (.var 2) (.int 2)) .nil)))) .nil))) (.cons (.tup (.cons (.non) (.cons (.tup (.cons (.bin .sub (.int 0) (.int 1)) (.cons (.var 2) (.cons (.non) .nil)))) .nil))) (.cons (.call 25 (.cons (.var 0) (.cons (.bl false) .nil))) .nil)))))))))) .nil))) .nil))) .nil)
def t__law_some_changes : Mb := .cons (.par [1, 2] (.cons (.lst (.nil)) (.cons (.bin .sub (.call 20 (.cons (.var 0) (.cons (.int 5) .nil))) (.int 2)) .nil))) (.cons (.fr (.rng1 (.bin .add (.int 1) (.call 20 (.cons (.var 0) (.cons (.int 6) .nil))))) (.nm 3) t__law_some_changes_1) (.cons (.ret (.tup (.cons (.var 1) (.cons (.call 21 (.cons (.var 0) (.cons (.lst (.cons (.non) (.cons (.non) (.cons (.var 2) (.cons (.int 0) (.cons (.bin .add (.var 2) (.int 1)) .nil)))))) .nil))) .nil)))) .nil))
def c__law_some_changes : Cc := ⟨["_law_draw", "_law_found", "_law_number_here", "_law_lap", "_law_more"], GL, [20, 21, 25], [], TYS, [0, 1, 2, 3, 4], [], "_law_caught", XNS, GTS⟩
def F__law_some_changes : Nat → DSp | 20 => sp__law_take | 21 => sp__law_pick | 25 => sp__law_a_change | _ => fun _ _ _ _ => False
def sp__law_some_changes : DSp := defSp F__law_some_changes S 5 1 t__law_some_changes
theorem k__law_some_changes : isB c__law_some_changes [] (defScope (st 36)) t__law_some_changes (defBody (st 36)) = true := by decide +kernel
theorem s__law_some_changes : FnScope c__law_some_changes.N ["_law_draw"] (defScope (st 36)) := C8.fnScope_by (by decide +kernel)
theorem b__law_some_changes : ∀ (kV doc pm : Value) (an : Option Addr) (cdv ct : Value) (us : List Value), us.length = (["_law_draw"] : List Str).length → bindArgs (PySem.W.fnOf "_law_some_changes" "_law_some_changes" (defArgs (st 36)) (defBody (st 36)) (defScope (st 36)) .none kV doc pm an cdv ct) ⟨us, []⟩ = pure ((["_law_draw"] : List Str).zip us) := fun _ _ _ _ _ _ us hl => match us, hl with | [_], _ => rfl
/-! _law_acted -/
def t__law_acted : Mb := .cons (.ife (.or (.cmp .is (.var 1) (.non)) (.cmp .is (.idx (.var 0) (.int 1)) (.non))) (.cons (.ret (.ifx (.cmp .is (.var 1) (.non)) (.idx (.var 0) (.int 0)) (.non))) .nil) (.nil)) (.cons (.tset (.tp [.nm 2, .nm 3, .nm 4]) (.idx (.var 0) (.int 1))) (.cons (.set 5 (.bin .add (.var 1) (.var 2))) (.cons (.set 5 (.ifx (.cmp .is (.var 3) (.non)) (.var 5) (.bi .max2 (.cons (.var 5) (.cons (.var 3) .nil))))) (.cons (.ret (.ifx (.cmp .is (.var 4) (.non)) (.var 5) (.bi .min2 (.cons (.var 5) (.cons (.var 4) .nil))))) .nil))))
def c__law_acted : Cc := ⟨["_law_change", "_law_value", "_law_step", "_law_low", "_law_high", "_law_found"], GL, [], [], TYS, [0, 1, 2, 3, 4], [], "_law_caught", XNS, GTS⟩
def F__law_acted : Nat → DSp | _ => fun _ _ _ _ => False
def sp__law_acted : DSp := defSp F__law_acted S 6 2 t__law_acted
theorem k__law_acted : isB c__law_acted [] (defScope (st 28)) t__law_acted (defBody (st 28)) = true := by decide +kernel
theorem s__law_acted : FnScope c__law_acted.N ["_law_change", "_law_value"] (defScope (st 28)) := C8.fnScope_by (by decide +kernel)
theorem b__law_acted : ∀ (kV doc pm : Value) (an : Option Addr) (cdv ct : Value) (us : List Value), us.length = (["_law_change", "_law_value"] : List Str).length → bindArgs (PySem.W.fnOf "_law_acted" "_law_acted" (defArgs (st 28)) (defBody (st 28)) (defScope (st 28)) .none kV doc pm an cdv ct) ⟨us, []⟩ = pure ((["_law_change", "_law_value"] : List Str).zip us) := fun _ _ _ _ _ _ us hl => match us, hl with | [_, _], _ => rfl
/-! _law_values -/
def t__law_values_1 : Mb := .cons (.ife (.cmp .notin (.call 23 (.cons (.var 5) (.cons (.var 4) .nil))) (.var 2)) (.cons (.expr (.meth .append (.var 2) (.cons (.call 23 (.cons (.var 5) (.cons (.var 4) .nil))) .nil))) .nil) (.nil)) .nil
def t__law_values_2 : Mb := .cons (.fr (.seq (.var 0)) (.nm 5) t__law_values_1) .nil
def t__law_values_3 : Mb := .cons (.fr (.seq (.bi .list (.cons (.var 2) .nil))) (.nm 4) t__law_values_2) (.cons (.ife (.cmp .gt (.bi .len (.cons (.var 2) .nil)) (.int 6)) (.cons (.ret (.non)) .nil) (.nil)) .nil)
def t__law_values : Mb := .cons (.set 2 (.lst (.cons (.var 1) .nil))) (.cons (.fr (.rng1 (.int 8)) (.nm 3) t__law_values_3) (.cons (.ret (.var 2)) .nil))
def c__law_values : Cc := ⟨["_law_changes", "_law_start", "_law_found", "_law_lap", "_law_value", "_law_change"], GL, [23], [], TYS, [0, 1, 2, 3, 4], [], "_law_caught", XNS, GTS⟩
def F__law_values : Nat → DSp | 23 => sp__law_acted | _ => fun _ _ _ _ => False
def sp__law_values : DSp := defSp F__law_values S 6 2 t__law_values
theorem k__law_values : isB c__law_values [] (defScope (st 37)) t__law_values (defBody (st 37)) = true := by decide +kernel
theorem s__law_values : FnScope c__law_values.N ["_law_changes", "_law_start"] (defScope (st 37)) := C8.fnScope_by (by decide +kernel)
theorem b__law_values : ∀ (kV doc pm : Value) (an : Option Addr) (cdv ct : Value) (us : List Value), us.length = (["_law_changes", "_law_start"] : List Str).length → bindArgs (PySem.W.fnOf "_law_values" "_law_values" (defArgs (st 37)) (defBody (st 37)) (defScope (st 37)) .none kV doc pm an cdv ct) ⟨us, []⟩ = pure ((["_law_changes", "_law_start"] : List Str).zip us) := fun _ _ _ _ _ _ us hl => match us, hl with | [_, _], _ => rfl
/-! is_value -/
def t_is_value : Mb := .cons (.ret (.or (.cmp .is (.var 0) (.non)) (.call 5 (.cons (.var 0) .nil)))) .nil
def c_is_value : Cc := ⟨["thing"], GL, [5], [], TYS, [0, 1, 2, 3, 4], [], "_law_caught", XNS, GTS⟩
def F_is_value : Nat → DSp | 5 => sp_is_number | _ => fun _ _ _ _ => False
def sp_is_value : DSp := defSp F_is_value S 1 1 t_is_value
theorem k_is_value : isB c_is_value [] (defScope (st 8)) t_is_value (defBody (st 8)) = true := by decide +kernel
theorem s_is_value : FnScope c_is_value.N ["thing"] (defScope (st 8)) := C8.fnScope_by (by decide +kernel)
theorem b_is_value : ∀ (kV doc pm : Value) (an : Option Addr) (cdv ct : Value) (us : List Value), us.length = (["thing"] : List Str).length → bindArgs (PySem.W.fnOf "is_value" "is_value" (defArgs (st 8)) (defBody (st 8)) (defScope (st 8)) .none kV doc pm an cdv ct) ⟨us, []⟩ = pure ((["thing"] : List Str).zip us) := fun _ _ _ _ _ _ us hl => match us, hl with | [_], _ => rfl
/-! is_triple -/
def t_is_triple : Mb := .cons (.ife (.or (.not (.isi [0, 1, 2, 3, 4] (.var 0) (.b "tuple"))) (.or (.cmp .ne (.bi .len (.cons (.var 0) .nil)) (.int 3)) (.not (.call 5 (.cons (.idx (.var 0) (.int 0)) .nil))))) (.cons (.ret (.bl false)) .nil) (.nil)) (.cons (.tset (.tp [.nm 1, .nm 2, .nm 3]) (.var 0)) (.cons (.ife (.or (.not (.call 6 (.cons (.var 2) .nil))) (.not (.call 6 (.cons (.var 3) .nil)))) (.cons (.ret (.bl false)) .nil) (.nil)) (.cons (.ife (.or (.cmp .is (.var 2) (.non)) (.cmp .is (.var 3) (.non))) (.cons (.ret (.bl true)) .nil) (.nil)) (.cons (.ret (.or (.cmp .lt (.var 2) (.var 3)) (.and (.cmp .eq (.var 2) (.var 3)) (.cmp .eq (.var 1) (.int 0))))) .nil))))
def c_is_triple : Cc := ⟨["thing", "step", "low", "high"], GL, [5, 6], [], TYS, [0, 1, 2, 3, 4], [], "_law_caught", XNS, GTS⟩
def F_is_triple : Nat → DSp | 5 => sp_is_number | 6 => sp_is_value | _ => fun _ _ _ _ => False
def sp_is_triple : DSp := defSp F_is_triple S 4 1 t_is_triple
theorem k_is_triple : isB c_is_triple [] (defScope (st 9)) t_is_triple (defBody (st 9)) = true := by decide +kernel
theorem s_is_triple : FnScope c_is_triple.N ["thing"] (defScope (st 9)) := C8.fnScope_by (by decide +kernel)
theorem b_is_triple : ∀ (kV doc pm : Value) (an : Option Addr) (cdv ct : Value) (us : List Value), us.length = (["thing"] : List Str).length → bindArgs (PySem.W.fnOf "is_triple" "is_triple" (defArgs (st 9)) (defBody (st 9)) (defScope (st 9)) .none kV doc pm an cdv ct) ⟨us, []⟩ = pure ((["thing"] : List Str).zip us) := fun _ _ _ _ _ _ us hl => match us, hl with | [_], _ => rfl
/-! is_change -/
def t_is_change : Mb := .cons (.ife (.or (.not (.isi [0, 1, 2, 3, 4] (.var 0) (.b "tuple"))) (.or (.cmp .ne (.bi .len (.cons (.var 0) .nil)) (.int 2)) (.not (.call 6 (.cons (.idx (.var 0) (.int 0)) .nil))))) (.cons (.ret (.bl false)) .nil) (.nil)) (.cons (.ret (.or (.cmp .is (.idx (.var 0) (.int 1)) (.non)) (.call 7 (.cons (.idx (.var 0) (.int 1)) .nil)))) .nil)
def c_is_change : Cc := ⟨["thing"], GL, [6, 7], [], TYS, [0, 1, 2, 3, 4], [], "_law_caught", XNS, GTS⟩
def F_is_change : Nat → DSp | 6 => sp_is_value | 7 => sp_is_triple | _ => fun _ _ _ _ => False
def sp_is_change : DSp := defSp F_is_change S 1 1 t_is_change
theorem k_is_change : isB c_is_change [] (defScope (st 10)) t_is_change (defBody (st 10)) = true := by decide +kernel
theorem s_is_change : FnScope c_is_change.N ["thing"] (defScope (st 10)) := C8.fnScope_by (by decide +kernel)
theorem b_is_change : ∀ (kV doc pm : Value) (an : Option Addr) (cdv ct : Value) (us : List Value), us.length = (["thing"] : List Str).length → bindArgs (PySem.W.fnOf "is_change" "is_change" (defArgs (st 10)) (defBody (st 10)) (defScope (st 10)) .none kV doc pm an cdv ct) ⟨us, []⟩ = pure ((["thing"] : List Str).zip us) := fun _ _ _ _ _ _ us hl => match us, hl with | [_], _ => rfl
/-! need_changes -/
def t_need_changes : Mb := .cons (.ife (.or (.not (.isis (.var 0) ["list", "tuple"])) (.not (.bi .all (.cons (.comp (.seq (.var 0)) 1 [1] (.no) (.call 8 (.cons (.var 1) .nil))) .nil)))) (.cons (.rais 1) .nil) (.nil)) .nil
def c_need_changes : Cc := ⟨["thing", "item"], GL, [8], [], TYS, [0, 1, 2, 3, 4], [], "_law_caught", XNS, GTS⟩
def F_need_changes : Nat → DSp | 8 => sp_is_change | _ => fun _ _ _ _ => False
def sp_need_changes : DSp := defSp F_need_changes S 2 1 t_need_changes
theorem k_need_changes : isB c_need_changes [1] (defScope (st 11)) t_need_changes (defBody (st 11)) = true := by decide +kernel
theorem s_need_changes : FnScope c_need_changes.N ["thing"] (defScope (st 11)) := C8.fnScope_by (by decide +kernel)
theorem b_need_changes : ∀ (kV doc pm : Value) (an : Option Addr) (cdv ct : Value) (us : List Value), us.length = (["thing"] : List Str).length → bindArgs (PySem.W.fnOf "need_changes" "need_changes" (defArgs (st 11)) (defBody (st 11)) (defScope (st 11)) .none kV doc pm an cdv ct) ⟨us, []⟩ = pure ((["thing"] : List Str).zip us) := fun _ _ _ _ _ _ us hl => match us, hl with | [_], _ => rfl
/-! bounded -/
def t_bounded : Mb := .cons (.ife (.and (.cmp .isnot (.var 1) (.non)) (.cmp .lt (.var 0) (.var 1))) (.cons (.ret (.var 1)) .nil) (.nil)) (.cons (.ife (.and (.cmp .isnot (.var 2) (.non)) (.cmp .gt (.var 0) (.var 2))) (.cons (.ret (.var 2)) .nil) (.nil)) (.cons (.ret (.var 0)) .nil))
def c_bounded : Cc := ⟨["number", "low", "high"], GL, [], [], TYS, [0, 1, 2, 3, 4], [], "_law_caught", XNS, GTS⟩
def F_bounded : Nat → DSp | _ => fun _ _ _ _ => False
def sp_bounded : DSp := defSp F_bounded S 3 3 t_bounded
theorem k_bounded : isB c_bounded [] (defScope (st 12)) t_bounded (defBody (st 12)) = true := by decide +kernel
theorem s_bounded : FnScope c_bounded.N ["number", "low", "high"] (defScope (st 12)) := C8.fnScope_by (by decide +kernel)
theorem b_bounded : ∀ (kV doc pm : Value) (an : Option Addr) (cdv ct : Value) (us : List Value), us.length = (["number", "low", "high"] : List Str).length → bindArgs (PySem.W.fnOf "bounded" "bounded" (defArgs (st 12)) (defBody (st 12)) (defScope (st 12)) .none kV doc pm an cdv ct) ⟨us, []⟩ = pure ((["number", "low", "high"] : List Str).zip us) := fun _ _ _ _ _ _ us hl => match us, hl with | [_, _, _], _ => rfl
/-! act_by -/
def t_act_by : Mb := .cons (.tset (.tp [.nm 2, .nm 3]) (.var 0)) (.cons (.ife (.cmp .is (.var 1) (.non)) (.cons (.ret (.var 2)) .nil) (.nil)) (.cons (.ife (.cmp .is (.var 3) (.non)) (.cons (.ret (.non)) .nil) (.nil)) (.cons (.tset (.tp [.nm 4, .nm 5, .nm 6]) (.var 3)) (.cons (.ret (.call 10 (.cons (.bin .add (.var 1) (.var 4)) (.cons (.var 5) (.cons (.var 6) .nil))))) .nil))))
def c_act_by : Cc := ⟨["change", "value", "absent", "present", "step", "low", "high"], GL, [10], [], TYS, [0, 1, 2, 3, 4], [], "_law_caught", XNS, GTS⟩
def F_act_by : Nat → DSp | 10 => sp_bounded | _ => fun _ _ _ _ => False
def sp_act_by : DSp := defSp F_act_by S 7 2 t_act_by
theorem k_act_by : isB c_act_by [] (defScope (st 13)) t_act_by (defBody (st 13)) = true := by decide +kernel
theorem s_act_by : FnScope c_act_by.N ["change", "value"] (defScope (st 13)) := C8.fnScope_by (by decide +kernel)
theorem b_act_by : ∀ (kV doc pm : Value) (an : Option Addr) (cdv ct : Value) (us : List Value), us.length = (["change", "value"] : List Str).length → bindArgs (PySem.W.fnOf "act_by" "act_by" (defArgs (st 13)) (defBody (st 13)) (defScope (st 13)) .none kV doc pm an cdv ct) ⟨us, []⟩ = pure ((["change", "value"] : List Str).zip us) := fun _ _ _ _ _ _ us hl => match us, hl with | [_, _], _ => rfl
/-! table_of -/
def t_table_of_1 : Mb := .cons (.set 5 (.call 11 (.cons (.var 4) (.cons (.idx (.var 2) (.var 3)) .nil)))) (.cons (.ife (.cmp .notin (.var 5) (.var 2)) (.cons (.expr (.meth .append (.var 2) (.cons (.var 5) .nil))) .nil) (.nil)) .nil)
def t_table_of_2 : Mb := .cons (.fr (.seq (.var 0)) (.nm 4) t_table_of_1) (.cons (.ife (.cmp .gt (.bi .len (.cons (.var 2) .nil)) (.int 6)) (.cons (.raisv 4 (.int 6)) .nil) (.nil)) (.cons (.set 3 (.bin .add (.var 3) (.int 1))) .nil))
def t_table_of : Mb := .cons (.expr (.call 9 (.cons (.var 0) .nil))) (.cons (.ife (.not (.chain .le .le (.int 1) (.bi .len (.cons (.var 0) .nil)) (.int 6))) (.cons (.rais 1) .nil) (.nil)) (.cons (.ife (.not (.call 6 (.cons (.var 1) .nil))) (.cons (.rais 3) .nil) (.nil)) (.cons (.par [2, 3] (.cons (.lst (.cons (.var 1) .nil)) (.cons (.int 0) .nil))) (.cons (.whl (.cmp .lt (.var 3) (.bi .len (.cons (.var 2) .nil))) t_table_of_2) (.cons (.setC 6 (.seq (.sl (.var 2) (.yes (.int 1)) (.no))) 5 [5] (.yes (.cmp .is (.var 5) (.non))) (.var 5)) (.cons (.set 6 (.bin .add (.var 6) (.bi .sorted (.cons (.comp (.seq (.sl (.var 2) (.yes (.int 1)) (.no))) 5 [5] (.yes (.cmp .isnot (.var 5) (.non))) (.var 5)) .nil)))) (.cons (.set 7 (.bin .add (.lst (.cons (.var 1) .nil)) (.var 6))) (.cons (.ret (.tup (.cons (.tpx (.var 7)) (.cons (.comp (.seq (.var 0)) 4 [4] (.no) (.bi .tuple (.cons (.comp (.seq (.var 7)) 5 [5] (.no) (.ixo false (.var 7) (.call 11 (.cons (.var 4) (.cons (.var 5) .nil))))) .nil))) .nil)))) .nil))))))))
def c_table_of : Cc := ⟨["changes", "start", "found", "at", "change", "value", "others", "values"], GL, [9, 6, 11], [], TYS, [0, 1, 2, 3, 4], [], "_law_caught", XNS, GTS⟩
def F_table_of : Nat → DSp | 9 => sp_need_changes | 6 => sp_is_value | 11 => sp_act_by | _ => fun _ _ _ _ => False
def sp_table_of : DSp := defSp F_table_of S 8 2 t_table_of
theorem k_table_of : isB c_table_of [1, 3, 1004] (defScope (st 21)) t_table_of (defBody (st 21)) = true := by decide +kernel
theorem s_table_of : FnScope c_table_of.N ["changes", "start"] (defScope (st 21)) := C8.fnScope_by (by decide +kernel)
theorem b_table_of : ∀ (kV doc pm : Value) (an : Option Addr) (cdv ct : Value) (us : List Value), us.length = (["changes", "start"] : List Str).length → bindArgs (PySem.W.fnOf "table_of" "table_of" (defArgs (st 21)) (defBody (st 21)) (defScope (st 21)) .none kV doc pm an cdv ct) ⟨us, []⟩ = pure ((["changes", "start"] : List Str).zip us) := fun _ _ _ _ _ _ us hl => match us, hl with | [_, _], _ => rfl
theorem w_table_of_0 : KwI "table_of" (st 21) ["changes", "start"] 0 ["changes", "start"] [0, 1] := fun _ _ _ _ _ _ us ws h1 h2 => match us, ws, h1, h2 with | [], [_, _], _, _ => rfl
/-! _law_table_right -/
def t__law_table_right : Mb := .cons (.tset (.tp [.nm 2, .nm 3, .nm 4]) (.tup (.cons (.bi .list (.cons (.var 0) .nil)) (.cons (.call 32 (.cons (.var 0) (.cons (.var 1) .nil))) (.cons (.lst (.nil)) .nil))))) (.cons (.set 5 (.caught (.meth .append (.var 4) (.cons (.callk 17 0 ["changes", "start"] [0, 1] (.nil) (.cons (.var 2) (.cons (.var 1) .nil))) .nil)))) (.cons (.ife (.cmp .is (.var 3) (.non)) (.cons (.ret (.and (.isi [0, 1, 2, 3, 4] (.var 5) (.c 4)) (.cmp .eq (.xat [4] "most" (.var 5)) (.int 6)))) .nil) (.nil)) (.cons (.ife (.or (.cmp .isnot (.var 5) (.non)) (.or (.cmp .ne (.var 2) (.var 0)) (.or (.not (.isi [0, 1, 2, 3, 4] (.idx (.var 4) (.int 0)) (.b "tuple"))) (.cmp .ne (.bi .len (.cons (.idx (.var 4) (.int 0)) .nil)) (.int 2))))) (.cons (.ret (.bl false)) .nil) (.nil)) (.cons (.set 6 (.bin .add (.comp (.seq (.sl (.var 3) (.yes (.int 1)) (.no))) 7 [7] (.yes (.cmp .is (.var 7) (.non))) (.var 7)) (.bi .sorted (.cons (.comp (.seq (.sl (.var 3) (.yes (.int 1)) (.no))) 7 [7] (.yes (.cmp .isnot (.var 7) (.non))) (.var 7)) .nil)))) (.cons (.tset (.tp [.nm 8, .nm 9]) (.idx (.var 4) (.int 0))) (.cons (.ife (.or (.not (.isx (.var 8))) (.or (.cmp .ne (.var 8) (.bi .tuple (.cons (.bin .add (.lst (.cons (.var 1) .nil)) (.var 6)) .nil))) (.not (.isi [0, 1, 2, 3, 4] (.var 9) (.b "list"))))) (.cons (.ret (.bl false)) .nil) (.nil)) (.cons (.setC 10 (.seq (.var 0)) 11 [11] (.no) (.bi .tuple (.cons (.comp (.seq (.var 8)) 7 [7] (.no) (.ixo true (.var 8) (.call 23 (.cons (.var 11) (.cons (.var 7) .nil))))) .nil))) (.cons (.ret (.and (.cmp .eq (.var 9) (.var 10)) (.cmp .eq (.comp (.seq (.var 9)) 12 [12] (.yes (.not (.isi [0, 1, 2, 3, 4] (.var 12) (.b "tuple")))) (.int 1)) (.lst (.nil))))) .nil))))))))
def c__law_table_right : Cc := ⟨["_law_changes", "_law_start", "_law_given", "_law_due", "_law_told", "_law_caught_here", "_law_others", "_law_value", "_law_values_here", "_law_table_here", "_law_rows", "_law_change", "_law_row"], GL, [32, 17, 23], [(17, 0, ["changes", "start"], [0, 1])], TYS, [0, 1, 2, 3, 4], [], "_law_caught", XNS, GTS⟩
def F__law_table_right : Nat → DSp | 32 => sp__law_values | 17 => sp_table_of | 23 => sp__law_acted | _ => fun _ _ _ _ => False
def sp__law_table_right : DSp := defSp F__law_table_right S 13 2 t__law_table_right
theorem k__law_table_right : isB c__law_table_right [] (defScope (st 38)) t__law_table_right (defBody (st 38)) = true := by decide +kernel
theorem s__law_table_right : FnScope c__law_table_right.N ["_law_changes", "_law_start"] (defScope (st 38)) := C8.fnScope_by (by decide +kernel)
theorem b__law_table_right : ∀ (kV doc pm : Value) (an : Option Addr) (cdv ct : Value) (us : List Value), us.length = (["_law_changes", "_law_start"] : List Str).length → bindArgs (PySem.W.fnOf "_law_table_right" "_law_table_right" (defArgs (st 38)) (defBody (st 38)) (defScope (st 38)) .none kV doc pm an cdv ct) ⟨us, []⟩ = pure ((["_law_changes", "_law_start"] : List Str).zip us) := fun _ _ _ _ _ _ us hl => match us, hl with | [_, _], _ => rfl
/-! _law_bad_table -/
def t__law_bad_table : Mb := .cons (.par [2, 3] (.cons (.bi .len (.cons (.idx (.var 1) (.int 0)) .nil)) (.cons (.call 20 (.cons (.var 0) (.cons (.bi .len (.cons (.var 1) .nil)) .nil))) .nil))) (.cons (.set 4 (.idx (.var 1) (.var 3))) (.cons (.set 5 (.call 21 (.cons (.var 0) (.cons (.lst (.cons (.bin .add (.var 4) (.tup (.cons (.int 0) .nil))) (.cons (.bin .add (.sl (.var 4) (.yes (.int 1)) (.no)) (.tup (.cons (.var 2) .nil))) (.cons (.bi .list (.cons (.var 4) .nil)) (.cons (.non) (.cons (.int 5) (.cons (.bin .mul (.tup (.cons (.bl true) .nil)) (.var 2)) (.cons (.bin .mul (.tup (.cons (.str "0") .nil)) (.var 2)) (.cons (.bin .add (.sl (.var 4) (.yes (.int 1)) (.no)) (.tup (.cons (.neg (.int 1)) .nil))) .nil))))))))) .nil)))) (.cons (.ife (.and (.cmp .eq (.var 5) (.bin .add (.var 4) (.tup (.cons (.int 0) .nil)))) (.cmp .eq (.bi .len (.cons (.var 1) .nil)) (.int 1))) (.cons (.set 5 (.bin .mul (.tup (.cons (.int 0) .nil)) (.int 7))) .nil) (.nil)) (.cons (.set 6 (.bin .mul (.lst (.cons (.bin .add (.bin .add (.sl (.var 1) (.no) (.yes (.var 3))) (.lst (.cons (.var 5) .nil))) (.sl (.var 1) (.yes (.bin .add (.var 3) (.int 1))) (.no))) .nil)) (.int 4))) (.cons (.ret (.call 21 (.cons (.var 0) (.cons (.bin .add (.var 6) (.lst (.cons (.non) (.cons (.int 5) (.cons (.disp [] (.nil)) (.cons (.lst (.nil)) (.cons (.tup (.nil)) (.cons (.lst (.cons (.tup (.nil)) .nil)) (.cons (.lst (.cons (.int 5) .nil)) (.cons (.lst (.cons (.bin .mul (.tup (.cons (.int 0) .nil)) (.int 7)) .nil)) (.cons (.bin .mul (.lst (.cons (.var 4) .nil)) (.int 7)) (.cons (.str "00") .nil)))))))))))) .nil)))) .nil)))))
def c__law_bad_table : Cc := ⟨["_law_draw", "_law_table_here", "_law_size", "_law_spot", "_law_row", "_law_bad", "_law_some"], GL, [20, 21], [], TYS, [0, 1, 2, 3, 4], [], "_law_caught", XNS, GTS⟩
def F__law_bad_table : Nat → DSp | 20 => sp__law_take | 21 => sp__law_pick | _ => fun _ _ _ _ => False
def sp__law_bad_table : DSp := defSp F__law_bad_table S 7 2 t__law_bad_table
theorem k__law_bad_table : isB c__law_bad_table [] (defScope (st 35)) t__law_bad_table (defBody (st 35)) = true := by decide +kernel
theorem s__law_bad_table : FnScope c__law_bad_table.N ["_law_draw", "_law_table_here"] (defScope (st 35)) := C8.fnScope_by (by decide +kernel)
theorem b__law_bad_table : ∀ (kV doc pm : Value) (an : Option Addr) (cdv ct : Value) (us : List Value), us.length = (["_law_draw", "_law_table_here"] : List Str).length → bindArgs (PySem.W.fnOf "_law_bad_table" "_law_bad_table" (defArgs (st 35)) (defBody (st 35)) (defScope (st 35)) .none kV doc pm an cdv ct) ⟨us, []⟩ = pure ((["_law_draw", "_law_table_here"] : List Str).zip us) := fun _ _ _ _ _ _ us hl => match us, hl with | [_, _], _ => rfl
/-! _law_bad_change -/
def t__law_bad_change : Mb := .cons (.tset (.tp [.nm 2, .nm 3]) (.var 1)) (.cons (.set 4 (.lst (.cons (.non) (.cons (.int 5) (.cons (.tup (.nil)) (.cons (.str "change") (.cons (.disp [] (.nil)) (.cons (.tup (.cons (.var 2) .nil)) (.cons (.tup (.cons (.var 2) (.cons (.var 3) (.cons (.non) .nil)))) (.cons (.lst (.cons (.var 2) (.cons (.var 3) .nil))) .nil)))))))))) (.cons (.set 4 (.bin .add (.var 4) (.lst (.cons (.tup (.cons (.str "1") (.cons (.var 3) .nil))) (.cons (.tup (.cons (.bl true) (.cons (.var 3) .nil))) (.cons (.tup (.cons (.tup (.cons (.var 2) .nil)) (.cons (.var 3) .nil))) (.cons (.tup (.cons (.var 2) (.cons (.int 5) .nil))) (.cons (.tup (.cons (.var 2) (.cons (.tup (.cons (.int 0) (.cons (.non) .nil))) .nil))) .nil)))))))) (.cons (.set 4 (.bin .add (.var 4) (.lst (.cons (.tup (.cons (.var 2) (.cons (.lst (.cons (.int 0) (.cons (.non) (.cons (.non) .nil)))) .nil))) (.cons (.tup (.cons (.var 2) (.cons (.tup (.cons (.non) (.cons (.non) (.cons (.non) .nil)))) .nil))) (.cons (.tup (.cons (.var 2) (.cons (.tup (.cons (.bl true) (.cons (.non) (.cons (.non) .nil)))) .nil))) .nil)))))) (.cons (.set 4 (.bin .add (.var 4) (.lst (.cons (.tup (.cons (.var 2) (.cons (.tup (.cons (.int 0) (.cons (.int 3) (.cons (.int 2) .nil)))) .nil))) (.cons (.tup (.cons (.var 2) (.cons (.tup (.cons (.int 1) (.cons (.int 2) (.cons (.int 2) .nil)))) .nil))) (.cons (.tup (.cons (.var 2) (.cons (.tup (.cons (.int 0) (.cons (.str "1") (.cons (.non) .nil)))) .nil))) (.cons (.tup (.cons (.var 2) (.cons (.tup (.cons (.int 0) (.cons (.non) (.cons (.bl false) .nil)))) .nil))) .nil))))))) (.cons (.ret (.call 21 (.cons (.var 0) (.cons (.bin .add (.var 4) (.lst (.cons (.tup (.cons (.var 2) (.cons (.tup (.cons (.int 0) (.cons (.non) (.cons (.non) (.cons (.non) .nil))))) .nil))) (.cons (.tup (.cons (.var 3) (.cons (.tup (.cons (.int 0) (.cons (.non) (.cons (.tup (.cons (.int 1) .nil)) .nil)))) .nil))) .nil)))) .nil)))) .nil)))))
def c__law_bad_change : Cc := ⟨["_law_draw", "_law_change", "_law_absent", "_law_present", "_law_some"], GL, [21], [], TYS, [0, 1, 2, 3, 4], [], "_law_caught", XNS, GTS⟩
def F__law_bad_change : Nat → DSp | 21 => sp__law_pick | _ => fun _ _ _ _ => False
def sp__law_bad_change : DSp := defSp F__law_bad_change S 5 2 t__law_bad_change
theorem k__law_bad_change : isB c__law_bad_change [] (defScope (st 31)) t__law_bad_change (defBody (st 31)) = true := by decide +kernel
theorem s__law_bad_change : FnScope c__law_bad_change.N ["_law_draw", "_law_change"] (defScope (st 31)) := C8.fnScope_by (by decide +kernel)
theorem b__law_bad_change : ∀ (kV doc pm : Value) (an : Option Addr) (cdv ct : Value) (us : List Value), us.length = (["_law_draw", "_law_change"] : List Str).length → bindArgs (PySem.W.fnOf "_law_bad_change" "_law_bad_change" (defArgs (st 31)) (defBody (st 31)) (defScope (st 31)) .none kV doc pm an cdv ct) ⟨us, []⟩ = pure ((["_law_draw", "_law_change"] : List Str).zip us) := fun _ _ _ _ _ _ us hl => match us, hl with | [_, _], _ => rfl
/-! _law_refused -/
def t__law_refused : Mb := .cons (.tset (.tp [.nm 3, .nm 4]) (.tup (.cons (.call 30 (.cons (.var 0) (.cons (.var 1) .nil))) (.cons (.call 21 (.cons (.var 0) (.cons (.lst (.cons (.str "1") (.cons (.tup (.cons (.int 1) .nil)) (.cons (.bl true) (.cons (.lst (.cons (.int 2) .nil)) (.cons (.disp [] (.nil)) .nil)))))) .nil))) .nil)))) (.cons (.ife (.not (.isi [0, 1, 2, 3, 4] (.caught (.call 16 (.cons (.var 3) .nil))) (.c 2))) (.cons (.ret (.bl false)) .nil) (.nil)) (.cons (.set 5 (.call 26 (.cons (.var 0) (.cons (.idx (.var 2) (.int 0)) .nil)))) (.cons (.set 6 (.call 21 (.cons (.var 0) (.cons (.lst (.cons (.lst (.nil)) (.cons (.tup (.nil)) (.cons (.non) (.cons (.int 5) (.cons (.bin .add (.var 2) (.lst (.cons (.var 5) .nil))) (.cons (.lst (.cons (.var 5) .nil)) (.cons (.bin .mul (.lst (.cons (.idx (.var 2) (.int 0)) .nil)) (.int 7)) (.cons (.disp [] (.nil)) (.cons (.str "put") .nil)))))))))) .nil)))) (.cons (.ife (.not (.isi [0, 1, 2, 3, 4] (.caught (.call 17 (.cons (.var 6) (.cons (.var 4) .nil)))) (.c 1))) (.cons (.ret (.bl false)) .nil) (.nil)) (.cons (.ret (.isi [0, 1, 2, 3, 4] (.caught (.call 17 (.cons (.var 2) (.cons (.var 4) .nil)))) (.c 3))) .nil)))))
def c__law_refused : Cc := ⟨["_law_draw", "_law_table_here", "_law_changes", "_law_bad", "_law_odd", "_law_wrong", "_law_some"], GL, [30, 21, 16, 26, 17], [], TYS, [0, 1, 2, 3, 4], [], "_law_caught", XNS, GTS⟩
def F__law_refused : Nat → DSp | 30 => sp__law_bad_table | 21 => sp__law_pick | 16 => sp_values_from | 26 => sp__law_bad_change | 17 => sp_table_of | _ => fun _ _ _ _ => False
def sp__law_refused : DSp := defSp F__law_refused S 7 3 t__law_refused
theorem k__law_refused : isB c__law_refused [] (defScope (st 39)) t__law_refused (defBody (st 39)) = true := by decide +kernel
theorem s__law_refused : FnScope c__law_refused.N ["_law_draw", "_law_table_here", "_law_changes"] (defScope (st 39)) := C8.fnScope_by (by decide +kernel)
theorem b__law_refused : ∀ (kV doc pm : Value) (an : Option Addr) (cdv ct : Value) (us : List Value), us.length = (["_law_draw", "_law_table_here", "_law_changes"] : List Str).length → bindArgs (PySem.W.fnOf "_law_refused" "_law_refused" (defArgs (st 39)) (defBody (st 39)) (defScope (st 39)) .none kV doc pm an cdv ct) ⟨us, []⟩ = pure ((["_law_draw", "_law_table_here", "_law_changes"] : List Str).zip us) := fun _ _ _ _ _ _ us hl => match us, hl with | [_, _, _], _ => rfl
/-! law -/
def t_law : Mb := .cons (.set 1 (.call 18 (.cons (.var 0) .nil))) (.cons (.set 2 (.call 28 (.cons (.var 1) (.cons (.int 6) (.cons (.int 6) .nil))))) (.cons (.set 3 (.call 21 (.cons (.var 1) (.cons (.lst (.cons (.bi .list (.cons (.var 2) .nil)) (.cons (.bi .tuple (.cons (.var 2) .nil)) .nil))) .nil)))) (.cons (.set 4 (.callk 16 0 ["table"] [0] (.nil) (.cons (.var 3) .nil))) (.cons (.ife (.or (.not (.isi [0, 1, 2, 3, 4] (.var 4) (.b "list"))) (.or (.cmp .ne (.var 4) (.call 29 (.cons (.var 2) .nil))) (.cmp .ne (.bi .list (.cons (.var 3) .nil)) (.var 2)))) (.cons (.ret (.bl false)) .nil) (.nil)) (.cons (.ife (.cmp .ne (.gtu 36 [("safe" : Str), ("beneath" : Str), ("turns" : Str), ("behind" : Str), ("stop" : Str), ("own" : Str), ("anew" : Str), ("roots" : Str), ("records" : Str)]) (.bi .tuple (.cons (.call 27 (.nil)) .nil))) (.cons (.ret (.bl false)) .nil) (.nil)) (.cons (.tset (.tp [.nm 5, .nm 6]) (.call 31 (.cons (.var 1) .nil))) (.cons (.ret (.and (.call 33 (.cons (.var 5) (.cons (.var 6) .nil))) (.call 34 (.cons (.var 1) (.cons (.var 2) (.cons (.var 5) .nil)))))) .nil)))))))
def c_law : Cc := ⟨["_law_script", "_law_draw", "_law_table_here", "_law_given", "_law_told", "_law_changes", "_law_start"], GL, [18, 28, 21, 16, 29, 27, 31, 33, 34], [(16, 0, ["table"], [0])], TYS, [0, 1, 2, 3, 4], [], "_law_caught", XNS, GTS⟩
def F_law : Nat → DSp | 18 => sp__law_begun | 28 => sp__law_table | 21 => sp__law_pick | 16 => sp_values_from | 29 => sp__law_reached | 27 => sp__law_words | 31 => sp__law_some_changes | 33 => sp__law_table_right | 34 => sp__law_refused | _ => fun _ _ _ _ => False
def sp_law : DSp := defSp F_law S 7 1 t_law
theorem k_law : isB c_law [] (defScope (st 40)) t_law (defBody (st 40)) = true := by decide +kernel
theorem s_law : FnScope c_law.N ["_law_script"] (defScope (st 40)) := C8.fnScope_by (by decide +kernel)
theorem b_law : ∀ (kV doc pm : Value) (an : Option Addr) (cdv ct : Value) (us : List Value), us.length = (["_law_script"] : List Str).length → bindArgs (PySem.W.fnOf "law" "law" (defArgs (st 40)) (defBody (st 40)) (defScope (st 40)) .none kV doc pm an cdv ct) ⟨us, []⟩ = pure ((["_law_script"] : List Str).zip us) := fun _ _ _ _ _ _ us hl => match us, hl with | [_], _ => rfl
def LT : Nat → LamI := fun k => ⟨"", ⟨[], [], none, [], [], none, []⟩, .Constant .none 0 ⟨0, 0, 0, 0⟩, ⟨.function, [], false, false, []⟩⟩
end Z64
set_option Elab.async false
set_option linter.all false
set_option maxRecDepth 100000
set_option maxHeartbeats 4000000
/-! carried over by port.py from P00 P01 P02 P03 P04 M00 M01 P11 P12 P13 P14 P22 P40 P41 P42 P43 P48 -/
namespace Z64
open PySem Zw

theorem num_ok {A : AH} {d : D} {Q : DK} {E : DX} (h : okD A d) (q : Q (.bl (isIntD d)) A) : sp_is_number [d] A Q E := by
  obtain ⟨n, hn⟩ := h
  unfold sp_is_number defSp t_is_number
  refine ⟨rfl, ?_⟩
  simp only [wpB, wpS, wp, startD_c, startD_e, getS_z, opt_s, hn, okT, true_and, si hn, sb hn, truP]
  cases d <;> simp_all [isIntD, isBoolD]
def isValD : D → Bool
  | .int _ => true
  | .non => true
  | _ => false
theorem val_ok {A : AH} {d : D} {Q : DK} {E : DX} (h : okD A d) (q : Q (.bl (isValD d)) A) : sp_is_value [d] A Q E := by
  unfold sp_is_value defSp t_is_value
  refine ⟨rfl, ?_⟩
  simp only [wpB, wpS, wp, wpEs, startD_c, startD_e, getS_z, opt_s, cmpP, truP]
  have key : isValD d = (isNon d || isIntD d) := by cases d <;> rfl
  rw [key] at q
  split
  · rename_i hn
    rw [hn] at q ⊢
    exact q
  · rename_i hn
    have hn : isNon d = false := by simpa using hn
    rw [hn, Bool.false_or] at q
    exact num_ok h q
/-- a tuple of three that bounds and steps -/
def tripB : D → Bool
  | .tup [.int s, .non, .non] => true
  | .tup [.int s, .int l, .non] => true
  | .tup [.int s, .non, .int h] => true
  | .tup [.int s, .int l, .int h] => decide (l < h) || (decide (l = h) && decide (s = 0))
  | _ => false
theorem triple_ok {A : AH} {d : D} {Q : DK} {E : DX} (h : okD A d) (hd : ∀ ds, d = .tup ds → ∀ x ∈ ds, okD A x) (q : Q (.bl (tripB d)) A) : sp_is_triple [d] A Q E := by
  obtain ⟨n, hn⟩ := h
  unfold sp_is_triple defSp t_is_triple
  refine ⟨rfl, ?_⟩
  cases ht : isTupD d with
  | false =>
    have e : tripB d = false := by cases d <;> first | rfl | cases ht
    rw [e] at q
    simp [F_is_triple, hn, okT, st_ hn, ht]
    exact q
  | true =>
    cases d with
    | tup ds =>
      have hd := hd ds rfl
      match ds, hd, q with
      | [], hd, q => simp [F_is_triple, hn, okT, st_ hn, ht]; exact q
      | [a], hd, q => have e : tripB (.tup [a]) = false := by cases a <;> rfl
                      rw [e] at q; simp [F_is_triple, hn, okT, st_ hn, ht]; exact q
      | [a, b], hd, q => have e : tripB (.tup [a, b]) = false := by cases a <;> cases b <;> rfl
                         rw [e] at q; simp [F_is_triple, hn, okT, st_ hn, ht]; exact q
      | [a, b, c], hd, q =>
        have ha := hd a (by simp)
        have hb := hd b (by simp)
        have hc := hd c (by simp)
        simp [F_is_triple, hn, okT, st_ hn, ht, atI_z]
        refine num_ok ha ?_
        cases a with
        | int s =>
          simp
          refine val_ok hb ?_
          cases b with
          | int l =>
            simp [isValD]
            refine val_ok hc ?_
            cases c with
            | int h =>
              simp only [tripB] at q
              by_cases h1 : l < h
              · simp_all [isValD, isNon]
              · by_cases h2 : l = h
                · simp_all [isValD, isNon]
                · simp_all [isValD, isNon]
                  exact fun z => absurd z (by omega)
            | non => simpa [isValD, isNon, tripB] using q
            | _ => simpa [isValD, isNon, tripB] using q
          | non =>
            simp [isValD]
            refine val_ok hc ?_
            cases c <;> simpa [isValD, isNon, tripB] using q
          | _ => simpa [isValD, tripB] using q
        | _ => simpa [isIntD, tripB] using q
      | a :: b :: c :: e :: r, hd, q =>
        have e1 : tripB (.tup (a :: b :: c :: e :: r)) = false := by cases a <;> cases b <;> cases c <;> rfl
        rw [e1] at q
        have e2 : ¬ ((r.length : Int) + 1 + 1 + 1 + 1 = 3) := by omega
        simp [F_is_triple, hn, okT, st_ hn, ht, e2]
        exact q
    | _ => cases ht
/-- a pair of a value and a triple or None -/
def chgB : D → Bool
  | .tup [a, p] => isValD a && (isNon p || tripB p)
  | _ => false
/-- built-in all through to the third depth -/
def ok2 (A : AH) (d : D) : Prop := okD A d ∧ ∀ ds, d = .tup ds → ∀ x ∈ ds, okD A x
def ok3 (A : AH) (d : D) : Prop := okD A d ∧ ∀ ds, d = .tup ds → ∀ x ∈ ds, ok2 A x
theorem change_ok {A : AH} {d : D} {Q : DK} {E : DX} (h : ok3 A d) (q : Q (.bl (chgB d)) A) : sp_is_change [d] A Q E := by
  obtain ⟨⟨n, hn⟩, hd⟩ := h
  unfold sp_is_change defSp t_is_change
  refine ⟨rfl, ?_⟩
  cases ht : isTupD d with
  | false =>
    have e : chgB d = false := by cases d <;> first | rfl | cases ht
    rw [e] at q
    simp [F_is_change, hn, okT, st_ hn, ht]
    exact q
  | true =>
    cases d with
    | tup ds =>
      have hd := hd ds rfl
      match ds, hd, q with
      | [], hd, q => simp [F_is_change, hn, okT, st_ hn, ht]; exact q
      | [a], hd, q => simp [F_is_change, hn, okT, st_ hn, ht]; exact q
      | [a, b], hd, q =>
        have ha := hd a (by simp)
        have hb := hd b (by simp)
        simp [F_is_change, hn, okT, st_ hn, ht, atI_z, atI_o]
        refine val_ok ha.1 ?_
        simp only [chgB] at q
        cases hv : isValD a with
        | false =>
          rw [hv] at q
          simpa using q
        | true =>
          rw [hv] at q
          simp only [tru_b, if_true]
          cases hb2 : isNon b with
          | true =>
            rw [hb2] at q
            simpa using q
          | false =>
            rw [hb2] at q
            simp only [Bool.false_eq_true, if_false]
            refine triple_ok hb.1 hb.2 ?_
            simpa using q
      | a :: b :: c :: r, hd, q =>
        have e2 : ¬ ((r.length : Int) + 1 + 1 + 1 = 2) := by omega
        simp [F_is_change, hn, okT, st_ hn, ht, e2]
        exact q
    | _ => cases ht
def vD : Option Int → D
  | none => .non
  | some i => .int i
structure Ch where
  a : Option Int
  p : Option (Int × Option Int × Option Int)
def pD : Option (Int × Option Int × Option Int) → D
  | none => .non
  | some (s, l, h) => .tup [.int s, vD l, vD h]
def cD (c : Ch) : D := .tup [vD c.a, pD c.p]
def low (x : Int) : Option Int → Bool
  | none => false
  | some l => decide (x < l)
def high (x : Int) : Option Int → Bool
  | none => false
  | some l => decide (l < x)
def bnd (x : Int) (l h : Option Int) : Int := if low x l = true then l.getD 0 else if high x h = true then h.getD 0 else x
def actV (c : Ch) : Option Int → Option Int
  | none => c.a
  | some x => match c.p with
    | none => none
    | some (s, l, h) => some (bnd (x + s) l h)
theorem bounded_ok {A : AH} {x : Int} {l h : Option Int} {Q : DK} {E : DX} (q : Q (.int (bnd x l h)) A) : sp_bounded [.int x, vD l, vD h] A Q E := by
  unfold sp_bounded defSp t_bounded
  refine ⟨rfl, ?_⟩
  cases l with
  | none =>
    cases h with
    | none => simpa [vD, isNon, bnd, low, high] using q
    | some h =>
      by_cases h2 : h < x
      · simpa [vD, isNon, bnd, low, high, h2] using q
      · simpa [vD, isNon, bnd, low, high, h2] using q
  | some l =>
    by_cases h1 : x < l
    · simpa [vD, isNon, bnd, low, high, h1] using q
    · cases h with
      | none => simpa [vD, isNon, bnd, low, high, h1] using q
      | some h =>
        by_cases h2 : h < x
        · simpa [vD, isNon, bnd, low, high, h1, h2] using q
        · simpa [vD, isNon, bnd, low, high, h1, h2] using q
theorem act_by_ok {A : AH} {c : Ch} {v : Option Int} {Q : DK} {E : DX} (q : Q (vD (actV c v)) A) : sp_act_by [cD c, vD v] A Q E := by
  unfold sp_act_by defSp t_act_by
  refine ⟨rfl, ?_⟩
  cases v with
  | none => simpa [cD, vD, isNon, actV, F_act_by] using q
  | some x =>
    obtain ⟨a, p⟩ := c
    cases p with
    | none => simpa [cD, pD, vD, isNon, actV, F_act_by] using q
    | some t =>
      obtain ⟨s, l, h⟩ := t
      simp [cD, pD, isNon, F_act_by]
      have q : Q (.int (bnd (x + s) l h)) A := q
      simp [vD, isNon]
      exact bounded_ok q
theorem okD_v {A : AH} {v : Option Int} : okD A (vD v) := by cases v <;> exact ⟨_, rfl⟩
theorem okD_i {A : AH} {i : Int} : okD A (.int i) := ⟨_, rfl⟩
theorem ok2_p {A : AH} {p : Option (Int × Option Int × Option Int)} : ok2 A (pD p) := by
  cases p with
  | none => exact ⟨⟨_, rfl⟩, fun ds e => by cases e⟩
  | some t =>
    obtain ⟨s, l, h⟩ := t
    refine ⟨⟨_, rfl⟩, fun ds e x hx => ?_⟩
    cases e
    simp only [List.mem_cons, List.not_mem_nil, or_false] at hx
    rcases hx with e | e | e <;> subst e
    · exact okD_i
    · exact okD_v
    · exact okD_v
theorem ok2_v {A : AH} {v : Option Int} : ok2 A (vD v) := ⟨okD_v, fun ds e => by cases v <;> cases e⟩
theorem ok3_c {A : AH} {c : Ch} : ok3 A (cD c) := by
  refine ⟨⟨_, rfl⟩, fun ds e x hx => ?_⟩
  cases e
  simp only [List.mem_cons, List.not_mem_nil, or_false] at hx
  rcases hx with e | e <;> subst e
  · exact ok2_v
  · exact ok2_p
theorem isVal_v {v : Option Int} : isValD (vD v) = true := by cases v <;> rfl
/-- bounds in their sequence -/
def Good (c : Ch) : Prop := chgB (cD c) = true
theorem acted_ok {A : AH} {c : Ch} {v : Option Int} {Q : DK} {E : DX} (g : Good c) (q : Q (vD (actV c v)) A) : sp__law_acted [cD c, vD v] A Q E := by
  unfold sp__law_acted defSp t__law_acted
  refine ⟨rfl, ?_⟩
  obtain ⟨a, p⟩ := c
  cases v with
  | none => simpa [cD, vD, isNon, actV, atI_z, atI_o] using q
  | some x =>
    cases p with
    | none => simpa [cD, pD, vD, isNon, actV, atI_z, atI_o] using q
    | some t =>
      obtain ⟨s, l, h⟩ := t
      have q : Q (.int (bnd (x + s) l h)) A := q
      have g : isValD (vD a) = true ∧ tripB (.tup [.int s, vD l, vD h]) = true := by
        have g : (isValD (vD a) && (isNon (pD (some (s, l, h))) || tripB (pD (some (s, l, h))))) = true := g
        simpa [pD, isNon] using g
      simp [cD, pD, vD, isNon, atI_z, atI_o]
      cases l with
      | none =>
        cases h with
        | none => simpa [vD, isNon, bnd, low, high] using q
        | some h =>
          by_cases h2 : h < x + s
          · simpa [vD, isNon, bnd, low, high, h2] using q
          · simpa [vD, isNon, bnd, low, high, h2] using q
      | some l =>
        cases h with
        | none =>
          by_cases h1 : x + s < l
          · simpa [vD, isNon, bnd, low, high, h1] using q
          · simpa [vD, isNon, bnd, low, high, h1] using q
        | some h =>
          have g2 : l ≤ h := by
            have g := g.2
            simp [vD, tripB] at g
            omega
          by_cases h1 : x + s < l
          · have h3 : ¬ h < l := by omega
            simpa [vD, isNon, bnd, low, high, h1, h3] using q
          · by_cases h2 : h < x + s
            · simpa [vD, isNon, bnd, low, high, h1, h2] using q
            · simpa [vD, isNon, bnd, low, high, h1, h2] using q
section
variable {A : AH} {i L C : Nat} {Q : DK} {E : DX}
theorem take_k {n : Int} (h : Dr A i L C) (hn : 0 < n) (hn2 : n < 2 ^ 62) (q : ∀ m A', 0 ≤ m → m < n → Dr A' i L C → Gro A A' i L → Q (.int m) A') : sp__law_take [.ref i, .int n] A Q E :=
  take_dr F__law_take F__law_blend S S rfl h hn hn2 q
theorem pick_k {p : Nat} {xs : List D} (h : Dr A i L C) (hp : A[p]? = some (.lst xs)) (np : p ≠ i ∧ p ≠ L) (hx : xs ≠ []) (hx2 : xs.length < 1000)
    (q : ∀ x A', x ∈ xs → Dr A' i L C → Gro A A' i L → Q x A') : sp__law_pick [.ref i, .ref p] A Q E :=
  pick_dr F__law_pick F__law_take F__law_blend S S S rfl rfl h hp np hx hx2 q
/-- from a list that was just made -/
theorem pick_new {A0 : AH} {xs : List D} (h : Dr A i L C) (hx : xs ≠ []) (hx2 : xs.length < 1000)
    (q : ∀ x A', x ∈ xs → Dr A' i L C → Gro (A ++ [.lst xs]) A' i L → Gro A A' i L → Q x A') : sp__law_pick [.ref i, .ref A.length] (A ++ [.lst xs]) Q E := by
  obtain ⟨h1, h2, h3⟩ := h.lt
  exact pick_k (h.app _) last_app ⟨by omega, by omega⟩ hx hx2 fun x A' hm d g => q x A' hm d g ((Gro.app _).trans g)
theorem number_ok {b : Bool} (h : Dr A i L C) (q : ∀ m A', m ≤ 999999999 → Dr A' i L C → Gro A A' i L → Q (.int m) A') : sp__law_number [.ref i, .bl b] A Q E := by
  unfold sp__law_number defSp t__law_number
  refine ⟨rfl, ?_⟩
  have small : ∀ A1, Dr A1 i L C → Gro A A1 i L → sp__law_take [.ref i, .int 13] A1 (fun x A2 => binP .sub x (.int 6) A2 Q) E := fun A1 d1 g1 =>
    take_k d1 (by decide) (by decide) fun m A2 m1 m2 d2 g2 => q _ _ (by omega) d2 (g1.trans g2)
  cases b with
  | false =>
    simp only [wpB, wpS, wp, wpEs, startD_c, startD_e, getS_z, opt_s, tru_b, asT, Bool.false_eq_true, if_false]
    exact small A h Gro.refl
  | true =>
    simp only [wpB, wpS, wp, wpEs, startD_c, startD_e, getS_z, opt_s, tru_b, asT, if_true]
    refine take_k h (by decide) (by decide) fun m A1 m1 m2 d1 g1 => ?_
    rw [cmp_eqI]
    split
    · exact take_k d1 (by decide) (by decide) fun m A2 m1 m2 d2 g2 => q _ _ (by omega) d2 (g1.trans g2)
    · exact small A1 d1 g1
theorem good_p {o : Option Int} {p : Option (Int × Option Int × Option Int)} (h : p = none ∨ tripB (pD p) = true) : Good ⟨o, p⟩ := by
  show (isValD (vD o) && (isNon (pD p) || tripB (pD p))) = true
  rw [isVal_v]
  rcases h with h | h
  · subst h; rfl
  · rw [h]; simp
theorem a_change_ok {b : Bool} (h : Dr A i L C) (q : ∀ c A', Good c → Dr A' i L C → Gro A A' i L → Q (cD c) A') : sp__law_a_change [.ref i, .bl b] A Q E := by
  unfold sp__law_a_change defSp t__law_a_change
  refine ⟨rfl, ?_⟩
  simp only [wpB, wpS, wp, wpEs, startD_c, startD_e, List.replicate, getS_z, getS_c, opt_s, List.set, setAll, List.length_cons, List.length_nil, LIM, Nat.reduceAdd, Nat.reduceLeDiff, true_and, if_true]
  refine take_k h (by decide) (by decide) fun way A1 w1 w2 d1 g1 => ?_
  refine number_ok d1 fun step A2 _ d2 g2 => ?_
  refine number_ok d2 fun low A3 hlow d3 g3 => ?_
  refine pick_new (A0 := A3) d3 (by simp) (by simp) fun x A4 hx d4 _ g4 => ?_
  have hx : ∃ k, x = .int k ∧ 1 ≤ k := by
    simp only [List.mem_cons, List.not_mem_nil, or_false] at hx
    rcases hx with e | e | e | e | e | e | e | e <;> exact ⟨_, e, by decide⟩
  obtain ⟨k, e, hk⟩ := hx
  subst e
  simp only [bin_add, bi_min, bin_sub, bi_max]
  generalize hh : (if low + k < 999999999 then low + k else 999999999) = high
  have hlh : low ≤ high := by split at hh <;> omega
  refine pick_new (A0 := A4) d4 (by simp) (by simp) fun y A5 hy d5 _ g5 => ?_
  obtain ⟨o, e⟩ : ∃ o, y = vD o := by
    simp only [List.mem_cons, List.not_mem_nil, or_false] at hy
    rcases hy with h | h | h | h | h | h | h <;> first | exact ⟨none, h⟩ | exact ⟨some _, h⟩
  subst e
  have g := (((g1.trans g2).trans g3).trans g4).trans g5
  rw [cmp_eqI]
  split
  · exact q ⟨o, none⟩ A5 (good_p (.inl rfl)) d5 g
  · rename_i w0
    have w0 : way ≠ 0 := by simpa using w0
    simp only [cmp_eqI]
    split
    · exact q ⟨o, some (0, some low, some low)⟩ A5 (good_p (.inr (by simp [tripB, pD, vD]))) d5 g
    · rename_i hl
      have hl : low ≠ high := by simpa using hl
      split
      · exact q ⟨o, some (0, some low, some low)⟩ A5 (good_p (.inr (by simp [tripB, pD, vD]))) d5 g
      · rename_i w3
        have w3 : way ≠ 1 := by simpa using w3
        have hll : low < high := by omega
        refine bin_addL (at_app last_app) last_app (by simp [LIM]) ?_
        show idxP _ (.int (way - 2)) _ _
        rw [idx_lst last_app]
        obtain ⟨x, ex, hx⟩ := atI_in (xs := [D.tup [.int step, .non, .non], .tup [.int 0, .non, .non], .tup [.int step, .int low, .non], .tup [.int step, .non, .int high]] ++ [.tup [.int step, .int low, .int high], .tup [.int 0, .int low, .int high], .tup [.int step, .int low, .int high]]) (m := way - 2) (by omega) (by simp; omega)
        rw [ex]
        simp only [opt_s]
        have g6 := fun z => g.trans (Gro.app z)
        have d6 := fun z => d5.app z
        simp only [List.append_assoc]
        simp only [List.cons_append, List.nil_append, List.mem_cons, List.not_mem_nil, or_false] at hx
        rcases hx with e | e | e | e | e | e | e <;> subst e
        · exact q ⟨o, some (step, none, none)⟩ _ (good_p (.inr rfl)) (d6 _) (g6 _)
        · exact q ⟨o, some (0, none, none)⟩ _ (good_p (.inr rfl)) (d6 _) (g6 _)
        · exact q ⟨o, some (step, some low, none)⟩ _ (good_p (.inr rfl)) (d6 _) (g6 _)
        · exact q ⟨o, some (step, none, some high)⟩ _ (good_p (.inr rfl)) (d6 _) (g6 _)
        · exact q ⟨o, some (step, some low, some high)⟩ _ (good_p (.inr (by simp [tripB, pD, vD, hll]))) (d6 _) (g6 _)
        · exact q ⟨o, some (0, some low, some high)⟩ _ (good_p (.inr (by simp [tripB, pD, vD, hll]))) (d6 _) (g6 _)
        · exact q ⟨o, some (step, some low, some high)⟩ _ (good_p (.inr (by simp [tripB, pD, vD, hll]))) (d6 _) (g6 _)
end
section
variable {A A0 : AH} {i L C : Nat} {Q : DK} {E : DX}
theorem pre_app {A0 A : AH} (h : A0 <+: A) (x : AH) : A0 <+: A ++ x := h.trans (List.prefix_append _ _)
theorem pre_at {A0 A : AH} (h : A0 <+: A) {p : Nat} {c : Cell} (hc : A0[p]? = some c) : A[p]? = some c := by
  obtain ⟨x, e⟩ := h
  rw [← e]; exact at_app hc
end
section
variable {A A0 : AH} {i L C : Nat} {Q : DK} {E : DX}
theorem ok2_a {d : D} (h : okD A d) (hn : isTupD d = false) : ok2 A d := ⟨h, fun ds e => by subst e; cases hn⟩
theorem ok3_a {d : D} (h : okD A d) (hn : isTupD d = false) : ok3 A d := ⟨h, fun ds e => by subst e; cases hn⟩
theorem ok2_t {ds : List D} (h : ∀ x ∈ ds, okD A x) : ok2 A (.tup ds) := ⟨⟨_, rfl⟩, fun es e => by cases e; exact h⟩
theorem ok3_t {ds : List D} (h : ∀ x ∈ ds, ok2 A x) : ok3 A (.tup ds) := ⟨⟨_, rfl⟩, fun es e => by cases e; exact h⟩
theorem all_1 {α : Type} {P : α → Prop} {a : α} (h : P a) : ∀ x ∈ [a], P x := by simpa using h
theorem all_c {α : Type} {P : α → Prop} {a : α} {r : List α} (h : P a) (h2 : ∀ x ∈ r, P x) : ∀ x ∈ a :: r, P x := List.forall_mem_cons.mpr ⟨h, h2⟩
theorem all_n {α : Type} {P : α → Prop} : ∀ x ∈ ([] : List α), P x := List.forall_mem_nil _
theorem ok2.mono {A A' : AH} {d : D} (m : ∀ d, okD A d → okD A' d) (h : ok2 A d) : ok2 A' d := ⟨m _ h.1, fun ds e x hx => m _ (h.2 ds e x hx)⟩
theorem ok3.mono {A A' : AH} {d : D} (m : ∀ d, okD A d → okD A' d) (h : ok3 A d) : ok3 A' d := ⟨m _ h.1, fun ds e x hx => (h.2 ds e x hx).mono m⟩
/-- a thing that is no change -/
def Bad (A : AH) (d : D) : Prop := ok3 A d ∧ chgB d = false
theorem Bad.mono {A A' : AH} {d : D} (m : ∀ d, okD A d → okD A' d) (h : Bad A d) : Bad A' d := ⟨h.1.mono m, h.2⟩
theorem ok_ref {j : Nat} {xs : List D} (h : A[j]? = some (.lst xs)) : okD A (.ref j) := okD_ref.mpr ⟨_, _, h, rfl⟩
theorem ok_dct {j : Nat} {xs : List (L2.Key × D)} (h : A[j]? = some (.dct xs)) : okD A (.ref j) := okD_ref.mpr ⟨_, _, h, rfl⟩
theorem add_bad {A1 : AH} {p : Nat} {xs ys : List D} (hp : A1[p]? = some (.lst xs)) (h1 : ∀ x ∈ xs, Bad A1 x) (h2 : ∀ y ∈ ys, Bad A1 y) (hl : xs.length + ys.length ≤ LIM)
    (k : ∀ (A2 : AH) (q : Nat), A1 <+: A2 → A2[q]? = some (.lst (xs ++ ys)) → (∀ x ∈ xs ++ ys, Bad A2 x) → A1.length ≤ q → Q (.ref q) A2) : binP .add (.ref p) (.ref A1.length) (A1 ++ [.lst ys]) Q := by
  refine bin_addL (at_app hp) last_app hl ?_
  refine k _ _ (pre_app (List.prefix_append _ _) _) last_app (fun x hx => ?_) (by simp)
  have m : ∀ d, okD A1 d → okD (A1 ++ [Cell.lst ys] ++ [Cell.lst (xs ++ ys)]) d := fun d h => okD_app (okD_app h _) _
  rcases List.mem_append.mp hx with hx | hx
  · exact (h1 x hx).mono m
  · exact (h2 x hx).mono m
theorem okS {A : AH} {s : Str} : okD A (.str s) := ⟨_, rfl⟩
theorem okN {A : AH} : okD A .non := ⟨_, rfl⟩
theorem okB {A : AH} {b : Bool} : okD A (.bl b) := ⟨_, rfl⟩
theorem okT {A : AH} {ds : List D} : okD A (.tup ds) := ⟨_, rfl⟩
theorem t2 {a b : D} (h1 : ok2 A a) (h2 : ok2 A b) : ok3 A (.tup [a, b]) := ok3_t (all_c h1 (all_1 h2))
theorem bad_p {v : Option Int} {d : D} (h : ok2 A d) (hn : isNon d = false) (ht : tripB d = false) : Bad A (.tup [vD v, d]) := by
  refine ⟨t2 ok2_v h, ?_⟩
  simp [chgB, hn, ht]
theorem bad_v {d w : D} (h : ok2 A d) (h2 : ok2 A w) (hv : isValD d = false) : Bad A (.tup [d, w]) := by
  refine ⟨t2 h h2, ?_⟩
  simp [chgB, hv]
theorem bad_change_ok {c : Ch} (h : Dr A i L C) (q : ∀ d A', Bad A' d → Dr A' i L C → Gro A A' i L → Q d A') : sp__law_bad_change [.ref i, cD c] A Q E := by
  unfold sp__law_bad_change defSp t__law_bad_change
  refine ⟨rfl, ?_⟩
  simp only [wpB, wpS, wp, wpEs, wpG, wpGs, cD, startD_c, startD_e, List.replicate, getS_z, getS_c, opt_s, List.set, setAll, List.length_cons, List.length_nil, LIM, Nat.reduceAdd, Nat.reduceLeDiff, true_and, if_true]
  have k1 : okD (A ++ [Cell.dct (List.foldl (fun acc kv => putD acc kv.fst kv.snd) [] ([].zip []))]) (.ref A.length) := ok_dct last_app
  generalize hA1 : (A ++ [Cell.dct (List.foldl (fun acc kv => putD acc kv.fst kv.snd) [] ([].zip []))]) = A1 at *
  have p1 : A <+: A1 := by rw [← hA1]; exact List.prefix_append _ _
  have k2 : okD (A1 ++ [Cell.lst [vD c.a, pD c.p]]) (.ref A1.length) := ok_ref last_app
  have k1 := okD_app k1 [Cell.lst [vD c.a, pD c.p]]
  generalize hA2 : A1 ++ [Cell.lst [vD c.a, pD c.p]] = A2 at *
  have p2 : A <+: A2 := by rw [← hA2]; exact pre_app p1 _
  have m (x : AH) : ∀ d, okD A2 d → okD (A2 ++ x) d := fun d h => okD_app h _
  refine add_bad last_app (all_c ⟨ok3_a okN rfl, rfl⟩ (all_c ⟨ok3_a okD_i rfl, rfl⟩ (all_c ⟨ok3_t all_n, rfl⟩ (all_c ⟨ok3_a okS rfl, rfl⟩ (all_c ⟨ok3_a (m _ _ k1) rfl, rfl⟩ (all_c ⟨ok3_t (all_1 ok2_v), rfl⟩ (all_c ⟨ok3_t (all_c ok2_v (all_c ok2_p (all_1 (ok2_a okN rfl)))), rfl⟩ (all_1 ⟨ok3_a (m _ _ k2) rfl, rfl⟩))))))))
    (all_c (bad_v (ok2_a okS rfl) ok2_p rfl) (all_c (bad_v (ok2_a okB rfl) ok2_p rfl) (all_c (bad_v (ok2_t (all_1 okD_v)) ok2_p rfl) (all_c (bad_p (ok2_a okD_i rfl) rfl rfl) (all_1 (bad_p (ok2_t (all_c okD_i (all_1 okN))) rfl rfl)))))) (by simp [LIM]) fun A3 q3 g3 h3 b3 l3 => ?_
  have p3 := p2.trans ((List.prefix_append _ _).trans g3)
  have m4 : ∀ d, okD A3 d → okD (A3 ++ [Cell.lst [D.int 0, D.non, D.non]]) d := fun d h => okD_app h _
  refine add_bad (at_app h3) (fun x hx => (b3 x hx).mono m4)
    (all_c (bad_p (ok2_a (ok_ref last_app) rfl) rfl rfl) (all_c (bad_p (ok2_t (all_c okN (all_c okN (all_1 okN)))) rfl rfl) (all_1 (bad_p (ok2_t (all_c okB (all_c okN (all_1 okN)))) rfl rfl)))) (by simp [LIM]) fun A4 q4 g4 h4 b4 l4 => ?_
  have p4 := p3.trans ((List.prefix_append _ _).trans g4)
  refine add_bad h4 b4
    (all_c (bad_p (ok2_t (all_c okD_i (all_c okD_i (all_1 okD_i)))) rfl rfl) (all_c (bad_p (ok2_t (all_c okD_i (all_c okD_i (all_1 okD_i)))) rfl rfl) (all_c (bad_p (ok2_t (all_c okD_i (all_c okS (all_1 okN)))) rfl rfl) (all_1 (bad_p (ok2_t (all_c okD_i (all_c okN (all_1 okB)))) rfl rfl))))) (by simp [LIM]) fun A5 q5 g5 h5 b5 l5 => ?_
  have p5 := p4.trans g5
  refine add_bad h5 b5
    (all_c (bad_p (ok2_t (all_c okD_i (all_c okN (all_c okN (all_1 okN))))) rfl rfl) (all_1 ⟨t2 ok2_p (ok2_t (all_c okD_i (all_c okN (all_1 okT)))), by simp [chgB, tripB, isNon]⟩)) (by simp [LIM]) fun A6 q6 g6 h6 b6 l6 => ?_
  have p6 := p5.trans g6
  obtain ⟨x6, e6⟩ := p6
  have d6 : Dr A6 i L C := by rw [← e6]; exact h.app _
  have g0 : Gro A A6 i L := by rw [← e6]; exact Gro.app _
  obtain ⟨z1, z2, z3⟩ := h.lt
  have ll : A.length ≤ A5.length := p5.length_le
  refine pick_k d6 h6 ⟨by omega, by omega⟩ (by simp) (by simp) fun x A7 hx d7 g7 => ?_
  exact q x A7 ((b6 x hx).mono fun d hd => g7.ok d7 hd) d7 (g0.trans g7)
end
section
variable {A A0 : AH} {i L C : Nat} {Q : DK} {E : DX}
/-- a comprehension that takes some, whatever its test does to the draws -/
theorem comp_sub {gd : AH → Prop} {g : Nat} {δw : DSt} {c : DSt → AH → (Bool → AH → Prop) → Prop} {e : DSt → AH → DK → Prop} {Q : DK} (Inv : AH → Prop) (hg : ∀ A, Inv A → gd A) : ∀ (xs acc : List D) (A : AH),
    (∀ x ∈ xs, ∀ A k, Inv A → (∀ b A', Inv A' → k b A') → c (δw.set g (some x)) A k) → (∀ x ∈ xs, ∀ A k, k x A → e (δw.set g (some x)) A k) → Inv A → acc.length + xs.length ≤ LIM →
    (∀ ys A', ys.Sublist xs → Inv A' → Q (.ref A'.length) (A' ++ [.lst (acc ++ ys)])) → compP gd g δw c e Q xs acc A
  | [], acc, A, hc, he, hi, hl, q => ⟨hg A hi, by have := q [] A (List.Sublist.refl _) hi; rwa [List.append_nil] at this⟩
  | x :: xs, acc, A, hc, he, hi, hl, q => by
    have hl2 : acc.length < LIM := by rw [List.length_cons] at hl; omega
    refine ⟨hg A hi, hc x (by simp) A _ hi fun b A' hi' => ?_⟩
    cases b with
    | true =>
      rw [if_pos rfl]
      refine he x (by simp) A' _ ⟨hl2, comp_sub Inv hg xs (acc ++ [x]) A' (fun y hy => hc y (by simp [hy])) (fun y hy => he y (by simp [hy])) hi' (by rw [List.length_append]; simp at hl ⊢; omega) fun ys A2 hs h2 => ?_⟩
      have := q (x :: ys) A2 (hs.cons_cons x) h2
      simpa using this
    | false =>
      rw [if_neg (by decide)]
      exact comp_sub Inv hg xs acc A' (fun y hy => hc y (by simp [hy])) (fun y hy => he y (by simp [hy])) hi' (by simp at hl ⊢; omega) fun ys A2 hs h2 => q ys A2 (hs.cons x) h2
structure Bd where
  spot : Nat
  item : D
  lam : Nat
  cls : Nat
def bD (b : Bd) : D := .tup [.int b.spot, b.item, .lam b.lam]
def told (wr : List Bd) (as : List D) : List D := wr.foldl (fun as b => as.set b.spot b.item) as
theorem ixN_k {n k : Nat} (h : k < n) : L2.ixN n (k : Int) = some k := by
  unfold L2.ixN
  rw [if_pos (by omega), if_pos (by omega)]
  simp
theorem map_sub {α β : Type} {f : α → β} : ∀ {xs : List α} {ys : List β}, ys.Sublist (xs.map f) → ∃ zs : List α, ys = zs.map f ∧ zs.Sublist xs := fun h => by
  obtain ⟨zs, h1, h2⟩ := List.sublist_map_iff.mp h
  exact ⟨zs, h2, h1⟩
end
abbrev Tr := Int × Option Int × Option Int
/-- bounds in their sequence -/
def okTr : Tr → Prop
  | (s, some l, some h) => l < h ∨ (l = h ∧ s = 0)
  | _ => True
theorem trip_iff {t : Tr} : tripB (pD (some t)) = true ↔ okTr t := by
  obtain ⟨s, l, h⟩ := t
  cases l <;> cases h <;> simp [pD, vD, tripB, okTr]
theorem good_iff {c : Ch} : Good c ↔ ∀ t, c.p = some t → okTr t := by
  obtain ⟨a, p⟩ := c
  show (isValD (vD a) && (isNon (pD p) || tripB (pD p))) = true ↔ _
  rw [isVal_v]
  cases p with
  | none => simp [pD, isNon]
  | some t =>
    have e : isNon (pD (some t)) = false := rfl
    rw [e]
    simp only [Bool.true_and, Bool.false_or]
    rw [trip_iff]
    simp
def lowC (l : Option Int) (m : Int) (l2 h2 d : Option Int) : Option Int := match l with
  | none => d
  | some l => some (bnd (l + m) l2 h2)
def presC : Tr → Tr → Tr
  | (s, l, h), (m, l2, h2) => if (lowC l m l2 h2 l2).isSome = true ∧ lowC l m l2 h2 l2 = lowC h m l2 h2 h2 then (0, lowC l m l2 h2 l2, lowC h m l2 h2 h2) else (s + m, lowC l m l2 h2 l2, lowC h m l2 h2 h2)
def thenP : Option Tr → Ch → Option Tr
  | some x, ⟨_, some y⟩ => some (presC x y)
  | some _, ⟨_, none⟩ => none
  | none, ⟨some k, _⟩ => some (0, some k, some k)
  | none, ⟨none, _⟩ => none
def thenC (c d : Ch) : Ch := ⟨actV d c.a, thenP c.p d⟩
def actT (t : Tr) (x : Int) : Int := bnd (x + t.1) t.2.1 t.2.2
theorem bnd_nn {x : Int} : bnd x none none = x := by simp [bnd, low, high]
theorem bnd_sn {x l : Int} : bnd x (some l) none = max x l := by
  simp only [bnd, low, high, decide_eq_true_eq, Bool.false_eq_true, if_false, Option.getD_some]
  split <;> omega
theorem bnd_ns {x h : Int} : bnd x none (some h) = min x h := by
  simp only [bnd, low, high, decide_eq_true_eq, Bool.false_eq_true, if_false, Option.getD_some]
  split <;> omega
theorem bnd_ss {x l h : Int} (k : l ≤ h) : bnd x (some l) (some h) = max l (min x h) := by
  simp only [bnd, low, high, decide_eq_true_eq, Option.getD_some]
  split
  · omega
  · split <;> omega
theorem pres_if {s m : Int} {l h l2 h2 : Option Int} {P : Tr → Prop} (a : (lowC l m l2 h2 l2).isSome = true → lowC l m l2 h2 l2 = lowC h m l2 h2 h2 → P (0, lowC l m l2 h2 l2, lowC h m l2 h2 h2))
    (b : ¬ ((lowC l m l2 h2 l2).isSome = true ∧ lowC l m l2 h2 l2 = lowC h m l2 h2 h2) → P (s + m, lowC l m l2 h2 l2, lowC h m l2 h2 h2)) : P (presC (s, l, h) (m, l2, h2)) := by
  simp only [presC]
  split
  · rename_i e
    exact a e.1 e.2
  · rename_i e
    exact b e
theorem pres_ok {x y : Tr} (hx : okTr x) (hy : okTr y) : okTr (presC x y) ∧ ∀ v, actT (presC x y) v = actT y (actT x v) := by
  obtain ⟨s, l, h⟩ := x
  obtain ⟨m, l2, h2⟩ := y
  refine pres_if (P := fun t => okTr t ∧ ∀ v, actT t v = actT (m, l2, h2) (actT (s, l, h) v)) (fun e1 e2 => ?_) fun e => ?_
  · cases l <;> cases h <;> cases l2 <;> cases h2 <;> simp only [lowC, Option.isSome_none, Bool.false_eq_true, reduceCtorEq, Option.some.injEq, okTr] at e1 e2 hx hy ⊢ <;>
      simp (disch := omega) only [actT, bnd_nn, bnd_sn, bnd_ns, bnd_ss, and_true] at e2 ⊢ <;> clear e1 <;> first | exact ⟨by omega, fun v => by omega⟩ | exact fun v => by omega | skip
  · cases l <;> cases h <;> cases l2 <;> cases h2 <;> simp only [lowC, Option.isSome_none, Option.isSome_some, Bool.false_eq_true, reduceCtorEq, Option.some.injEq, okTr, true_and, false_and, not_false_eq_true] at e hx hy ⊢ <;>
      simp (disch := omega) only [actT, bnd_nn, bnd_sn, bnd_ns, bnd_ss] at e ⊢ <;> first | exact ⟨by omega, fun v => by omega⟩ | exact fun v => by omega | skip
theorem actV_some {a : Option Int} {t : Tr} {v : Int} : actV ⟨a, some t⟩ (some v) = some (actT t v) := rfl
theorem then_act {c d : Ch} (gc : Good c) (gd : Good d) (v : Option Int) : actV (thenC c d) v = actV d (actV c v) := by
  obtain ⟨a, p⟩ := c
  obtain ⟨b, q⟩ := d
  cases v with
  | none => rfl
  | some v =>
    cases p with
    | none =>
      cases b with
      | none => rfl
      | some k =>
        show some (bnd (v + 0) (some k) (some k)) = some k
        rw [bnd_ss (Int.le_refl k)]
        congr 1
        omega
    | some x =>
      cases q with
      | none => rfl
      | some y =>
        show some (actT (presC x y) v) = some (actT y (actT x v))
        rw [(pres_ok (good_iff.mp gc x rfl) (good_iff.mp gd y rfl)).2 v]
theorem then_good {c d : Ch} (gc : Good c) (gd : Good d) : Good (thenC c d) := by
  obtain ⟨a, p⟩ := c
  obtain ⟨b, q⟩ := d
  refine good_iff.mpr fun t e => ?_
  cases p with
  | none =>
    cases b with
    | none => cases e
    | some k => cases e; exact .inr ⟨rfl, rfl⟩
  | some x =>
    cases q with
    | none => cases e
    | some y =>
      cases e
      exact (pres_ok (good_iff.mp gc x rfl) (good_iff.mp gd y rfl)).1
theorem act_low {s : Int} {l h : Option Int} (ok : okTr (s, l, h)) : ∃ N : Int, ∀ v, v ≤ N → actT (s, l, h) v = l.getD (v + s) := by
  cases l with
  | none =>
    cases h with
    | none => exact ⟨0, fun v _ => bnd_nn⟩
    | some b =>
      refine ⟨b - s, fun v hv => ?_⟩
      show bnd (v + s) none (some b) = v + s
      rw [bnd_ns]; omega
  | some a =>
    refine ⟨a - s, fun v hv => ?_⟩
    cases h with
    | none =>
      show bnd (v + s) (some a) none = a
      rw [bnd_sn]; omega
    | some b =>
      have ok : a < b ∨ (a = b ∧ s = 0) := ok
      show bnd (v + s) (some a) (some b) = a
      rw [bnd_ss (by omega)]; omega
theorem act_high {s : Int} {l h : Option Int} (ok : okTr (s, l, h)) : ∃ N : Int, ∀ v, N ≤ v → actT (s, l, h) v = h.getD (v + s) := by
  cases h with
  | none =>
    cases l with
    | none => exact ⟨0, fun v _ => bnd_nn⟩
    | some b =>
      refine ⟨b - s, fun v hv => ?_⟩
      show bnd (v + s) (some b) none = v + s
      rw [bnd_sn]; omega
  | some a =>
    refine ⟨a - s, fun v hv => ?_⟩
    cases l with
    | none =>
      show bnd (v + s) none (some a) = a
      rw [bnd_ns]; omega
    | some b =>
      have ok : b < a ∨ (b = a ∧ s = 0) := ok
      show bnd (v + s) (some b) (some a) = a
      rw [bnd_ss (by omega)]; omega
theorem step_le {s m a b : Int} (k : a < b) (h : ∀ v, actT (s, some a, some b) v = actT (m, some a, some b) v) : s ≤ m := by
  have z : bnd (a - s + 1 + s) (some a) (some b) = bnd (a - s + 1 + m) (some a) (some b) := h (a - s + 1)
  rw [bnd_ss (by omega), bnd_ss (by omega)] at z
  omega
/-- triples that do the same are equal -/
theorem tr_ext {x y : Tr} (hx : okTr x) (hy : okTr y) (h : ∀ v, actT x v = actT y v) : x = y := by
  obtain ⟨s, l, h1⟩ := x
  obtain ⟨m, l2, h2⟩ := y
  obtain ⟨N1, n1⟩ := act_low hx
  obtain ⟨N2, n2⟩ := act_low hy
  obtain ⟨M1, m1⟩ := act_high hx
  obtain ⟨M2, m2⟩ := act_high hy
  have a1 : l.getD (min N1 N2 + s) = l2.getD (min N1 N2 + m) := by
    have := h (min N1 N2)
    rwa [n1 _ (by omega), n2 _ (by omega)] at this
  have a2 : l.getD (min N1 N2 - 1 + s) = l2.getD (min N1 N2 - 1 + m) := by
    have := h (min N1 N2 - 1)
    rwa [n1 _ (by omega), n2 _ (by omega)] at this
  have b1 : h1.getD (max M1 M2 + s) = h2.getD (max M1 M2 + m) := by
    have := h (max M1 M2)
    rwa [m1 _ (by omega), m2 _ (by omega)] at this
  have b2 : h1.getD (max M1 M2 + 1 + s) = h2.getD (max M1 M2 + 1 + m) := by
    have := h (max M1 M2 + 1)
    rwa [m1 _ (by omega), m2 _ (by omega)] at this
  generalize min N1 N2 = N at a1 a2
  generalize max M1 M2 = M at b1 b2
  clear n1 n2 m1 m2
  have el : l = l2 := by
    cases l <;> cases l2 <;> simp only [Option.getD_some, Option.getD_none] at a1 a2
    · rfl
    · exfalso; omega
    · exfalso; omega
    · rw [a1]
  have eh : h1 = h2 := by
    cases h1 <;> cases h2 <;> simp only [Option.getD_some, Option.getD_none] at b1 b2
    · rfl
    · exfalso; omega
    · exfalso; omega
    · rw [b1]
  subst el
  subst eh
  have es : s = m := by
    cases l with
    | none => simp only [Option.getD_none] at a1; omega
    | some a =>
      cases h1 with
      | none => simp only [Option.getD_none] at b1; omega
      | some b =>
        have hx : a < b ∨ (a = b ∧ s = 0) := hx
        have hy : a < b ∨ (a = b ∧ m = 0) := hy
        by_cases k : a < b
        · have z1 := step_le k h
          have z2 := step_le k fun v => (h v).symm
          omega
        · omega
  rw [es]
theorem ch_ext {c d : Ch} (gc : Good c) (gd : Good d) (h : ∀ v, actV c v = actV d v) : c = d := by
  obtain ⟨a, p⟩ := c
  obtain ⟨b, q⟩ := d
  have e : a = b := h none
  subst e
  cases p with
  | none =>
    cases q with
    | none => rfl
    | some y => cases h (some 0)
  | some x =>
    cases q with
    | none => cases h (some 0)
    | some y =>
      have e : x = y := tr_ext (good_iff.mp gc x rfl) (good_iff.mp gd y rfl) fun v => by
        have := h (some v)
        rw [actV_some, actV_some] at this
        exact Option.some.inj this
      rw [e]
def idC : Ch := ⟨none, some (0, none, none)⟩
theorem id_good : Good idC := rfl
theorem id_act (v : Option Int) : actV idC v = v := by
  cases v with
  | none => rfl
  | some v =>
    show some (bnd (v + 0) none none) = some v
    rw [bnd_nn]
    congr 1
    omega
def runC (cs : List Ch) (v : Option Int) : Option Int := cs.foldl (fun v c => actV c v) v
def inC (c : Ch) (cs : List Ch) : Ch := cs.foldl thenC c
theorem in_ok : ∀ (cs : List Ch) (c : Ch), Good c → (∀ d ∈ cs, Good d) → Good (inC c cs) ∧ ∀ v, actV (inC c cs) v = runC cs (actV c v)
  | [], c, g, h => ⟨g, fun v => rfl⟩
  | d :: cs, c, g, h => by
    obtain ⟨h1, h2⟩ := in_ok cs (thenC c d) (then_good g (h d (by simp))) fun e he => h e (by simp [he])
    refine ⟨h1, fun v => ?_⟩
    show actV (inC (thenC c d) cs) v = runC cs (actV d (actV c v))
    rw [h2, then_act g (h d (by simp))]
theorem run_app (cs ds : List Ch) (v : Option Int) : runC (cs ++ ds) v = runC ds (runC cs v) := List.foldl_append
theorem then_in {cs ds : List Ch} (hc : ∀ d ∈ cs, Good d) (hd : ∀ d ∈ ds, Good d) : thenC (inC idC cs) (inC idC ds) = inC idC (cs ++ ds) := by
  obtain ⟨g1, a1⟩ := in_ok cs idC id_good hc
  obtain ⟨g2, a2⟩ := in_ok ds idC id_good hd
  obtain ⟨g3, a3⟩ := in_ok (cs ++ ds) idC id_good (fun d h => (List.mem_append.mp h).elim (hc d) (hd d))
  refine ch_ext (then_good g1 g2) g3 fun v => ?_
  rw [then_act g1 g2, a1, a2, a3, id_act, id_act, run_app]
/-- a triple that does not always the same -/
def ncT : Tr → Prop
  | (_, some l, some h) => l < h
  | _ => True
theorem not_nc {t : Tr} (ok : okTr t) (h : ¬ ncT t) : ∃ a, t = (0, some a, some a) := by
  obtain ⟨s, l, u⟩ := t
  cases l with
  | none => exact absurd True.intro h
  | some a =>
    cases u with
    | none => exact absurd True.intro h
    | some b =>
      have ok : a < b ∨ (a = b ∧ s = 0) := ok
      have h : ¬ a < b := h
      have e1 : a = b := by omega
      have e2 : s = 0 := by omega
      exact ⟨a, by rw [e1, e2]⟩
/-- where its bounds begin to hold -/
def bendP (t : Tr) (b : Int) : Prop := t.2.1 = some (b + t.1) ∨ t.2.2 = some (b + t.1)
theorem f_low {s a : Int} {u : Option Int} (nc : ncT (s, some a, u)) : actT (s, some a, u) (a - s - 1) = a ∧ actT (s, some a, u) (a - s) = a ∧ actT (s, some a, u) (a - s + 1) = a + 1 := by
  cases u with
  | none => simp only [actT, bnd_sn]; omega
  | some b =>
    have nc : a < b := nc
    simp (disch := omega) only [actT, bnd_ss]
    omega
theorem f_high {s a : Int} {l : Option Int} (nc : ncT (s, l, some a)) : actT (s, l, some a) (a - s - 1) = a - 1 ∧ actT (s, l, some a) (a - s) = a ∧ actT (s, l, some a) (a - s + 1) = a := by
  cases l with
  | none => simp only [actT, bnd_ns]; omega
  | some b =>
    have nc : b < a := nc
    simp (disch := omega) only [actT, bnd_ss]
    omega
theorem g_low {m a b : Int} {l2 h2 : Option Int} (ok : okTr (m, l2, h2)) (z1 : actT (m, l2, h2) (b - 1) = a) (z2 : actT (m, l2, h2) b = a) (z3 : actT (m, l2, h2) (b + 1) = a + 1) : l2 = some a ∧ b + m = a := by
  cases l2 with
  | none =>
    exfalso
    cases h2 with
    | none => simp only [actT, bnd_nn] at z1 z2 z3; omega
    | some h => simp only [actT, bnd_ns] at z1 z2 z3; omega
  | some l =>
    cases h2 with
    | none =>
      simp only [actT, bnd_sn] at z1 z2 z3
      exact ⟨by congr 1; omega, by omega⟩
    | some h =>
      have ok : l < h ∨ (l = h ∧ m = 0) := ok
      simp (disch := omega) only [actT, bnd_ss] at z1 z2 z3
      exact ⟨by congr 1; omega, by omega⟩
theorem g_high {m a b : Int} {l2 h2 : Option Int} (ok : okTr (m, l2, h2)) (z1 : actT (m, l2, h2) (b - 1) = a - 1) (z2 : actT (m, l2, h2) b = a) (z3 : actT (m, l2, h2) (b + 1) = a) : h2 = some a ∧ b + m = a := by
  cases h2 with
  | none =>
    exfalso
    cases l2 with
    | none => simp only [actT, bnd_nn] at z1 z2 z3; omega
    | some h => simp only [actT, bnd_sn] at z1 z2 z3; omega
  | some h =>
    cases l2 with
    | none =>
      simp only [actT, bnd_ns] at z1 z2 z3
      exact ⟨by congr 1; omega, by omega⟩
    | some l =>
      have ok : l < h ∨ (l = h ∧ m = 0) := ok
      simp (disch := omega) only [actT, bnd_ss] at z1 z2 z3
      exact ⟨by congr 1; omega, by omega⟩
theorem const_act {a v : Int} : actT (0, some a, some a) v = a := by
  simp only [actT]
  rw [bnd_ss (Int.le_refl a)]; omega
/-- triples that do the same at the numbers that tell are equal -/
theorem tr_tell {x y : Tr} (P : Int → Prop) (hx : okTr x) (hy : okTr y) (p0 : P 0) (p1 : P 1) (px : ncT x → ∀ b, bendP x b → P (b - 1) ∧ P b ∧ P (b + 1)) (py : ncT y → ∀ b, bendP y b → P (b - 1) ∧ P b ∧ P (b + 1))
    (h : ∀ v, P v → actT x v = actT y v) : x = y := by
  -- one of them always the same
  have con : ∀ {x y : Tr} {a : Int}, okTr y → x = (0, some a, some a) → (ncT y → ∀ b, bendP y b → P (b - 1) ∧ P b ∧ P (b + 1)) → (∀ v, P v → actT x v = actT y v) → x = y := by
    intro x y a hy ex py h
    subst ex
    by_cases ny : ncT y
    · exfalso
      have h : ∀ v, P v → actT y v = a := fun v hv => by rw [← h v hv, const_act]
      obtain ⟨m, l2, h2⟩ := y
      cases l2 with
      | some b =>
        obtain ⟨_, q2, q3⟩ := py ny (b - m) (.inl (by show some b = some (b - m + m); congr 1; omega))
        obtain ⟨_, f2, f3⟩ := f_low ny
        have := h _ q2; have := h _ q3
        omega
      | none =>
        cases h2 with
        | some b =>
          obtain ⟨q1, q2, _⟩ := py ny (b - m) (.inr (by show some b = some (b - m + m); congr 1; omega))
          obtain ⟨f1, f2, _⟩ := f_high ny
          have := h _ q1; have := h _ q2
          omega
        | none =>
          have a0 := h 0 p0; have a1 := h 1 p1
          simp only [actT, bnd_nn] at a0 a1
          omega
    · obtain ⟨b, eb⟩ := not_nc hy ny
      subst eb
      have := h 0 p0
      rw [const_act, const_act] at this
      rw [this]
  by_cases nx : ncT x
  · by_cases ny : ncT y
    · obtain ⟨s, l, u⟩ := x
      obtain ⟨m, l2, u2⟩ := y
      have L1 : ∀ a, l = some a → l2 = some a ∧ a - s + m = a := fun a e => by
        subst e
        obtain ⟨q1, q2, q3⟩ := px nx (a - s) (.inl (by show some a = some (a - s + s); congr 1; omega))
        obtain ⟨f1, f2, f3⟩ := f_low nx
        exact g_low hy ((h _ q1).symm.trans f1) ((h _ q2).symm.trans f2) ((h _ q3).symm.trans f3)
      have L2 : ∀ a, l2 = some a → l = some a := fun a e => by
        subst e
        obtain ⟨q1, q2, q3⟩ := py ny (a - m) (.inl (by show some a = some (a - m + m); congr 1; omega))
        obtain ⟨f1, f2, f3⟩ := f_low ny
        exact (g_low hx ((h _ q1).trans f1) ((h _ q2).trans f2) ((h _ q3).trans f3)).1
      have U1 : ∀ a, u = some a → u2 = some a ∧ a - s + m = a := fun a e => by
        subst e
        obtain ⟨q1, q2, q3⟩ := px nx (a - s) (.inr (by show some a = some (a - s + s); congr 1; omega))
        obtain ⟨f1, f2, f3⟩ := f_high nx
        exact g_high hy ((h _ q1).symm.trans f1) ((h _ q2).symm.trans f2) ((h _ q3).symm.trans f3)
      have U2 : ∀ a, u2 = some a → u = some a := fun a e => by
        subst e
        obtain ⟨q1, q2, q3⟩ := py ny (a - m) (.inr (by show some a = some (a - m + m); congr 1; omega))
        obtain ⟨f1, f2, f3⟩ := f_high ny
        exact (g_high hx ((h _ q1).trans f1) ((h _ q2).trans f2) ((h _ q3).trans f3)).1
      have el : l = l2 := by
        cases l with
        | some a => exact (L1 a rfl).1.symm
        | none =>
          cases l2 with
          | none => rfl
          | some a => exact L2 a rfl
      have eu : u = u2 := by
        cases u with
        | some a => exact (U1 a rfl).1.symm
        | none =>
          cases u2 with
          | none => rfl
          | some a => exact U2 a rfl
      have es : s = m := by
        cases l with
        | some a => have := (L1 a rfl).2; omega
        | none =>
          cases u with
          | some a => have := (U1 a rfl).2; omega
          | none =>
            subst el
            subst eu
            have := h 0 p0
            simp only [actT, bnd_nn] at this
            omega
      rw [el, eu, es]
    · obtain ⟨b, eb⟩ := not_nc hy ny
      exact (con hx eb px fun v hv => (h v hv).symm).symm
  · obtain ⟨b, eb⟩ := not_nc hx nx
    exact con hy eb py h
/-- changes that do the same to nothing and to the numbers that tell are equal -/
theorem ch_tell {c d : Ch} (P : Int → Prop) (gc : Good c) (gd : Good d) (ea : c.a = d.a) (p0 : P 0) (p1 : P 1) (px : ∀ t, c.p = some t → ncT t → ∀ b, bendP t b → P (b - 1) ∧ P b ∧ P (b + 1))
    (py : ∀ t, d.p = some t → ncT t → ∀ b, bendP t b → P (b - 1) ∧ P b ∧ P (b + 1)) (h : ∀ v, P v → actV c (some v) = actV d (some v)) : c = d := by
  obtain ⟨a, p⟩ := c
  obtain ⟨b, q⟩ := d
  have ea : a = b := ea
  subst ea
  cases p with
  | none =>
    cases q with
    | none => rfl
    | some y => cases h 0 p0
  | some x =>
    cases q with
    | none => cases h 0 p0
    | some y =>
      have e : x = y := tr_tell P (good_iff.mp gc x rfl) (good_iff.mp gd y rfl) p0 p1 (px x rfl) (py y rfl) fun v hv => by
        have := h v hv
        rw [actV_some, actV_some] at this
        exact Option.some.inj this
      rw [e]
/-- the numbers at which a row's bounds begin to hold -/
def trio (o : Option Int) (g : Int) : List (Option Int) := match o with
  | none => []
  | some l => [some (l - g - 1), some (l - g), some (l - g + 1)]
def edgesC : List Ch → Int → List (Option Int)
  | [], _ => []
  | ⟨_, none⟩ :: cs, g => edgesC cs g
  | ⟨_, some (s, l, h)⟩ :: cs, g => trio l (g + s) ++ trio h (g + s) ++ edgesC cs (g + s)
/-- what is told of a row's bends so far -/
def Ed (vs : List (Option Int)) (c : Ch) (g : Int) : Prop := ∀ t, c.p = some t → ncT t → t.1 = g ∧ ∀ b, bendP t b → some (b - 1) ∈ vs ∧ some b ∈ vs ∧ some (b + 1) ∈ vs
theorem pres_nc {x y : Tr} (hx : okTr x) (h : ncT (presC x y)) : ncT x := by
  by_cases nx : ncT x
  · exact nx
  · exfalso
    obtain ⟨a, e⟩ := not_nc hx nx
    subst e
    obtain ⟨m, l2, h2⟩ := y
    revert h
    refine pres_if (P := fun t => ncT t → False) (fun e1 e2 h => ?_) fun e h => ?_
    · have h : bnd (a + m) l2 h2 < bnd (a + m) l2 h2 := h
      omega
    · exact e ⟨rfl, rfl⟩
theorem ed_step {vs : List (Option Int)} {c d : Ch} {g s : Int} {l u : Option Int} (gc : Good c) (h : Ed vs c g) (hd : d.p = some (s, l, u)) : Ed (vs ++ (trio l (g + s) ++ trio u (g + s))) (thenC c d) (g + s) := by
  intro t et nt
  obtain ⟨a, p⟩ := c
  obtain ⟨b, q⟩ := d
  have hd : q = some (s, l, u) := hd
  subst hd
  have et : thenP p ⟨b, some (s, l, u)⟩ = some t := et
  have tr : ∀ {o : Option Int} {k : Int}, o = some k → ∀ w, (w = k - (g + s) - 1 ∨ w = k - (g + s) ∨ w = k - (g + s) + 1) → some w ∈ trio o (g + s) := fun {o k} e w hw => by
    subst e
    rcases hw with hw | hw | hw <;> subst hw <;> simp [trio]
  cases p with
  | none =>
    cases b with
    | none => cases et
    | some k => cases et; exact absurd nt (Int.lt_irrefl k)
  | some x =>
    have et : presC x (s, l, u) = t := Option.some.inj et
    subst et
    have ok := good_iff.mp gc x rfl
    have nx := pres_nc ok nt
    obtain ⟨h1, h2⟩ := h x rfl nx
    obtain ⟨m, l1, u1⟩ := x
    have h1 : m = g := h1
    subst h1
    -- all in the old ones or in the new ones
    have key : ∀ (o d' : Option Int) (w : Int), (∀ b, o = some (b + m) → some (b - 1) ∈ vs ∧ some b ∈ vs ∧ some (b + 1) ∈ vs) → (d' = l ∨ d' = u) → lowC o s l u d' = some (w + (m + s)) →
        some (w - 1) ∈ vs ++ (trio l (m + s) ++ trio u (m + s)) ∧ some w ∈ vs ++ (trio l (m + s) ++ trio u (m + s)) ∧ some (w + 1) ∈ vs ++ (trio l (m + s) ++ trio u (m + s)) := by
      intro o d' w ho hd' e
      have new : ∀ {k : Int}, (l = some k ∨ u = some k) → k = w + (m + s) → some (w - 1) ∈ vs ++ (trio l (m + s) ++ trio u (m + s)) ∧ some w ∈ vs ++ (trio l (m + s) ++ trio u (m + s)) ∧ some (w + 1) ∈ vs ++ (trio l (m + s) ++ trio u (m + s)) := fun {k} hk e => by
        rcases hk with hk | hk
        · exact ⟨List.mem_append_right _ (List.mem_append_left _ (tr hk _ (by omega))), List.mem_append_right _ (List.mem_append_left _ (tr hk _ (by omega))), List.mem_append_right _ (List.mem_append_left _ (tr hk _ (by omega)))⟩
        · exact ⟨List.mem_append_right _ (List.mem_append_right _ (tr hk _ (by omega))), List.mem_append_right _ (List.mem_append_right _ (tr hk _ (by omega))), List.mem_append_right _ (List.mem_append_right _ (tr hk _ (by omega)))⟩
      cases o with
      | none =>
        have e : d' = some (w + (m + s)) := e
        rcases hd' with hd' | hd'
        · exact new (.inl (hd' ▸ e)) rfl
        · exact new (.inr (hd' ▸ e)) rfl
      | some k =>
        have e : bnd (k + s) l u = w + (m + s) := Option.some.inj e
        unfold bnd at e
        split at e
        · rename_i hl
          cases l with
          | none => cases hl
          | some l => exact new (.inl rfl) e
        · split at e
          · rename_i hu
            cases u with
            | none => cases hu
            | some u => exact new (.inr rfl) e
          · obtain ⟨z1, z2, z3⟩ := ho w (by congr 1; omega)
            exact ⟨List.mem_append_left _ z1, List.mem_append_left _ z2, List.mem_append_left _ z3⟩
    revert nt
    refine pres_if (P := fun t => ncT t → t.1 = m + s ∧ ∀ b, bendP t b → some (b - 1) ∈ vs ++ (trio l (m + s) ++ trio u (m + s)) ∧ some b ∈ vs ++ (trio l (m + s) ++ trio u (m + s)) ∧ some (b + 1) ∈ vs ++ (trio l (m + s) ++ trio u (m + s))) (fun e1 e2 nt => ?_) fun e nt => ?_
    · exfalso
      obtain ⟨k, ek⟩ := Option.isSome_iff_exists.mp e1
      rw [← e2, ek] at nt
      exact Int.lt_irrefl k nt
    · refine ⟨rfl, fun w hw => ?_⟩
      rcases hw with hw | hw
      · exact key l1 l w (fun b hb => h2 b (.inl hb)) (.inl rfl) hw
      · exact key u1 u w (fun b hb => h2 b (.inr hb)) (.inr rfl) hw
theorem Ed.mono {vs ws : List (Option Int)} {c : Ch} {g : Int} (h : Ed vs c g) (k : ∀ v ∈ vs, v ∈ ws) : Ed ws c g := fun t et nt => by
  obtain ⟨h1, h2⟩ := h t et nt
  exact ⟨h1, fun b hb => ⟨k _ (h2 b hb).1, k _ (h2 b hb).2.1, k _ (h2 b hb).2.2⟩⟩
theorem ed_row : ∀ (cs : List Ch) (c : Ch) (g : Int) (vs : List (Option Int)), Good c → (∀ d ∈ cs, Good d) → Ed vs c g → ∃ g', Ed (vs ++ edgesC cs g) (inC c cs) g'
  | [], c, g, vs, gc, gd, h => ⟨g, by show Ed (vs ++ []) c g; rw [List.append_nil]; exact h⟩
  | ⟨b, none⟩ :: cs, c, g, vs, gc, gd, h => by
    obtain ⟨g', h'⟩ := ed_row cs (thenC c ⟨b, none⟩) g vs (then_good gc (gd _ (by simp))) (fun d hd => gd d (by simp [hd])) (fun t et nt => by
      exfalso
      obtain ⟨a, p⟩ := c
      have et : thenP p ⟨b, none⟩ = some t := et
      cases p with
      | none =>
        cases b with
        | none => cases et
        | some k => cases et; exact Int.lt_irrefl k nt
      | some x => cases et)
    exact ⟨g', h'⟩
  | ⟨b, some (s, l, u)⟩ :: cs, c, g, vs, gc, gd, h => by
    obtain ⟨g', h'⟩ := ed_row cs (thenC c ⟨b, some (s, l, u)⟩) (g + s) (vs ++ (trio l (g + s) ++ trio u (g + s))) (then_good gc (gd _ (by simp))) (fun d hd => gd d (by simp [hd])) (ed_step gc h rfl)
    refine ⟨g', ?_⟩
    rw [List.append_assoc] at h'
    exact h'
def edges0 (cs : List Ch) : List (Option Int) := [none, some 0, some 1, some (-(10 ^ 13)), some (10 ^ 13)] ++ edgesC cs 0
/-- rows that do the same to the values near their bends come to equal changes -/
theorem row_tell {cs ds : List Ch} (gc : ∀ c ∈ cs, Good c) (gd : ∀ c ∈ ds, Good c) (h : ∀ v ∈ edges0 cs ++ edges0 ds, runC cs v = runC ds v) : inC idC cs = inC idC ds := by
  obtain ⟨g1, a1⟩ := in_ok cs idC id_good gc
  obtain ⟨g2, a2⟩ := in_ok ds idC id_good gd
  have i0 : Ed [none, some 0, some 1, some (-(10 ^ 13)), some (10 ^ 13)] idC 0 := fun t et nt => by
    cases et
    refine ⟨rfl, fun b hb => ?_⟩
    rcases hb with hb | hb <;> cases hb
  obtain ⟨k1, e1⟩ := ed_row cs idC 0 _ id_good gc i0
  obtain ⟨k2, e2⟩ := ed_row ds idC 0 _ id_good gd i0
  have h : ∀ v ∈ edges0 cs ++ edges0 ds, actV (inC idC cs) v = actV (inC idC ds) v := fun v hv => by rw [a1, a2, id_act]; exact h v hv
  refine ch_tell (fun v => some v ∈ edges0 cs ++ edges0 ds) g1 g2 (h none (by simp [edges0])) (by simp [edges0]) (by simp [edges0]) (fun t et nt b hb => ?_) (fun t et nt b hb => ?_) fun v hv => h _ hv
  · obtain ⟨z1, z2, z3⟩ := (e1 t et nt).2 b hb
    exact ⟨List.mem_append_left _ z1, List.mem_append_left _ z2, List.mem_append_left _ z3⟩
  · obtain ⟨z1, z2, z3⟩ := (e2 t et nt).2 b hb
    exact ⟨List.mem_append_right _ z1, List.mem_append_right _ z2, List.mem_append_right _ z3⟩
section
variable {A A0 : AH} {i L C : Nat} {Q : DK} {E : DX}
theorem eqP_vv {a b : Option Int} {k : Bool → Prop} : eqP A (vD a) (vD b) k = k (decide (a = b)) := by
  cases a with
  | none => cases b <;> rfl
  | some i =>
    cases b with
    | none => rfl
    | some j =>
      show eqP A (.int i) (.int j) k = _
      rw [eqP_int]
      congr 1
      simp
theorem toP_v {v : Option Int} {n : Nat} : toP A (n + 1) (vD v) = some (match v with | none => .none | some i => .int i) := by cases v <;> rfl
theorem toP_c {c : Ch} {n : Nat} : ∃ p, toP A (n + 3) (cD c) = some p := by
  obtain ⟨a, p⟩ := c
  cases p with
  | none => cases a <;> exact ⟨_, rfl⟩
  | some t =>
    obtain ⟨s, l, h⟩ := t
    cases a <;> cases l <;> cases h <;> exact ⟨_, rfl⟩
theorem eqP_c {c : Ch} {k : Bool → Prop} : eqP A (cD c) (cD c) k = k true := by
  obtain ⟨p, e⟩ := toP_c (A := A) (c := c) (n := 9)
  exact eqP_same e e rfl
theorem ne_c {c : Ch} {k : Bool → Prop} : cmpP .ne (cD c) (cD c) A k = k false := by
  show eqP A (cD c) (cD c) (fun b => k (!b)) = _
  rw [eqP_c]; rfl
theorem toP_cs {n : Nat} : ∀ cs : List Ch, ∃ ps, (cs.map cD).mapM (toP A (n + 3)) = some ps
  | [] => ⟨[], rfl⟩
  | c :: cs => by
    obtain ⟨p, e⟩ := toP_c (A := A) (c := c) (n := n)
    obtain ⟨ps, e2⟩ := toP_cs (n := n) cs
    refine ⟨p :: ps, ?_⟩
    rw [List.map_cons, List.mapM_cons, e, e2]
    rfl
theorem ne_cs {p q : Nat} {cs : List Ch} {k : Bool → Prop} (h1 : A[p]? = some (.lst (cs.map cD))) (h2 : A[q]? = some (.lst (cs.map cD))) : cmpP .ne (.ref p) (.ref q) A k = k false := by
  show eqP A (.ref p) (.ref q) (fun b => k (!b)) = _
  obtain ⟨ps, e⟩ := toP_cs (A := A) (n := 8) cs
  have a1 : toP A 12 (.ref p) = some (.list ps) := by
    show ((cellL A p).bind fun xs => (xs.mapM (toP A 11)).map PyData.list) = _
    rw [cellL_of h1]
    show ((cs.map cD).mapM (toP A 11)).map PyData.list = _
    rw [e]; rfl
  have a2 : toP A 12 (.ref q) = some (.list ps) := by
    show ((cellL A q).bind fun xs => (xs.mapM (toP A 11)).map PyData.list) = _
    rw [cellL_of h2]
    show ((cs.map cD).mapM (toP A 11)).map PyData.list = _
    rw [e]; rfl
  have a3 : lenNe A (.ref p) (.ref q) = false := by unfold lenNe; simp only [cellL_of h1, cellL_of h2]; simp
  rw [eqP_same a1 a2 a3]; rfl
theorem cmp_eq {x y : D} {k : Bool → Prop} : cmpP .eq x y A k = eqP A x y k := rfl
theorem cmp_ne {x y : D} {k : Bool → Prop} : cmpP .ne x y A k = eqP A x y (fun b => k (!b)) := rfl
theorem itP_of {x : D} {xs : List D} {k : List D → (AH → Prop) → Prop} (h : itemsD A x = some xs) (q : ∀ gd : AH → Prop, (∀ A', itemsD A' x = some xs → gd A') → k xs gd) : itP x A k := by
  cases x with
  | tup ds => cases h; exact q _ fun _ _ => True.intro
  | rol ds => cases h; exact q _ fun _ _ => True.intro
  | tux ds => cases h; exact q _ fun _ _ => True.intro
  | ref i =>
    have h : cellL A i = some xs := h
    show opt (cellL A i) _
    rw [h]
    exact q _ fun A' h => h
  | _ => cases h
theorem items_app {A A' : AH} {x : D} {xs : List D} (h : itemsD A x = some xs) (p : A <+: A') : itemsD A' x = some xs := by
  cases x with
  | tup ds => exact h
  | rol ds => exact h
  | tux ds => exact h
  | ref i =>
    show cellL A' i = some xs
    rcases cellL_at (show cellL A i = some xs from h) with h | h
    · exact cellL_of (pre_at p h)
    · have := pre_at p h
      unfold cellL; rw [this]
  | _ => cases h
/-- a list or a tuple -/
def isSeqD (A : AH) (d : D) : Bool := match tyD A d with
  | some (.b n) => n == "list" || n == "tuple"
  | _ => false
theorem bis_map (f : D → Bool) : ∀ xs : List D, bisD (xs.map fun d => .bl (f d)) = some (xs.map f)
  | [] => rfl
  | x :: xs => by
    show (bisD (xs.map fun d => .bl (f d))).map (f x :: ·) = _
    rw [bis_map f xs]; rfl
theorem need_changes_ok {x : D} {n : String} (hn : tyD A x = some (.b n)) (hs : isSeqD A x = true → ∃ xs, itemsD A x = some xs ∧ xs.length ≤ LIM ∧ ∀ y ∈ xs, ok3 A y)
    (q : ∀ A' xs, isSeqD A x = true → itemsD A x = some xs → xs.all chgB = true → A <+: A' → Q .non A')
    (e : ∀ A', A <+: A' → (isSeqD A x = false ∨ ∃ xs, itemsD A x = some xs ∧ xs.all chgB = false) → E x_BadChanges [] A') : sp_need_changes [x] A Q E := by
  unfold sp_need_changes defSp t_need_changes
  refine ⟨rfl, ?_⟩
  have hi : ∀ b, ((["list", "tuple"] : List String).any fun t => subT S (.b n) (.b t)) = b → isSeqD A x = b := by
    intro b hb
    unfold isSeqD
    rw [hn]
    have e1 : subT S (.b n) (.b "list") = (n == "list") := by
      show (n == "list" || (n == "bool" && "list" == "int")) = _
      simp
    have e2 : subT S (.b n) (.b "tuple") = (n == "tuple") := by
      show (n == "tuple" || (n == "bool" && "tuple" == "int")) = _
      simp
    rw [← hb]
    simp [e1, e2]
  simp only [wpB, wpS, wp, wpEs, wpI, wpO, asT, startD_c, startD_e, List.replicate, getS_z, getS_c, opt_s, List.set, hn]
  refine ⟨True.intro, ?_⟩
  rw [tru_b]
  cases hb : ((["list", "tuple"] : List String).any fun t => subT S (.b n) (.b t)) with
  | false =>
    simp only [Bool.not_false, if_true]
    exact e A (List.prefix_refl _) (.inl (hi _ hb))
  | true =>
    simp only [Bool.not_true, Bool.false_eq_true, if_false]
    obtain ⟨xs, h1, h2, h3⟩ := hs (hi _ hb)
    refine itP_of h1 fun gd hg => ?_
    refine comp_pure (fun _ => true) (fun d => .bl (chgB d)) (hg A h1) xs [] (fun y hy k hk => hk) (fun y hy k hk => ?_) (by simpa using h2) ?_
    · simp only [wipeD, List.set, getS_z, getS_c, opt_s]
      exact change_ok (h3 y hy) hk
    · have e2 : xs.filter (fun _ => true) = xs := List.filter_eq_self.mpr fun _ _ => rfl
      rw [e2, List.nil_append]
      show opt (cellL _ A.length) _
      rw [cellL_of last_app, opt_s, bis_map, opt_s]
      show (if (!(xs.map chgB).all id) = true then _ else _)
      have ea : (xs.map chgB).all id = xs.all chgB := by rw [List.all_map]; rfl
      rw [ea]
      cases hc : xs.all chgB with
      | true => exact q _ xs (hi _ hb) h1 hc (List.prefix_append _ _)
      | false => exact e _ (List.prefix_append _ _) (.inr ⟨xs, h1, hc⟩)
theorem all_good {cs : List Ch} (g : ∀ c ∈ cs, Good c) : (cs.map cD).all chgB = true := by
  rw [List.all_eq_true]
  intro d hd
  obtain ⟨c, hc, e⟩ := List.mem_map.mp hd
  subst e
  exact g c hc
end
section
variable {A A0 : AH} {i L C : Nat} {Q : DK} {E : DX}
theorem pre_gro {A A' : AH} (p : A <+: A') : Gro A A' i L := by
  obtain ⟨x, e⟩ := p
  rw [← e]; exact Gro.app x
theorem pre_dr {A A' : AH} (h : Dr A i L C) (p : A <+: A') : Dr A' i L C := by
  obtain ⟨x, e⟩ := p
  rw [← e]; exact h.app x
end
section
variable {A A0 : AH} {i L C : Nat} {Q : DK} {E : DX}
theorem sl_scr {d : D} {ns : List Int} {lo hi : Option Int} (h : d = .rol (ns.map .int) ∨ ∃ j, d = .ref j ∧ A[j]? = some (.lst (ns.map .int))) (q : Q (.ref A.length) (A ++ [.lst (cutD (ns.map .int) lo hi)])) : slP d lo hi A Q := by
  rcases h with h | ⟨j, h, hA⟩
  · subst h; exact q
  · subst h
    show opt (cellL A j) _
    rw [cellL_of hA]
    exact q
theorem sl_lst {p : Nat} {xs : List D} {lo hi : Option Int} (h : A[p]? = some (.lst xs)) : slP (.ref p) lo hi A Q = Q (.ref A.length) (A ++ [.lst (cutD xs lo hi)]) := by
  show opt (cellL A p) _ = _
  rw [cellL_of h]; rfl
theorem bi_tuple {p : Nat} {xs : List D} (h : A[p]? = some (.lst xs)) : biP .tuple [.ref p] A Q = Q (.tup xs) A := by
  show opt (cellL A p) _ = _
  rw [cellL_of h]; rfl
theorem cut_take {xs : List D} {k : Int} (h : 0 ≤ k) (hk : k ≤ xs.length) : cutD xs none (some k) = xs.take k.toNat := by
  unfold cutD
  rw [HT.sIx_none, List.drop_zero]
  obtain ⟨n, e⟩ : ∃ n : Nat, k = n := ⟨k.toNat, by omega⟩
  subst e
  rw [HT.sIx_nat]
  congr 1
  simp
  omega
theorem cut_drop {xs : List D} {k : Int} (h : 0 ≤ k) (hk : k ≤ xs.length) : cutD xs (some k) none = xs.drop k.toNat := by
  unfold cutD
  obtain ⟨n, e⟩ : ∃ n : Nat, k = n := ⟨k.toNat, by omega⟩
  subst e
  rw [HT.sIx_none, HT.sIx_nat]
  have e2 : min n xs.length = n := by omega
  rw [e2, List.take_of_length_le (by simp)]
  simp
theorem cut_map {ns : List Int} {lo hi : Option Int} : ∃ ms : List Int, cutD (ns.map D.int) lo hi = ms.map .int ∧ ms.length ≤ ns.length := by
  refine ⟨(ns.drop (HT.sIx (ns.map D.int).length 0 lo)).take (HT.sIx (ns.map D.int).length (ns.map D.int).length hi - HT.sIx (ns.map D.int).length 0 lo), ?_, ?_⟩
  · unfold cutD
    rw [List.map_take, List.map_drop]
  · simp <;> omega
/-- a comprehension whose parts draw -/
theorem comp_inv {gd : AH → Prop} {g : Nat} {δw : DSt} {c : DSt → AH → (Bool → AH → Prop) → Prop} {e : DSt → AH → DK → Prop} {Q : DK} (Inv : AH → Prop) (P : D → Prop) (hg : ∀ A, Inv A → gd A) : ∀ (xs acc : List D) (A : AH),
    (∀ x ∈ xs, ∀ A k, Inv A → (∀ b A', Inv A' → k b A') → c (δw.set g (some x)) A k) → (∀ x ∈ xs, ∀ A k, Inv A → (∀ y A', P y → Inv A' → k y A') → e (δw.set g (some x)) A k) → (∀ y ∈ acc, P y) → Inv A → acc.length + xs.length ≤ LIM →
    (∀ ys A', (∀ y ∈ ys, P y) → ys.length ≤ acc.length + xs.length → Inv A' → Q (.ref A'.length) (A' ++ [.lst ys])) → compP gd g δw c e Q xs acc A
  | [], acc, A, hc, he, ha, hi, hl, q => ⟨hg A hi, q acc A ha (by simp) hi⟩
  | x :: xs, acc, A, hc, he, ha, hi, hl, q => by
    have hl2 : acc.length < LIM := by rw [List.length_cons] at hl; omega
    refine ⟨hg A hi, hc x (by simp) A _ hi fun b A' hi' => ?_⟩
    cases b with
    | true =>
      rw [if_pos rfl]
      refine he x (by simp) A' _ hi' fun y A2 hy hi2 => ⟨hl2, comp_inv Inv P hg xs (acc ++ [y]) A2 (fun z hz => hc z (by simp [hz])) (fun z hz => he z (by simp [hz])) (fun z hz => ?_) hi2 (by rw [List.length_append]; simp at hl ⊢; omega) fun ys A3 h1 h2 h3 => ?_⟩
      · rcases List.mem_append.mp hz with hz | hz
        · exact ha z hz
        · rw [List.mem_singleton.mp hz]; exact hy
      · refine q ys A3 h1 ?_ h3
        simp at h2 ⊢; omega
    | false =>
      rw [if_neg (by decide)]
      refine comp_inv Inv P hg xs acc A' (fun z hz => hc z (by simp [hz])) (fun z hz => he z (by simp [hz])) ha hi' (by simp at hl ⊢; omega) fun ys A3 h1 h2 h3 => q ys A3 h1 (by simp at h2 ⊢; omega) h3
/-- good changes -/
def GC (y : D) : Prop := ∃ c, Good c ∧ y = cD c
theorem gc_list : ∀ ys : List D, (∀ y ∈ ys, GC y) → ∃ cs : List Ch, ys = cs.map cD ∧ ∀ c ∈ cs, Good c
  | [], _ => ⟨[], rfl, fun _ h => by simp at h⟩
  | y :: ys, h => by
    obtain ⟨c, g, e⟩ := h y (by simp)
    obtain ⟨cs, e2, g2⟩ := gc_list ys fun z hz => h z (by simp [hz])
    subst e e2
    refine ⟨c :: cs, rfl, fun d hd => ?_⟩
    rcases List.mem_cons.mp hd with hd | hd
    · rw [hd]; exact g
    · exact g2 d hd
theorem good_step (k : Int) : Good ⟨none, some (k, none, none)⟩ := rfl
theorem app_lst {p : Nat} {xs : List D} {y : D} {Q : DK} (h : A[p]? = some (.lst xs)) (hl : xs.length < LIM) (q : Q .non (A.set p (.lst (xs ++ [y])))) : methP .append (.ref p) [y] A Q := by
  show opt (cellW A p) _
  rw [cellW_of h]
  exact ⟨hl, q⟩
theorem recv_lst {p : Nat} {xs : List D} (h : A[p]? = some (.lst xs)) : recvP (.ref p) A := by
  show opt (cellW A p) _
  rw [cellW_of h]
  exact True.intro
theorem isSeq_ref {p : Nat} {xs : List D} (h : A[p]? = some (.lst xs)) : tyD A (.ref p) = some (.b "list") ∧ isSeqD A (.ref p) = true := by
  have e : tyD A (.ref p) = some (.b "list") := by rw [tyD_ref, h]; rfl
  refine ⟨e, ?_⟩
  unfold isSeqD
  rw [e]; rfl
theorem isSeq_tup {ds : List D} : tyD A (.tup ds) = some (.b "tuple") ∧ isSeqD A (.tup ds) = true := ⟨rfl, rfl⟩
end
section
variable {A A0 : AH} {i L C : Nat} {Q : DK} {E : DX}
theorem bent_len {cs : List Ch} {m : Nat} {dB : D} : ((cs.map cD).take m ++ [dB] ++ (cs.map cD).drop m).length = cs.length + 1 := by
  simp; omega
end
section
variable {A A0 : AH} {i L C : Nat} {Q : DK} {E : DX}
/-! ### == of changes -/
def vP : Option Int → PyData
  | none => .none
  | some i => .int i
def pP : Option Tr → PyData
  | none => .none
  | some (s, l, h) => .tuple [.int s, vP l, vP h]
def cP (c : Ch) : PyData := .tuple [vP c.a, pP c.p]
theorem toP_vP {v : Option Int} {n : Nat} : toP A (n + 1) (vD v) = some (vP v) := by cases v <;> rfl
theorem toP_pP {p : Option Tr} {n : Nat} : toP A (n + 2) (pD p) = some (pP p) := by
  cases p with
  | none => rfl
  | some t =>
    obtain ⟨s, l, h⟩ := t
    cases l <;> cases h <;> rfl
theorem toP_cP {c : Ch} {n : Nat} : toP A (n + 3) (cD c) = some (cP c) := by
  obtain ⟨a, p⟩ := c
  show ([vD a, pD p].mapM (toP A (n + 2))).map PyData.tuple = _
  rw [List.mapM_cons, List.mapM_cons, List.mapM_nil, toP_vP, toP_pP]
  rfl
theorem eqv_vP {a b : Option Int} : PyData.eqv (vP a) (vP b) = decide (a = b) := by
  cases a <;> cases b <;> simp only [vP, PyData.eqv] <;> rw [Bool.eq_iff_iff] <;> simp
theorem eqv_pP {a b : Option Tr} : PyData.eqv (pP a) (pP b) = decide (a = b) := by
  cases a with
  | none => cases b <;> simp [pP, PyData.eqv]
  | some x =>
    cases b with
    | none => simp [pP, PyData.eqv]
    | some y =>
      obtain ⟨s, l, h⟩ := x
      obtain ⟨m, l2, h2⟩ := y
      simp only [pP, PyData.eqv, PyData.eqvAll, eqv_vP]
      rw [Bool.eq_iff_iff]
      simp
def chEq (c d : Ch) : Bool := decide (c.a = d.a) && decide (c.p = d.p)
theorem chEq_iff {c d : Ch} : chEq c d = true ↔ c = d := by
  obtain ⟨a, p⟩ := c
  obtain ⟨b, q⟩ := d
  simp [chEq]
theorem eqv_cP {c d : Ch} : PyData.eqv (cP c) (cP d) = chEq c d := by
  unfold cP chEq
  simp only [PyData.eqv, PyData.eqvAll, eqv_vP, eqv_pP, Bool.and_true]
theorem eqP_cc {c d : Ch} {k : Bool → Prop} : eqP A (cD c) (cD d) k = k (chEq c d) := by
  unfold eqP
  rw [show lenNe A (cD c) (cD d) = false from rfl, toP_cP (n := 9), toP_cP (n := 9)]
  show k (PyData.eqv (cP c) (cP d)) = _
  rw [eqv_cP]
theorem eqP_pp {a b : Option Tr} {k : Bool → Prop} : eqP A (pD a) (pD b) k = k (decide (a = b)) := by
  unfold eqP
  have hl : lenNe A (pD a) (pD b) = false := by cases a <;> rfl
  rw [hl, toP_pP (n := 10), toP_pP (n := 10)]
  show k (PyData.eqv (pP a) (pP b)) = _
  rw [eqv_pP]
theorem eqP_bl {a b : Bool} {k : Bool → Prop} : eqP A (.bl a) (.bl b) k = k (a == b) := by
  show k (PyData.eqv (.bool a) (.bool b)) = _
  have e : PyData.eqv (.bool a) (.bool b) = (a == b) := by simp [PyData.eqv]
  rw [e]
/-- a comprehension whose parts leave the heap alone; the value is asked for where the test holds -/
theorem comp_fil {gd : AH → Prop} {g : Nat} {δw : DSt} {c : DSt → AH → (Bool → AH → Prop) → Prop} {e : DSt → AH → DK → Prop} {Q : DK} {A : AH} (f : D → Bool) (h : D → D) (hg : gd A) : ∀ (xs acc : List D),
    (∀ x ∈ xs, ∀ k : Bool → AH → Prop, k (f x) A → c (δw.set g (some x)) A k) → (∀ x ∈ xs, f x = true → ∀ k : DK, k (h x) A → e (δw.set g (some x)) A k) → acc.length + xs.length ≤ LIM →
    Q (.ref A.length) (A ++ [.lst (acc ++ (xs.filter f).map h)]) → compP gd g δw c e Q xs acc A
  | [], acc, hc, he, hl, q => by
    refine ⟨hg, ?_⟩
    simpa using q
  | x :: xs, acc, hc, he, hl, q => by
    refine ⟨hg, hc x (by simp) _ ?_⟩
    have hl2 : acc.length < LIM := by rw [List.length_cons] at hl; omega
    cases hf : f x with
    | true =>
      rw [if_pos rfl]
      refine he x (by simp) hf _ ⟨hl2, comp_fil f h hg xs (acc ++ [h x]) (fun y hy => hc y (by simp [hy])) (fun y hy => he y (by simp [hy])) ?_ ?_⟩
      · rw [List.length_append]; simp at hl ⊢; omega
      · simpa [hf] using q
    | false =>
      rw [if_neg (by decide)]
      refine comp_fil f h hg xs acc (fun y hy => hc y (by simp [hy])) (fun y hy => he y (by simp [hy])) ?_ ?_
      · simp at hl ⊢; omega
      · simpa [hf] using q
/-! ### bends -/
def bendL (c : Ch) : List Int := match c.p with
  | none => []
  | some (s, l, h) => (l.toList ++ h.toList).map (· - s)
theorem bend_len {c : Ch} : (bendL c).length ≤ 2 := by
  obtain ⟨a, p⟩ := c
  cases p with
  | none => simp [bendL]
  | some t => obtain ⟨s, l, h⟩ := t; cases l <;> cases h <;> simp [bendL]
theorem bend_mem {c : Ch} {t : Tr} {b : Int} (h : c.p = some t) (hb : bendP t b) : b ∈ bendL c := by
  obtain ⟨a, p⟩ := c
  have h : p = some t := h
  subst h
  obtain ⟨s, l, u⟩ := t
  rcases hb with hb | hb
  · have hb : l = some (b + s) := hb
    subst hb
    simp [bendL]
  · have hb : u = some (b + s) := hb
    subst hb
    cases l <;> simp [bendL] <;> omega
theorem keys_put : ∀ {kvs : List (L2.Key × D)} {ks : List Int} (k : Int) (v : D), keysI kvs = some ks → keysI (putD kvs (.inl k) v) = some (if k ∈ ks then ks else ks ++ [k]) := by
  have a1 : ∀ {kvs : List (L2.Key × D)} {ks : List Int} (k : Int), keysI kvs = some ks → (kvs.any fun kv => decide (kv.1 = .inl k)) = decide (k ∈ ks) := by
    intro kvs
    induction kvs with
    | nil => intro ks k h; cases h; simp
    | cons kv kvs ih =>
      intro ks k h
      obtain ⟨key, d⟩ := kv
      cases key with
      | inr s => cases h
      | inl j =>
        have h : (keysI kvs).map (j :: ·) = some ks := h
        cases e : keysI kvs with
        | none => rw [e] at h; cases h
        | some ls =>
          rw [e] at h; cases h
          rw [List.any_cons, ih k e]
          by_cases hj : j = k
          · simp [hj]
          · have : ¬ k = j := fun z => hj z.symm
            simp [hj, this]
  have a2 : ∀ {kvs : List (L2.Key × D)} {ks : List Int} (k : L2.Key) (v : D), keysI kvs = some ks → keysI (kvs.map fun kv => if kv.1 = k then (kv.1, v) else kv) = some ks := by
    intro kvs
    induction kvs with
    | nil => intro ks k v h; exact h
    | cons kv kvs ih =>
      intro ks k v h
      obtain ⟨key, d⟩ := kv
      cases key with
      | inr s => cases h
      | inl j =>
        have h : (keysI kvs).map (j :: ·) = some ks := h
        cases e : keysI kvs with
        | none => rw [e] at h; cases h
        | some ls =>
          rw [e] at h; cases h
          rw [List.map_cons]
          have : ∀ x : L2.Key × D, (if (Sum.inl j : L2.Key) = k then ((Sum.inl j : L2.Key), v) else x).1 = (Sum.inl j : L2.Key) ∨ True := fun _ => .inr trivial
          split
          · show (keysI (kvs.map _)).map (j :: ·) = _
            rw [ih k v e]; rfl
          · show (keysI (kvs.map _)).map (j :: ·) = _
            rw [ih k v e]; rfl
  have a3 : ∀ {kvs : List (L2.Key × D)} {ks : List Int} (k : Int) (v : D), keysI kvs = some ks → keysI (kvs ++ [(.inl k, v)]) = some (ks ++ [k]) := by
    intro kvs
    induction kvs with
    | nil => intro ks k v h; cases h; rfl
    | cons kv kvs ih =>
      intro ks k v h
      obtain ⟨key, d⟩ := kv
      cases key with
      | inr s => cases h
      | inl j =>
        have h : (keysI kvs).map (j :: ·) = some ks := h
        cases e : keysI kvs with
        | none => rw [e] at h; cases h
        | some ls =>
          rw [e] at h; cases h
          show (keysI (kvs ++ [(.inl k, v)])).map (j :: ·) = _
          rw [ih k v e]; rfl
  intro kvs ks k v h
  unfold putD
  rw [a1 k h]
  by_cases hk : k ∈ ks
  · rw [if_pos (decide_eq_true hk), if_pos hk]
    exact a2 (.inl k) v h
  · rw [if_neg (by simpa using hk), if_neg hk]
    exact a3 k v h
/-- all but one cell stays -/
def But (D : Nat) (A A' : AH) : Prop := A'.length = A.length ∧ ∀ j, j ≠ D → A'[j]? = A[j]?
theorem But.trans {D : Nat} {A A1 A2 : AH} (h : But D A A1) (g : But D A1 A2) : But D A A2 := ⟨g.1.trans h.1, fun j hj => (g.2 j hj).trans (h.2 j hj)⟩
/-- near a bend -/
def nearB (bs : List Int) (k : Int) : Prop := ∃ b ∈ bs, k = b - 1 ∨ k = b ∨ k = b + 1
/-- the number, or nothing, at which two changes part, as the package picks it -/
def isPart (c d : Ch) (v : Option Int) : Prop := (c.a ≠ d.a ∧ v = none) ∨ (c.a = d.a ∧ ∃ n, v = some n ∧ actV c (some n) ≠ actV d (some n) ∧ ((n = 0 ∨ n = 1) ∨ nearB (bendL c ++ bendL d) n) ∧
  ∀ m, ((m = 0 ∨ m = 1) ∨ nearB (bendL c ++ bendL d) m) → actV c (some m) ≠ actV d (some m) → n ≤ m)
theorem isPart.ne {c d : Ch} {v : Option Int} (h : isPart c d v) : actV c v ≠ actV d v := by
  rcases h with ⟨h, e⟩ | ⟨_, n, e, h, _⟩
  · subst e; exact h
  · subst e; exact h
theorem isPart.uniq {c d : Ch} {v w : Option Int} (h : isPart c d v) (k : isPart c d w) : v = w := by
  rcases h with ⟨h, e⟩ | ⟨h, n, e, h1, h2, h3⟩
  · rcases k with ⟨k, e'⟩ | ⟨k, _⟩
    · rw [e, e']
    · exact absurd k h
  · rcases k with ⟨k, _⟩ | ⟨k, m, e', k1, k2, k3⟩
    · exact absurd h k
    · rw [e, e']
      have := h3 m k2 k1
      have := k3 n h2 h1
      congr 1; omega
end

section
variable {A : AH} {i L C : Nat} {Q : DK} {E : DX}
end
section
variable {A A0 : AH} {i L C : Nat} {Q : DK} {E : DX}
end
section
variable {A A0 : AH} {i L C : Nat} {Q : DK} {E : DX}
end
section
variable {A A0 : AH} {i L C : Nat} {Q : DK} {E : DX}
end
inductive Wd where
  | put (n : Int) | strike | add (n : Int) | least (n : Int) | most (n : Int) | new (n : Int)
def wC : Wd → Ch
  | .put n => ⟨some n, some (0, some n, some n)⟩
  | .strike => ⟨none, none⟩
  | .add n => ⟨none, some (n, none, none)⟩
  | .least n => ⟨none, some (0, some n, none)⟩
  | .most n => ⟨none, some (0, none, some n)⟩
  | .new n => ⟨some n, some (0, none, none)⟩
theorem wC_good (w : Wd) : Good (wC w) := by
  refine good_iff.mpr fun t e => ?_
  cases w <;> cases e <;> first | exact True.intro | exact .inr ⟨rfl, rfl⟩
theorem ws_good (ws : List Wd) : ∀ c ∈ ws.map wC, Good c := fun c hc => by
  obtain ⟨w, _, e⟩ := List.mem_map.mp hc
  subst e; exact wC_good w
def changeW (ws : List Wd) : Ch := inC idC (ws.map wC)
theorem changeW_good (ws : List Wd) : Good (changeW ws) := (in_ok _ idC id_good (ws_good ws)).1
theorem changeW_act (ws : List Wd) (v : Option Int) : actV (changeW ws) v = runC (ws.map wC) v := by
  rw [changeW, (in_ok _ idC id_good (ws_good ws)).2, id_act]
def restW (t : Tr) : List Wd := (if t.1 ≠ 0 then [.add t.1] else []) ++ (t.2.1.map Wd.least).toList ++ (t.2.2.map Wd.most).toList
def fewestW (c : Ch) : Option (List Wd) := match c.p, c.a with
  | none, none => some [.strike]
  | none, some _ => none
  | some t, none => some (restW t)
  | some t, some a => if t = (0, some a, some a) then some [.put a] else some (restW t ++ [.new a])
def countW (t : Tr) : Nat := (if t.1 ≠ 0 then 1 else 0) + (if t.2.1.isSome = true then 1 else 0) + (if t.2.2.isSome = true then 1 else 0)
/-- as many as are due -/
def manyW (c : Ch) : Nat := match c.p, c.a with
  | none, _ => 1
  | some t, none => countW t
  | some t, some a => if t = (0, some a, some a) then 1 else 1 + countW t
theorem rest_len (t : Tr) : (restW t).length = countW t := by
  obtain ⟨s, l, h⟩ := t
  by_cases hs : s = 0 <;> cases l <;> cases h <;> simp [restW, countW, hs]
theorem few_len {c : Ch} {ws : List Wd} (h : fewestW c = some ws) : ws.length = manyW c := by
  obtain ⟨a, p⟩ := c
  cases p with
  | none =>
    cases a with
    | none => cases h; rfl
    | some a => cases h
  | some t =>
    cases a with
    | none => cases h; exact rest_len t
    | some a =>
      by_cases k : t = (0, some a, some a)
      · have e : fewestW ⟨some a, some t⟩ = some [.put a] := by simp [fewestW, k]
        rw [e] at h; cases h
        simp [manyW, k]
      · have e : fewestW ⟨some a, some t⟩ = some (restW t ++ [.new a]) := by simp [fewestW, k]
        rw [e] at h; cases h
        simp [manyW, k, rest_len]
        omega
theorem run_cons (c : Ch) (cs : List Ch) (v : Option Int) : runC (c :: cs) v = runC cs (actV c v) := rfl
theorem run_nil (v : Option Int) : runC [] v = v := rfl
theorem run_rest {t : Tr} (ok : okTr t) (v : Option Int) : runC ((restW t).map wC) v = v.map (actT t) := by
  obtain ⟨s, l, h⟩ := t
  cases v with
  | none =>
    by_cases hs : s = 0 <;> cases l <;> cases h <;> simp [restW, hs, wC, runC, actV]
  | some v =>
    have add : ∀ v : Int, actV (wC (.add s)) (some v) = some (v + s) := fun v => by
      show some (bnd (v + s) none none) = _
      rw [bnd_nn]
    have lst : ∀ v n : Int, actV (wC (.least n)) (some v) = some (max v n) := fun v n => by
      show some (bnd (v + 0) (some n) none) = _
      rw [bnd_sn, Int.add_zero]
    have mst : ∀ v n : Int, actV (wC (.most n)) (some v) = some (min v n) := fun v n => by
      show some (bnd (v + 0) none (some n)) = _
      rw [bnd_ns, Int.add_zero]
    cases l with
    | none =>
      cases h with
      | none =>
        by_cases hs : s = 0
        · simp [restW, hs, runC, actT, bnd_nn]
        · simp [restW, hs, run_cons, run_nil, add, actT, bnd_nn]
      | some h =>
        by_cases hs : s = 0
        · simp [restW, hs, run_cons, run_nil, mst, actT, bnd_ns]
        · simp [restW, hs, run_cons, run_nil, add, mst, actT, bnd_ns]
    | some l =>
      cases h with
      | none =>
        by_cases hs : s = 0
        · simp [restW, hs, run_cons, run_nil, lst, actT, bnd_sn]
        · simp [restW, hs, run_cons, run_nil, add, lst, actT, bnd_sn]
      | some h =>
        have ok : l < h ∨ (l = h ∧ s = 0) := ok
        have k : l ≤ h := by omega
        by_cases hs : s = 0
        · simp [restW, hs, run_cons, run_nil, lst, mst, actT, bnd_ss k]
          omega
        · simp [restW, hs, run_cons, run_nil, add, lst, mst, actT, bnd_ss k]
          omega
theorem few_ok {c : Ch} {ws : List Wd} (g : Good c) (h : fewestW c = some ws) : changeW ws = c := by
  refine ch_ext (changeW_good ws) g fun v => ?_
  rw [changeW_act]
  obtain ⟨a, p⟩ := c
  cases p with
  | none =>
    cases a with
    | none => cases h; cases v <;> rfl
    | some a => cases h
  | some t =>
    have ok := good_iff.mp g t rfl
    cases a with
    | none =>
      cases h
      rw [run_rest ok]
      cases v <;> rfl
    | some a =>
      by_cases k : t = (0, some a, some a)
      · have e : fewestW ⟨some a, some t⟩ = some [.put a] := by simp [fewestW, k]
        rw [e] at h; cases h
        subst k
        cases v <;> rfl
      · have e : fewestW ⟨some a, some t⟩ = some (restW t ++ [.new a]) := by simp [fewestW, k]
        rw [e] at h; cases h
        rw [List.map_append, run_app, run_rest ok]
        cases v with
        | none => rfl
        | some v =>
          show actV (wC (.new a)) (some (actT t v)) = some (actT t v)
          show some (bnd (actT t v + 0) none none) = _
          rw [bnd_nn, Int.add_zero]
/-! ### no shorter ones -/
theorem many_zero {c : Ch} (h : 0 < manyW c) : changeW [] ≠ c := fun e => by
  subst e
  revert h; decide
theorem many_le_count {a : Option Int} {t : Tr} : manyW ⟨a, some t⟩ ≤ (if a.isSome = true then 1 else 0) + countW t ∨ manyW ⟨a, some t⟩ = 1 := by
  cases a with
  | none => left; simp [manyW]
  | some a =>
    by_cases k : t = (0, some a, some a)
    · right; simp [manyW, k]
    · left; simp [manyW, k]
theorem id_then (c : Ch) (g : Good c) : thenC idC c = c := ch_ext (then_good id_good g) g fun v => by rw [then_act id_good g, id_act]
theorem one_eq (w : Wd) : changeW [w] = wC w := id_then _ (wC_good w)
theorem two_eq (w x : Wd) : changeW [w, x] = thenC (wC w) (wC x) := by
  show thenC (thenC idC (wC w)) (wC x) = _
  rw [id_then _ (wC_good w)]
theorem many_one (w : Wd) : manyW (wC w) ≤ 1 := by
  cases w <;> simp [wC, manyW, countW] <;> (try split) <;> simp
theorem many_two (w x : Wd) : manyW (thenC (wC w) (wC x)) ≤ 2 := by
  cases w <;> cases x <;> simp only [thenC, thenP, wC, presC, lowC, actV, bnd_nn, bnd_sn, bnd_ns, bnd_ss (Int.le_refl _), Option.isSome_none, Option.isSome_some, Bool.false_eq_true, false_and, true_and, if_false, if_true, Option.some.injEq, reduceCtorEq] <;>
    (try simp only [manyW, countW]) <;> (try simp) <;> (try split) <;> (try simp [manyW, countW]) <;> (try split) <;> (try simp) <;> (try split) <;> (try omega) <;> (try split) <;> (try omega)
/-! ### where words are tried -/
def numW : Wd → Option Int
  | .put n | .add n | .least n | .most n | .new n => some n
  | .strike => none
def stepW : Wd → Int
  | .add n => n
  | _ => 0
def ptsW : List Wd → Int → List (Option Int)
  | [], _ => []
  | w :: ws, g => trio (numW w) g ++ ptsW ws (g + stepW w)
theorem edges_sub : ∀ (ws : List Wd) (g : Int), ∀ v ∈ edgesC (ws.map wC) g, v ∈ ptsW ws g
  | [], g, v, h => by simp [edgesC] at h
  | w :: ws, g, v, h => by
    have ih := edges_sub ws
    have go : ∀ {x y z : List (Option Int)} (k : Int), v ∈ x ++ y ++ edgesC (ws.map wC) k → (∀ u ∈ x ++ y, u ∈ z) → v ∈ z ++ ptsW ws k := fun {x y z} k h hz => by
      rcases List.mem_append.mp h with h | h
      · exact List.mem_append_left _ (hz v h)
      · exact List.mem_append_right _ (ih k v h)
    cases w with
    | put n =>
      refine go (x := trio (some n) (g + 0)) (y := trio (some n) (g + 0)) (g + 0) h fun u hu => ?_
      rw [Int.add_zero] at hu
      exact (List.mem_append.mp hu).elim id id
    | strike =>
      have h : v ∈ edgesC (ws.map wC) g := h
      show v ∈ [] ++ ptsW ws (g + 0)
      rw [Int.add_zero]
      exact ih g v h
    | add n => exact go (x := trio none (g + n)) (y := trio none (g + n)) (g + n) h fun u hu => by simp [trio] at hu
    | least n =>
      refine go (x := trio (some n) (g + 0)) (y := trio none (g + 0)) (g + 0) h fun u hu => ?_
      rw [Int.add_zero] at hu
      exact (List.mem_append.mp hu).elim id fun z => by simp [trio] at z
    | most n =>
      refine go (x := trio none (g + 0)) (y := trio (some n) (g + 0)) (g + 0) h fun u hu => ?_
      rw [Int.add_zero] at hu
      exact (List.mem_append.mp hu).elim (fun z => by simp [trio] at z) id
    | new n =>
      refine go (x := trio none (g + 0)) (y := trio none (g + 0)) (g + 0) h fun u hu => ?_
      simp [trio] at hu
/-- where the law tries words against a change -/
def pointsW (ws : List Wd) (c : Ch) : List (Option Int) := edges0 [c] ++ ptsW ws 0
theorem do_iff {ws : List Wd} {c : Ch} (g : Good c) : (∀ v ∈ pointsW ws c, runC (ws.map wC) v = actV c v) ↔ changeW ws = c := by
  constructor
  · intro h
    have i0 : Ed [] idC 0 := fun t et nt => by
      cases et
      refine ⟨rfl, fun b hb => ?_⟩
      rcases hb with hb | hb <;> cases hb
    obtain ⟨k, e⟩ := ed_row (ws.map wC) idC 0 [] id_good (ws_good ws) i0
    have base : ∀ v : Option Int, v ∈ [none, some 0, some 1, some (-(10 ^ 13)), some (10 ^ 13)] → v ∈ pointsW ws c := fun v hv => List.mem_append_left _ (List.mem_append_left _ hv)
    refine ch_tell (fun v => some v ∈ pointsW ws c) (changeW_good ws) g ?_ (base _ (by simp)) (base _ (by simp)) (fun t et nt b hb => ?_) (fun t et nt b hb => ?_) fun v hv => by rw [changeW_act]; exact h _ hv
    · have := h none (base _ (by simp))
      rw [← changeW_act] at this
      exact this
    · obtain ⟨z1, z2, z3⟩ := (e t et nt).2 b hb
      rw [List.nil_append] at z1 z2 z3
      exact ⟨List.mem_append_right _ (edges_sub ws 0 _ z1), List.mem_append_right _ (edges_sub ws 0 _ z2), List.mem_append_right _ (edges_sub ws 0 _ z3)⟩
    · obtain ⟨a, p⟩ := c
      have et : p = some t := et
      subst et
      obtain ⟨s, l, u⟩ := t
      have hE : ∀ v, v ∈ trio l (0 + s) ∨ v ∈ trio u (0 + s) → v ∈ pointsW ws ⟨a, some (s, l, u)⟩ := fun v hv => by
        refine List.mem_append_left _ (List.mem_append_right _ ?_)
        show v ∈ trio l (0 + s) ++ trio u (0 + s) ++ []
        rw [List.append_nil]
        exact List.mem_append.mpr hv
      have tr : ∀ {o : Option Int}, o = some (b + s) → some (b - 1) ∈ trio o (0 + s) ∧ some b ∈ trio o (0 + s) ∧ some (b + 1) ∈ trio o (0 + s) := fun {o} e => by
        subst e
        simp only [trio, List.mem_cons, Option.some.injEq, List.not_mem_nil, or_false]
        omega
      rcases hb with hb | hb
      · obtain ⟨z1, z2, z3⟩ := tr hb
        exact ⟨hE _ (.inl z1), hE _ (.inl z2), hE _ (.inl z3)⟩
      · obtain ⟨z1, z2, z3⟩ := tr hb
        exact ⟨hE _ (.inr z1), hE _ (.inr z2), hE _ (.inr z3)⟩
  · intro h v _
    rw [← changeW_act, h]
theorem no_one {c : Ch} (h : 1 < manyW c) (w : Wd) : changeW [w] ≠ c := fun e => by
  rw [one_eq] at e
  subst e
  have := many_one w
  omega
theorem no_two {c : Ch} (h : 2 < manyW c) (w x : Wd) : changeW [w, x] ≠ c := fun e => by
  rw [two_eq] at e
  subst e
  have := many_two w x
  omega
section
variable {A A0 : AH} {i L C : Nat} {Q : DK} {E : DX}
end
section
variable {A A0 : AH} {i L C : Nat} {Q : DK} {E : DX}
end
section
variable {A A0 : AH} {i L C : Nat} {Q : DK} {E : DX}
end
section
variable {A A0 : AH} {i L C : Nat} {Q : DK} {E : DX}
end
section
variable {A A0 : AH} {i L C : Nat} {Q : DK} {E : DX}
/-! ### edges, exactly -/
theorem trio_len {o : Option Int} {g : Int} : (trio o g).length ≤ 3 := by cases o <;> simp [trio]
theorem edgesC_len : ∀ (cs : List Ch) (g : Int), (edgesC cs g).length ≤ 6 * cs.length
  | [], g => by simp [edgesC]
  | ⟨_, none⟩ :: cs, g => by
    have := edgesC_len cs g
    simp [edgesC]; omega
  | ⟨_, some (s, l, h)⟩ :: cs, g => by
    have := edgesC_len cs (g + s)
    have := trio_len (o := l) (g := g + s)
    have := trio_len (o := h) (g := g + s)
    simp [edgesC]; omega
theorem edges0_len (cs : List Ch) : (edges0 cs).length ≤ 5 + 6 * cs.length := by
  have := edgesC_len cs 0
  simp [edges0]; omega
end
section
variable {A A0 : AH} {i L C : Nat} {Q : DK} {E : DX}
/-! ### == of changes -/
end
section
variable {A A0 : AH} {i L C : Nat} {Q : DK} {E : DX}
theorem isN_vD {a : Option Int} : isNon (vD a) = decide (a = none) := by cases a <;> rfl
theorem isN_pD {a : Option Tr} : isNon (pD a) = decide (a = none) := by cases a <;> rfl
end
section
variable {A A0 : AH} {i L C : Nat} {Q : DK} {E : DX}
theorem cut_sub {cs : List Ch} {lo hi : Option Int} : ∃ ds : List Ch, cutD (cs.map cD) lo hi = ds.map cD ∧ (∀ d ∈ ds, d ∈ cs) ∧ ds.length ≤ cs.length := by
  refine ⟨(cs.drop (HT.sIx (cs.map cD).length 0 lo)).take (HT.sIx (cs.map cD).length (cs.map cD).length hi - HT.sIx (cs.map cD).length 0 lo), ?_, fun d hd => List.mem_of_mem_drop (List.mem_of_mem_take hd), ?_⟩
  · unfold cutD
    rw [List.map_take, List.map_drop]
  · simp <;> omega
theorem sl_good {p n : Nat} {cs : List Ch} {lo hi : Option Int} (h : A[p]? = some (.lst (cs.map cD))) (g : ∀ c ∈ cs, Good c) (hl : cs.length ≤ n)
    (q : ∀ ds : List Ch, (∀ c ∈ ds, Good c) → ds.length ≤ n → Q (.ref A.length) (A ++ [.lst (ds.map cD)])) : slP (.ref p) lo hi A Q := by
  obtain ⟨ds, e, h1, h2⟩ := cut_sub (cs := cs) (lo := lo) (hi := hi)
  rw [sl_lst h, e]
  exact q ds (fun c hc => g c (h1 c hc)) (by omega)
theorem add_good {p r n m : Nat} {cs ds : List Ch} (h : A[p]? = some (.lst (cs.map cD))) (h2 : A[r]? = some (.lst (ds.map cD))) (g : ∀ c ∈ cs, Good c) (g2 : ∀ c ∈ ds, Good c) (hl : cs.length ≤ n) (hl2 : ds.length ≤ m) (hn : n + m ≤ LIM)
    (q : ∀ es : List Ch, (∀ c ∈ es, Good c) → es.length ≤ n + m → Q (.ref A.length) (A ++ [.lst (es.map cD)])) : binP .add (.ref p) (.ref r) A Q := by
  refine bin_addL h h2 (by simp; omega) ?_
  rw [← List.map_append]
  refine q (cs ++ ds) (fun c hc => ?_) (by simp; omega)
  rcases List.mem_append.mp hc with hc | hc
  · exact g c hc
  · exact g2 c hc
theorem one_good {c : Ch} (g : Good c) : ∀ d ∈ [c], Good d := by simpa using g
end
section
variable {A A0 : AH} {i L C : Nat} {Q : DK} {E : DX}
/-- what parting_value tells -/
def partD (c d : Ch) (x : D) : Prop := (c = d ∧ x = .non) ∨ (c ≠ d ∧ ∃ v, x = .tup [vD v] ∧ isPart c d v)
theorem partD.uniq {c d : Ch} {x y : D} (h : partD c d x) (k : partD c d y) : x = y := by
  rcases h with ⟨e, h⟩ | ⟨e, v, h, hv⟩ <;> rcases k with ⟨e', k⟩ | ⟨e', w, k, hw⟩
  · rw [h, k]
  · exact absurd e e'
  · exact absurd e' e
  · rw [h, k, hv.uniq hw]
theorem partD.isn {c d : Ch} {x : D} (h : partD c d x) : isNon x = chEq c d := by
  rcases h with ⟨e, h⟩ | ⟨e, v, h, hv⟩
  · rw [h, chEq_iff.mpr e]; rfl
  · rw [h]
    cases k : chEq c d with
    | true => exact absurd (chEq_iff.mp k) e
    | false => rfl
theorem partD.eqs {c d : Ch} {x : D} (h : partD c d x) {k : Bool → Prop} : eqP A x x k = k true := by
  rcases h with ⟨e, h⟩ | ⟨e, v, h, hv⟩
  · subst h; rfl
  · subst h
    have e : toP A 12 (.tup [vD v]) = some (.tuple [vP v]) := by
      show ([vD v].mapM (toP A 11)).map PyData.tuple = _
      rw [List.mapM_cons, List.mapM_nil, toP_vP]; rfl
    exact eqP_same e e rfl
theorem ite_both {c : Bool} {P R : Prop} (h : R) (k : R → c = true → P) : (if c = true then P else R) := by
  cases c with
  | true => exact k h rfl
  | false => exact h
theorem partD.tup {c d : Ch} {x : D} (h : partD c d x) (k : (!(chEq c d)) = true) : ∃ v, x = .tup [vD v] ∧ actV c v ≠ actV d v := by
  rcases h with ⟨e, h⟩ | ⟨e, v, h, hv⟩
  · rw [chEq_iff.mpr e] at k; cases k
  · exact ⟨v, h, hv.ne⟩
end
section
variable {A A0 : AH} {i L C : Nat} {Q : DK} {E : DX}
/-- a comprehension whose parts may change the heap, as long as Inv stands -/
theorem comp_any {gd : AH → Prop} {g : Nat} {δw : DSt} {c : DSt → AH → (Bool → AH → Prop) → Prop} {e : DSt → AH → DK → Prop} {Q : DK} (Inv : AH → Prop) (f : D → Bool) (h : D → D) (hg : ∀ A, Inv A → gd A) : ∀ (xs acc : List D) (A : AH),
    (∀ x ∈ xs, ∀ A k, Inv A → (∀ A', Inv A' → k (f x) A') → c (δw.set g (some x)) A k) → (∀ x ∈ xs, f x = true → ∀ A k, Inv A → (∀ A', Inv A' → k (h x) A') → e (δw.set g (some x)) A k) → Inv A → acc.length + xs.length ≤ LIM →
    (∀ A', Inv A' → Q (.ref A'.length) (A' ++ [.lst (acc ++ (xs.filter f).map h)])) → compP gd g δw c e Q xs acc A
  | [], acc, A, hc, he, hi, hl, q => ⟨hg A hi, by simpa using q A hi⟩
  | x :: xs, acc, A, hc, he, hi, hl, q => by
    have hl2 : acc.length < LIM := by rw [List.length_cons] at hl; omega
    refine ⟨hg A hi, hc x (by simp) A _ hi fun A' hi' => ?_⟩
    cases hf : f x with
    | true =>
      rw [if_pos rfl]
      refine he x (by simp) hf A' _ hi' fun A2 hi2 => ⟨hl2, comp_any Inv f h hg xs (acc ++ [h x]) A2 (fun z hz => hc z (by simp [hz])) (fun z hz => he z (by simp [hz])) hi2 (by rw [List.length_append]; simp at hl ⊢; omega) fun A3 h3 => ?_⟩
      have := q A3 h3
      simpa [hf] using this
    | false =>
      rw [if_neg (by decide)]
      refine comp_any Inv f h hg xs acc A' (fun z hz => hc z (by simp [hz])) (fun z hz => he z (by simp [hz])) hi' (by simp at hl ⊢; omega) fun A3 h3 => ?_
      have := q A3 h3
      simpa [hf] using this
/-! ### names -/
theorem eqP_s {a b : Str} {k : Bool → Prop} : eqP A (.str a) (.str b) k = k (a == b) := by
  show k (PyData.eqv (.str a) (.str b)) = _
  have e : PyData.eqv (.str a) (.str b) = (a == b) := by simp [PyData.eqv]
  rw [e]
theorem mem_go : ∀ (ss : List Str), (ss.map D.str).mapM (toP A 12) = some (ss.map PyData.str)
  | [] => rfl
  | s :: ss => by
    rw [List.map_cons, List.mapM_cons, mem_go ss]
    rfl
theorem in_strs {j : Nat} {ss : List Str} {s : Str} {k : Bool → Prop} (h : A[j]? = some (.lst (ss.map .str))) : cmpP .inn (.str s) (.ref j) A k = k (ss.any fun q => q == s) := by
  unfold cmpP
  simp only [h]
  show opt (cellL A j) _ = _
  rw [cellL_of h, opt_s]
  have e : toP A 12 (.str s) = some (.str s) := rfl
  rw [e, opt_s, mem_go, opt_s]
  congr 1
  rw [List.any_map]
  congr 1
theorem memi_go : ∀ (ss : List Int), (ss.map D.int).mapM (toP A 12) = some (ss.map PyData.int)
  | [] => rfl
  | s :: ss => by
    rw [List.map_cons, List.mapM_cons, memi_go ss]
    rfl
theorem notin_ints {j : Nat} {ss : List Int} {s : Int} {k : Bool → Prop} (h : A[j]? = some (.lst (ss.map .int))) : cmpP .notin (.int s) (.ref j) A k = k (!(ss.any fun q => q == s)) := by
  unfold cmpP
  simp only [h]
  show opt (cellL A j) _ = _
  rw [cellL_of h, opt_s]
  have e : toP A 12 (.int s) = some (.int s) := rfl
  rw [e, opt_s, memi_go, opt_s]
  congr 2
  rw [List.any_map]
  congr 1
def sPut : Str := "put"
def sAdd : Str := "add"
def sLeast : Str := "least"
def sMost : Str := "most"
def sNew : Str := "new"
def sStrike : Str := "strike"
def nmW : Wd → Str
  | .put _ => sPut
  | .strike => sStrike
  | .add _ => sAdd
  | .least _ => sLeast
  | .most _ => sMost
  | .new _ => sNew
def wD : Wd → D
  | .put n => .tup [.str sPut, .int n]
  | .strike => .tup [.str sStrike]
  | .add n => .tup [.str sAdd, .int n]
  | .least n => .tup [.str sLeast, .int n]
  | .most n => .tup [.str sMost, .int n]
  | .new n => .tup [.str sNew, .int n]
theorem se_Put_Put : (sPut == sPut) = true := by decide
theorem se_Put_Add : (sPut == sAdd) = false := by decide
theorem se_Put_Least : (sPut == sLeast) = false := by decide
theorem se_Put_Most : (sPut == sMost) = false := by decide
theorem se_Put_New : (sPut == sNew) = false := by decide
theorem se_Put_Strike : (sPut == sStrike) = false := by decide
theorem se_Add_Put : (sAdd == sPut) = false := by decide
theorem se_Add_Add : (sAdd == sAdd) = true := by decide
theorem se_Add_Least : (sAdd == sLeast) = false := by decide
theorem se_Add_Most : (sAdd == sMost) = false := by decide
theorem se_Add_New : (sAdd == sNew) = false := by decide
theorem se_Add_Strike : (sAdd == sStrike) = false := by decide
theorem se_Least_Put : (sLeast == sPut) = false := by decide
theorem se_Least_Add : (sLeast == sAdd) = false := by decide
theorem se_Least_Least : (sLeast == sLeast) = true := by decide
theorem se_Least_Most : (sLeast == sMost) = false := by decide
theorem se_Least_New : (sLeast == sNew) = false := by decide
theorem se_Least_Strike : (sLeast == sStrike) = false := by decide
theorem se_Most_Put : (sMost == sPut) = false := by decide
theorem se_Most_Add : (sMost == sAdd) = false := by decide
theorem se_Most_Least : (sMost == sLeast) = false := by decide
theorem se_Most_Most : (sMost == sMost) = true := by decide
theorem se_Most_New : (sMost == sNew) = false := by decide
theorem se_Most_Strike : (sMost == sStrike) = false := by decide
theorem se_New_Put : (sNew == sPut) = false := by decide
theorem se_New_Add : (sNew == sAdd) = false := by decide
theorem se_New_Least : (sNew == sLeast) = false := by decide
theorem se_New_Most : (sNew == sMost) = false := by decide
theorem se_New_New : (sNew == sNew) = true := by decide
theorem se_New_Strike : (sNew == sStrike) = false := by decide
theorem se_Strike_Put : (sStrike == sPut) = false := by decide
theorem se_Strike_Add : (sStrike == sAdd) = false := by decide
theorem se_Strike_Least : (sStrike == sLeast) = false := by decide
theorem se_Strike_Most : (sStrike == sMost) = false := by decide
theorem se_Strike_New : (sStrike == sNew) = false := by decide
theorem se_Strike_Strike : (sStrike == sStrike) = true := by decide
/-- is it a word -/
def wordB : D → Bool
  | .tup [.str s] => s == sStrike
  | .tup [.str s, d] => [sPut, sAdd, sLeast, sMost, sNew].any (fun q => q == s) && isIntD d
  | _ => false
theorem word_wD (w : Wd) : wordB (wD w) = true := by cases w <;> rfl
def isStrD : D → Bool
  | .str _ => true
  | _ => false
theorem st_str {d : D} {n : String} (h : tyD A d = some (.b n)) : subT S (.b n) (.b "str") = isStrD d := by
  show (n == "str" || (n == "bool" && "str" == "int")) = _
  have e2 : ("str" == "int") = false := by decide
  rw [e2, Bool.and_false, Bool.or_false]
  cases d with
  | ref i =>
    rw [tyD_ref] at h
    cases e : A[i]? with
    | none => rw [e] at h; cases h
    | some c => rw [e] at h; cases c <;> simp [kindC] at h <;> subst h <;> rfl
  | exc c p => cases p <;> cases h
  | _ => first | (cases h; done) | (cases h; rfl)
theorem tyD_up {A A' : AH} (p : A <+: A') {d : D} {m : String} (hd : tyD A d = some (.b m)) : tyD A' d = some (.b m) := by
  cases d with
  | ref j =>
    rw [tyD_ref] at hd ⊢
    cases e : A[j]? with
    | none => rw [e] at hd; cases hd
    | some c => rw [pre_at p e]; rw [e] at hd; exact hd
  | exc c q => cases q <;> exact hd
  | _ => exact hd
theorem ok2_wD (w : Wd) : ok2 A (wD w) := by
  refine ⟨by cases w <;> exact ⟨_, rfl⟩, fun ds e x hx => ?_⟩
  cases w <;> cases e <;> simp only [List.mem_cons, List.not_mem_nil, or_false] at hx <;> first | (subst hx; exact okS) | (rcases hx with hx | hx <;> subst hx <;> first | exact okS | exact okD_i)
theorem idx_dct {p : Nat} {kvs : List (L2.Key × D)} {y : D} {key : L2.Key} {Q : DK} (h : A[p]? = some (.dct kvs)) (hk : keyD y = some key) : idxP (.ref p) y A Q = opt (valD kvs key) fun d => Q d A := by
  unfold idxP
  simp only [h, hk, opt_s]
end
section
variable {A A0 : AH} {i L C : Nat} {Q : DK} {E : DX}
theorem isis_seq {x : D} {n : String} (hn : tyD A x = some (.b n)) {b : Bool} (hb : ((["list", "tuple"] : List String).any fun t => subT S (.b n) (.b t)) = b) : isSeqD A x = b := by
  unfold isSeqD
  rw [hn]
  have e1 : subT S (.b n) (.b "list") = (n == "list") := by
    show (n == "list" || (n == "bool" && "list" == "int")) = _
    simp
  have e2 : subT S (.b n) (.b "tuple") = (n == "tuple") := by
    show (n == "tuple" || (n == "bool" && "tuple" == "int")) = _
    simp
  rw [← hb]
  simp [e1, e2]
theorem all_words (ws : List Wd) : (ws.map wD).all wordB = true := by
  rw [List.all_eq_true]
  intro d hd
  obtain ⟨w, _, e⟩ := List.mem_map.mp hd
  subst e
  exact word_wD w
end
section
variable {A A0 : AH} {i L C : Nat} {Q : DK} {E : DX}
theorem pre_set {A0 A : AH} {p : Nat} {c : Cell} (h : A0 <+: A) (hp : A0.length ≤ p) : A0 <+: A.set p c := by
  rw [List.prefix_iff_getElem?]
  intro j hj
  rw [List.getElem?_set_ne (by omega)]
  exact (List.prefix_iff_getElem?.mp h) j hj
/-- one more word at the end of the list at p -/
theorem app_word {p : Nat} {ws : List Wd} {w : Wd} {Q : DK} (h : A[p]? = some (.lst (ws.map wD))) (hl : ws.length < 1000) (q : (A.set p (.lst ((ws ++ [w]).map wD)))[p]? = some (.lst ((ws ++ [w]).map wD)) → Q .non (A.set p (.lst ((ws ++ [w]).map wD)))) : methP .append (.ref p) [wD w] A Q := by
  refine app_lst h (by simp [LIM]; omega) ?_
  have e : ws.map wD ++ [wD w] = (ws ++ [w]).map wD := by rw [List.map_append]; rfl
  rw [e]
  exact q (List.getElem?_set_self (lt_of_at h))
theorem isN_v {a : Option Int} : isNon (vD a) = decide (a = none) := by cases a <;> rfl
end
section
variable {A A0 : AH} {i L C : Nat} {Q : DK} {E : DX}
theorem ptsW_len : ∀ (ws : List Wd) (g : Int), (ptsW ws g).length ≤ 3 * ws.length
  | [], g => by simp [ptsW]
  | w :: ws, g => by
    have := ptsW_len ws (g + stepW w)
    have := trio_len (o := numW w) (g := g)
    simp [ptsW]; omega
end
section
variable {A A0 : AH} {i L C : Nat} {Q : DK} {E : DX}
theorem pairs_go (v : D) : ∀ ns : List Int, pairsD (ns.map fun k => D.tup [.int k, v]) = some (ns.map fun k => ((Sum.inl k : L2.Key), v))
  | [] => rfl
  | n :: ns => by
    show (match keyD (.int n) with | some key => (pairsD (ns.map fun k => D.tup [.int k, v])).map ((key, v) :: ·) | none => none) = _
    rw [pairs_go v ns]; rfl
theorem keys_fold (v : D) : ∀ (ns : List Int) (kvs : List (L2.Key × D)) (ks : List Int), keysI kvs = some ks → ∃ ks', keysI ((ns.map fun k => ((Sum.inl k : L2.Key), v)).foldl (fun acc kv => putD acc kv.1 kv.2) kvs) = some ks' ∧ ks'.length ≤ ks.length + ns.length
  | [], kvs, ks, h => ⟨ks, h, by simp⟩
  | n :: ns, kvs, ks, h => by
    obtain ⟨ks', h1, h2⟩ := keys_fold v ns (putD kvs (.inl n) v) _ (keys_put n v h)
    refine ⟨ks', h1, ?_⟩
    have : (if n ∈ ks then ks else ks ++ [n]).length ≤ ks.length + 1 := by split <;> simp
    rw [List.length_cons]; omega
/-- words of one name -/
def named (m : Int → Wd) : Prop := ∀ k, wD (m k) = .tup [.str (nmW (m 0)), .int k]
end
section
variable {A A0 : AH} {i L C : Nat} {Q : DK} {E : DX}
theorem fil_false (xs : List D) (h : D → D) : (xs.filter fun _ => false).map h = [] := by
  rw [List.filter_eq_nil_iff.mpr fun _ _ => by decide, List.map_nil]
end
section
variable {A A0 : AH} {i L C : Nat} {Q : DK} {E : DX}
theorem ok2_up {A A' : AH} (p : A <+: A') {d : D} (h : ok2 A d) : ok2 A' d := h.mono fun d hd => by
  obtain ⟨m, hd⟩ := hd
  exact ⟨m, tyD_up p hd⟩
end
section
variable {A A0 : AH} {i L C : Nat} {Q : DK} {E : DX}
/-- a comprehension without a test whose parts draw -/
theorem comp_len {gd : AH → Prop} {g : Nat} {δw : DSt} {c : DSt → AH → (Bool → AH → Prop) → Prop} {e : DSt → AH → DK → Prop} {Q : DK} (Inv : AH → Prop) (P : D → Prop) (hg : ∀ A, Inv A → gd A) : ∀ (xs acc : List D) (A : AH),
    (∀ x ∈ xs, ∀ A k, k true A → c (δw.set g (some x)) A k) → (∀ x ∈ xs, ∀ A k, Inv A → (∀ y A', P y → Inv A' → k y A') → e (δw.set g (some x)) A k) → (∀ y ∈ acc, P y) → Inv A → acc.length + xs.length ≤ LIM →
    (∀ ys A', (∀ y ∈ ys, P y) → ys.length = acc.length + xs.length → Inv A' → Q (.ref A'.length) (A' ++ [.lst ys])) → compP gd g δw c e Q xs acc A
  | [], acc, A, hc, he, ha, hi, hl, q => ⟨hg A hi, q acc A ha (by simp) hi⟩
  | x :: xs, acc, A, hc, he, ha, hi, hl, q => by
    have hl2 : acc.length < LIM := by rw [List.length_cons] at hl; omega
    refine ⟨hg A hi, hc x (by simp) A _ ?_⟩
    rw [if_pos rfl]
    refine he x (by simp) A _ hi fun y A2 hy hi2 => ⟨hl2, comp_len Inv P hg xs (acc ++ [y]) A2 (fun z hz => hc z (by simp [hz])) (fun z hz => he z (by simp [hz])) (fun z hz => ?_) hi2 (by rw [List.length_append]; simp at hl ⊢; omega) fun ys A3 h1 h2 h3 => ?_⟩
    · rcases List.mem_append.mp hz with hz | hz
      · exact ha z hz
      · rw [List.mem_singleton.mp hz]; exact hy
    · refine q ys A3 h1 ?_ h3
      simp at h2 ⊢; omega
def IC (y : D) : Prop := ∃ k : Int, y = .int k
def WC (y : D) : Prop := ∃ w, y = wD w
theorem ic_list : ∀ ys : List D, (∀ y ∈ ys, IC y) → ∃ ns : List Int, ys = ns.map .int
  | [], _ => ⟨[], rfl⟩
  | y :: ys, h => by
    obtain ⟨k, e⟩ := h y (by simp)
    obtain ⟨ns, e2⟩ := ic_list ys fun z hz => h z (by simp [hz])
    subst e e2
    exact ⟨k :: ns, rfl⟩
theorem wc_list : ∀ ys : List D, (∀ y ∈ ys, WC y) → ∃ ws : List Wd, ys = ws.map wD
  | [], _ => ⟨[], rfl⟩
  | y :: ys, h => by
    obtain ⟨k, e⟩ := h y (by simp)
    obtain ⟨ns, e2⟩ := wc_list ys fun z hz => h z (by simp [hz])
    subst e e2
    exact ⟨k :: ns, rfl⟩
theorem toP_w {w : Wd} {n : Nat} : ∃ p, toP A (n + 2) (wD w) = some p := by cases w <;> exact ⟨_, rfl⟩
theorem toP_ws {n : Nat} : ∀ ws : List Wd, ∃ ps, (ws.map wD).mapM (toP A (n + 2)) = some ps
  | [] => ⟨[], rfl⟩
  | w :: ws => by
    obtain ⟨p, e⟩ := toP_w (A := A) (w := w) (n := n)
    obtain ⟨ps, e2⟩ := toP_ws (n := n) ws
    refine ⟨p :: ps, ?_⟩
    rw [List.map_cons, List.mapM_cons, e, e2]
    rfl
theorem ne_ws {p q : Nat} {ws : List Wd} {k : Bool → Prop} (h1 : A[p]? = some (.lst (ws.map wD))) (h2 : A[q]? = some (.lst (ws.map wD))) : cmpP .ne (.ref p) (.ref q) A k = k false := by
  show eqP A (.ref p) (.ref q) (fun b => k (!b)) = _
  obtain ⟨ps, e⟩ := toP_ws (A := A) (n := 9) ws
  have a1 : ∀ {p : Nat}, A[p]? = some (.lst (ws.map wD)) → toP A 12 (.ref p) = some (.list ps) := fun {p} h => by
    show ((cellL A p).bind fun xs => (xs.mapM (toP A 11)).map PyData.list) = _
    rw [cellL_of h]
    show ((ws.map wD).mapM (toP A 11)).map PyData.list = _
    rw [e]; rfl
  have a3 : lenNe A (.ref p) (.ref q) = false := by unfold lenNe; simp only [cellL_of h1, cellL_of h2]; simp
  rw [eqP_same (a1 h1) (a1 h2) a3]; rfl
theorem wpB_c {F : Nat → DSp} {S : Nat → Nat → Bool} {s : Ms} {t : Mb} {f : DSt → AH → Prop} {r : DK} {b c : DSt → AH → Prop} {x : Nat → List D → DSt → AH → Prop} {δ : DSt} {A : AH}
    (h : wpS F S s ⟨fun δ1 A1 => wpB F S t ⟨f, r, b, c, x⟩ δ1 A1, r, b, c, x⟩ δ A) : wpB F S (.cons s t) ⟨f, r, b, c, x⟩ δ A := h
theorem wpB_n {F : Nat → DSp} {S : Nat → Nat → Bool} {f : DSt → AH → Prop} {r : DK} {b c : DSt → AH → Prop} {x : Nat → List D → DSt → AH → Prop} {δ : DSt} {A : AH} (h : f δ A) : wpB F S .nil ⟨f, r, b, c, x⟩ δ A := h
theorem ite_t {b : Bool} {P R : Prop} (h : b = true) (q : P) : (if b = true then P else R) := by rw [h, if_pos rfl]; exact q
theorem ite_f {b : Bool} {P R : Prop} (h : b = false) (q : R) : (if b = true then P else R) := by rw [h, if_neg (by decide)]; exact q
theorem opt_get {α : Type} {o : Option α} {a : α} {k : α → Prop} (h : o = some a) (q : k a) : opt o k := by rw [h]; exact q
end
section
variable {A A0 : AH} {i L C : Nat} {Q : DK} {E : DX}
def cyB (c : Ch) : Bool := match c.p with
  | none => true
  | some (_, l, h) => decide (l = h)
def carC (c : Ch) (m t : Int) : Int × Int := match c.p with
  | none => (0, 0)
  | some (s, none, _) => (m, t + m * s)
  | some (_, some l, _) => (m, m * l)
/-- no number of numbers -/
def badM : D → Bool
  | .int k => decide (k < 0)
  | _ => true
/-- no sum of that many numbers -/
def badT (m : Int) : D → Bool
  | .int k => decide (m = 0) && decide (k ≠ 0)
  | _ => true
theorem ite_skip {b c : Bool} {X Y : Prop} (h : b = true → c = false) (y : Y) : if b = true then (if c = true then X else Y) else Y := by
  split
  · rename_i z
    rw [h z, if_neg (by decide)]; exact y
  · exact y
end
section
variable {A A0 : AH} {i L C : Nat} {Q : DK} {E : DX}
def bendC (c : Ch) : Int := match c.p with
  | some (s, none, some h) => h - s
  | some (s, some l, _) => l - s
  | _ => 0
def rowsD (b : Int) : D := .tup [.tup [.int b, .int b], .tup [.int (b - 1), .int (b + 1)]]
theorem intsD_map : ∀ ns : List Int, intsD (ns.map .int) = some ns
  | [] => rfl
  | n :: ns => by rw [List.map_cons, intsD, intsD_map ns]; rfl
theorem bi_sumL {p : Nat} {ns : List Int} (h : A[p]? = some (.lst (ns.map .int))) : biP .sum [.ref p] A Q = Q (.int ns.sum) A := by
  show opt (cellL A p) _ = _
  rw [cellL_of h, opt_s, intsD_map, opt_s]
theorem bi_sumT {ns : List Int} : biP .sum [.tup (ns.map .int)] A Q = Q (.int ns.sum) A := by
  show opt (intsD (ns.map .int)) _ = _
  rw [intsD_map, opt_s]
def leftC (cs : List Ch) (ns : List Int) : List Int := ns.filterMap fun n => runC cs (some n)
def tellD (cs : List Ch) (ns : List Int) : D := .tup [.int (leftC cs ns).length, .int (leftC cs ns).sum]
def runD (cs : List Ch) : D → D
  | .int n => vD (runC cs (some n))
  | _ => .non
theorem left_fil {cs : List Ch} : ∀ ns : List Int, (((ns.map D.int).map (runD cs)).filter fun d => !isNon d) = (leftC cs ns).map .int
  | [] => rfl
  | n :: ns => by
    rw [List.map_cons, List.map_cons, List.filter_cons, left_fil ns]
    unfold leftC
    rw [List.filterMap_cons]
    rw [show runD cs (.int n) = vD (runC cs (some n)) from rfl]
    cases runC cs (some n) with
    | none => rfl
    | some k => rfl
end
section
variable {A A0 : AH} {i L C : Nat} {Q : DK} {E : DX}
theorem part_ne {c : Ch} (g : Good c) (hc : cyB c = false) : (leftC [c] [bendC c, bendC c]).sum ≠ (leftC [c] [bendC c - 1, bendC c + 1]).sum := by
  obtain ⟨a, p⟩ := c
  cases p with
  | none => cases hc
  | some t =>
    obtain ⟨s, l, h⟩ := t
    cases l with
    | none =>
      cases h with
      | none => cases hc
      | some h =>
        simp only [leftC, runC, actV, List.filterMap_cons, List.filterMap_nil, List.foldl_cons, List.foldl_nil, bendC, bnd_ns, List.sum_cons, List.sum_nil]
        omega
    | some l =>
      cases h with
      | none =>
        simp only [leftC, runC, actV, List.filterMap_cons, List.filterMap_nil, List.foldl_cons, List.foldl_nil, bendC, bnd_sn, List.sum_cons, List.sum_nil]
        omega
      | some h =>
        have ok := good_iff.mp g _ rfl
        have hne : l ≠ h := fun e => by subst e; simp [cyB] at hc
        have hlt : l < h := by
          simp only [okTr] at ok
          omega
        simp only [leftC, runC, actV, List.filterMap_cons, List.filterMap_nil, List.foldl_cons, List.foldl_nil, bendC, bnd_ss (Int.le_of_lt hlt), List.sum_cons, List.sum_nil]
        omega
end
section
variable {A A0 : AH} {i L C : Nat} {Q : DK} {E : DX}
theorem sub_one {α : Type} {z a : α} {wr : List α} (h : (z :: wr).Sublist [a]) : z = a ∧ wr = [] := by
  have := h.length_le
  have hw : wr = [] := List.eq_nil_of_length_eq_zero (by simp at this; simpa using this)
  subst hw
  exact ⟨by simpa using h.subset (List.mem_singleton.mpr rfl), rfl⟩
theorem sub_le2 {α : Type} {a b : α} {wr : List α} (h : wr.Sublist [a, b]) : wr = [] ∨ wr = [a] ∨ wr = [b] ∨ wr = [a, b] := by
  cases wr with
  | nil => exact .inl rfl
  | cons z wr =>
    cases h with
    | cons _ h =>
      obtain ⟨h1, h2⟩ := sub_one h
      subst h1 h2
      exact .inr (.inr (.inl rfl))
    | cons_cons _ h =>
      cases wr with
      | nil => exact .inr (.inl rfl)
      | cons y r =>
        obtain ⟨h1, h2⟩ := sub_one h
        subst h1 h2
        exact .inr (.inr (.inr rfl))
theorem sub_three {α : Type} {z a b c : α} {wr : List α} (h : (z :: wr).Sublist [a, b, c]) : (z = a ∧ wr.Sublist [b, c]) ∨ (z = b ∧ wr.Sublist [c]) ∨ (z = c ∧ wr = []) := by
  cases h with
  | cons _ h =>
    cases h with
    | cons _ h =>
      obtain ⟨h1, h2⟩ := sub_one h
      exact .inr (.inr ⟨h1, h2⟩)
    | cons_cons _ h => exact .inr (.inl ⟨rfl, h⟩)
  | cons_cons _ h => exact .inl ⟨rfl, h⟩
theorem tyD_exc {c : Nat} {p : List D} : tyD A (.exc c p) = some (.c c) := rfl
theorem okD_setL {B : Nat} {xs ys : List D} (h : A[B]? = some (.lst xs)) {d : D} (hd : okD A d) : okD (A.set B (.lst ys)) d := by
  refine okD_mono (fun j c n e k => ?_) hd
  by_cases hj : j = B
  · subst hj
    rw [h] at e; cases e
    exact ⟨_, _, List.getElem?_set_self (lt_of_at h), rfl⟩
  · exact ⟨c, n, by rw [List.getElem?_set_ne (Ne.symm hj)]; exact e, k⟩
/-! ### the refusals of one row -/
end
section
variable {A A0 : AH} {i L C : Nat} {Q : DK} {E : DX}
theorem badM_val {d : D} (h : isValD d = false) : badM d = true := by cases d <;> first | rfl | cases h
theorem badT_val {m : Int} {d : D} (h : isValD d = false) : badT m d = true := by cases d <;> first | rfl | cases h
theorem bi_intB {b : Bool} : biP .int [.bl b] A Q = Q (.int (if b = true then 1 else 0)) A := rfl
theorem bin_mulL {p : Nat} {j : Int} {xs : List D} (h : A[p]? = some (.lst xs)) (h1 : -(2 ^ 62) ≤ j ∧ j < 2 ^ 62 ∧ xs.length * j.toNat ≤ LIM) (k : Q (.ref A.length) (A ++ [.lst (List.replicate j.toNat xs).flatten])) : binP .mul (.ref p) (.int j) A Q := by
  have e1 : cellW A p = some xs := by unfold cellW; rw [h]
  show opt (cellW A p) _
  rw [e1]
  exact ⟨h1, k⟩
end
section
variable {A A0 : AH} {i L C : Nat} {Q : DK} {E : DX}
theorem sum_add (s : Int) : ∀ ns : List Int, (ns.map fun n => n + s).sum = ns.sum + ns.length * s
  | [] => by simp
  | n :: ns => by
    rw [List.map_cons, List.sum_cons, List.sum_cons, sum_add s ns, List.length_cons]
    push_cast
    rw [Int.add_mul, Int.one_mul]
    omega
theorem sum_const (k : Int) : ∀ ns : List Int, (ns.map fun _ => k).sum = ns.length * k
  | [] => by simp
  | n :: ns => by
    rw [List.map_cons, List.sum_cons, sum_const k ns, List.length_cons]
    push_cast
    rw [Int.add_mul, Int.one_mul]
    omega
theorem left_one (c : Ch) (ns : List Int) : leftC [c] ns = ns.filterMap fun n => actV c (some n) := rfl
theorem tell_car {c : Ch} {ns : List Int} (g : Good c) (hc : cyB c = true) : tellD [c] ns = .tup [.int (carC c ns.length ns.sum).1, .int (carC c ns.length ns.sum).2] := by
  unfold tellD
  rw [left_one]
  obtain ⟨a, p⟩ := c
  cases p with
  | none =>
    have e : (ns.filterMap fun n => actV ⟨a, none⟩ (some n)) = [] := by
      rw [List.filterMap_eq_nil_iff]
      intro n _
      rfl
    rw [e]; rfl
  | some t =>
    obtain ⟨s, l, h⟩ := t
    have e : l = h := of_decide_eq_true hc
    subst e
    have e2 : (ns.filterMap fun n => actV ⟨a, some (s, l, l)⟩ (some n)) = ns.map fun n => bnd (n + s) l l := by
      rw [← List.filterMap_eq_map]; rfl
    rw [e2, List.length_map]
    cases l with
    | none =>
      rw [show (fun n : Int => bnd (n + s) none none) = fun n => n + s from funext fun n => bnd_nn, sum_add]
      rfl
    | some l =>
      rw [show (fun n : Int => bnd (n + s) (some l) (some l)) = fun n => l from funext fun n => by rw [bnd_ss (Int.le_refl _)]; omega, sum_const]
      rfl
theorem pres_cy {x y : Tr} (hx : x.2.1 = x.2.2) (hy : y.2.1 = y.2.2) : (presC x y).2.1 = (presC x y).2.2 := by
  obtain ⟨s, l, h⟩ := x
  obtain ⟨m, l2, h2⟩ := y
  simp only at hx hy
  subst hx hy
  exact pres_if (P := fun t => t.2.1 = t.2.2) (fun _ _ => rfl) fun _ => rfl
theorem then_cy {c d : Ch} (hc : cyB c = true) (hd : cyB d = true) : cyB (thenC c d) = true := by
  obtain ⟨a, p⟩ := c
  obtain ⟨b, q⟩ := d
  cases p with
  | none => cases b <;> simp [thenC, thenP, cyB]
  | some x =>
    cases q with
    | none => rfl
    | some y =>
      obtain ⟨s, l, h⟩ := x
      obtain ⟨m, l2, h2⟩ := y
      exact decide_eq_true (pres_cy (x := (s, l, h)) (y := (m, l2, h2)) (of_decide_eq_true hc) (of_decide_eq_true hd))
theorem in_cy : ∀ (cs : List Ch) (c : Ch), cyB c = true → (∀ d ∈ cs, cyB d = true) → cyB (inC c cs) = true
  | [], c, h, _ => h
  | d :: cs, c, h, hs => in_cy cs (thenC c d) (then_cy h (hs d (by simp))) fun e he => hs e (by simp [he])
theorem eqP_two {a b : Int} {k : Bool → Prop} : eqP A (.tup [.int a, .int b]) (.tup [.int a, .int b]) k = k true :=
  eqP_same (p := .tuple [.int a, .int b]) rfl rfl rfl
theorem eqP_rows {b : Int} {k : Bool → Prop} : eqP A (rowsD b) (rowsD b) k = k true :=
  eqP_same (p := .tuple [.tuple [.int b, .int b], .tuple [.int (b - 1), .int (b + 1)]]) rfl rfl rfl
end
section
variable {A A0 : AH} {i L C : Nat} {Q : DK} {E : DX}
def CC (y : D) : Prop := ∃ c, y = cD c ∧ Good c ∧ cyB c = true
theorem cc_list : ∀ ys : List D, (∀ y ∈ ys, CC y) → ∃ cs : List Ch, ys = cs.map cD ∧ (∀ c ∈ cs, Good c) ∧ ∀ c ∈ cs, cyB c = true
  | [], _ => ⟨[], rfl, by simp, by simp⟩
  | y :: ys, h => by
    obtain ⟨c, e, g, k⟩ := h y (by simp)
    obtain ⟨cs, e2, g2, k2⟩ := cc_list ys fun z hz => h z (by simp [hz])
    subst e e2
    exact ⟨c :: cs, rfl, all_c g g2, all_c k k2⟩
/-- what follows the two ways -/
abbrev tailB : Mb := .cons (.setC 7 (.rng1 (.call 24 (.cons (.var 1) (.cons (.int 9) .nil)))) 9 [9] (.no) (.call 40 (.cons (.var 1) .nil))) (.cons (.ife (.cmp .ne (.call 20 (.cons (.call 17 (.cons (.var 7) .nil)) (.cons (.bi .len (.cons (.var 4) .nil)) (.cons (.bi .sum (.cons (.var 4) .nil)) .nil)))) (.call 36 (.cons (.var 7) (.cons (.var 4) .nil)))) (.cons (.ret (.bl false)) .nil) (.nil)) (.cons (.ife (.not (.call 39 (.cons (.var 1) (.cons (.var 3) (.cons (.var 4) .nil))))) (.cons (.ret (.bl false)) .nil) (.nil)) .nil))
theorem car_zero (c : Ch) : carC c 0 0 = (0, 0) := by
  obtain ⟨a, p⟩ := c
  cases p with
  | none => rfl
  | some t =>
    obtain ⟨s, l, h⟩ := t
    cases l <;> simp [carC]
end
section
variable {A A0 : AH} {i L C : Nat} {Q : DK} {E : DX}
/-- done from behind -/
def rC : List Ch → Ch
  | [] => idC
  | c :: cs => thenC c (rC cs)
theorem rC_ok : ∀ (cs : List Ch), (∀ c ∈ cs, Good c) → Good (rC cs) ∧ ∀ v, actV (rC cs) v = runC cs v
  | [], _ => ⟨id_good, fun v => id_act v⟩
  | c :: cs, h => by
    obtain ⟨g, a⟩ := rC_ok cs fun d hd => h d (by simp [hd])
    refine ⟨then_good (h c (by simp)) g, fun v => ?_⟩
    show actV (thenC c (rC cs)) v = runC cs (actV c v)
    rw [then_act (h c (by simp)) g, a]
theorem rC_in {cs : List Ch} (h : ∀ c ∈ cs, Good c) : rC cs = inC idC cs := by
  obtain ⟨g1, a1⟩ := rC_ok cs h
  obtain ⟨g2, a2⟩ := in_ok cs idC id_good h
  exact ch_ext g1 g2 fun v => by rw [a1, a2, id_act]
theorem then_mid {ps rs : List Ch} (hp : ∀ c ∈ ps, Good c) (hr : ∀ c ∈ rs, Good c) : thenC (inC idC ps) (rC rs) = inC idC (ps ++ rs) := by
  rw [rC_in hr, then_in hp hr]
def bhL : List Ch → List Ch
  | [] => [idC]
  | c :: cs => bhL cs ++ [rC (c :: cs)]
def sufs : List Ch → List Ch
  | [] => [idC]
  | c :: cs => rC (c :: cs) :: sufs cs
theorem bh_rev : ∀ cs : List Ch, (bhL cs).reverse = sufs cs
  | [] => rfl
  | c :: cs => by
    show (bhL cs ++ [rC (c :: cs)]).reverse = rC (c :: cs) :: sufs cs
    rw [List.reverse_append, bh_rev cs]; rfl
theorem bh_last : ∀ cs : List Ch, ∃ ys, bhL cs = ys ++ [rC cs]
  | [] => ⟨[], rfl⟩
  | c :: cs => ⟨bhL cs, rfl⟩
theorem bh_len : ∀ cs : List Ch, (bhL cs).length = cs.length + 1
  | [] => rfl
  | c :: cs => by
    show (bhL cs ++ [rC (c :: cs)]).length = _
    rw [List.length_append, bh_len cs]; rfl
theorem sufs_at : ∀ (ps rs : List Ch), (sufs (ps ++ rs))[ps.length]? = some (rC rs)
  | [], [] => rfl
  | [], c :: cs => rfl
  | p :: ps, rs => by
    show (rC _ :: sufs (ps ++ rs))[ps.length + 1]? = _
    rw [List.getElem?_cons_succ, sufs_at ps rs]
theorem atI_last {xs : List D} {y : D} : L2.atI (xs ++ [y]) (-1) = some y := by
  unfold L2.atI L2.ixN
  have h : ¬ (0 : Int) ≤ -1 := by decide
  have h2 : (1 : Int) ≤ (xs.length : Int) + 1 := by omega
  have e : (-1 + ((xs.length : Int) + 1)).toNat = xs.length := by omega
  rw [List.length_append]
  simp [h, h2, e]
theorem atI_nat {xs : List D} {k : Nat} : L2.atI xs (k : Int) = xs[k]? := by
  unfold L2.atI L2.ixN
  by_cases h : k < xs.length
  · have h2 : (k : Int) < xs.length := by omega
    simp [h2]
  · have h2 : ¬ (k : Int) < xs.length := by omega
    rw [List.getElem?_eq_none (by omega)]
    simp [h2]
theorem bi_revL {p : Nat} {xs : List D} (h : A[p]? = some (.lst xs)) (q : Q .non (A.set p (.lst xs.reverse))) : methP .reverse (.ref p) [] A Q := by
  have e1 : cellW A p = some xs := by unfold cellW; rw [h]
  show opt (cellW A p) _
  rw [e1]
  exact q
/-- the indexes that may be left out, from k on -/
def needL (w : Ch) : Ch → Nat → List Ch → List Int
  | _, _, [] => []
  | a, k, c :: cs => (if chEq (thenC a (rC cs)) w = true then [(k : Int)] else []) ++ needL w (thenC a c) (k + 1) cs
end
section
variable {A A0 : AH} {i L C : Nat} {Q : DK} {E : DX}
theorem need_due {cs : List Ch} (g : ∀ c ∈ cs, Good c) : ∀ (rs ps : List Ch) (n : Nat), n = ps.length → ps ++ rs = cs →
    needL (rC cs) (inC idC ps) n rs = ((List.range' n rs.length).filter fun k => chEq (inC idC (cs.take k ++ cs.drop (k + 1))) (inC idC cs)).map fun (k : Nat) => (k : Int)
  | [], ps, n, en, e => rfl
  | r :: rs, ps, n, en, e => by
    have gp : ∀ c ∈ ps, Good c := fun c hc => g c (by rw [← e]; simp [hc])
    have gr : Good r := g r (by rw [← e]; simp)
    have grs : ∀ c ∈ rs, Good c := fun c hc => g c (by rw [← e]; simp [hc])
    have ih := need_due g rs (ps ++ [r]) (n + 1) (by simp [en]) (by rw [← e]; simp)
    have e1 : inC idC (ps ++ [r]) = thenC (inC idC ps) r := by unfold inC; rw [List.foldl_append]; rfl
    rw [e1] at ih
    have e2 : cs.take n ++ cs.drop (n + 1) = ps ++ rs := by
      rw [← e, en, List.take_left, show ps ++ r :: rs = (ps ++ [r]) ++ rs from by simp, show ps.length + 1 = (ps ++ [r]).length from by simp, List.drop_left]
    rw [List.length_cons, List.range'_succ, List.filter_cons, e2]
    show (if chEq (thenC (inC idC ps) (rC rs)) (rC cs) = true then [(n : Int)] else []) ++ needL (rC cs) (thenC (inC idC ps) r) (n + 1) rs = _
    rw [ih, then_mid gp grs, rC_in g]
    cases chEq (inC idC (ps ++ rs)) (inC idC cs) with
    | true => rfl
    | false => rfl
def dueL (cs : List Ch) : List Int := ((List.range cs.length).filter fun k => chEq (inC idC (cs.take k ++ cs.drop (k + 1))) (inC idC cs)).map fun (k : Nat) => (k : Int)
theorem need_is {cs : List Ch} (g : ∀ c ∈ cs, Good c) : needL (rC cs) idC 0 cs = dueL cs := by
  have z := need_due g cs [] 0 rfl rfl
  rw [show inC idC [] = idC from rfl] at z
  rw [z]
  unfold dueL
  rw [List.range_eq_range']
/-! ### reaching -/
def absG (a : Option Int) (goal : Int) : Bool := match a with
  | none => false
  | some a => decide (goal ≤ a)
def higL (h : Option Int) (goal : Int) : Bool := match h with
  | none => false
  | some h => decide (h < goal)
def rch (c : Ch) (goal : Int) : Option (Option Int) := match c.p with
  | none => none
  | some (s, l, h) => if absG l goal = true then some none else if higL h goal = true then none else some (some (goal - s))
def rD : Option (Option Int) → D
  | none => .tup []
  | some v => .tup [vD v]
def reachD (c : Ch) (goal : Int) : D := .tup [.bl (absG c.a goal), rD (rch c goal)]
end
section
variable {A A0 : AH} {i L C : Nat} {Q : DK} {E : DX}
def rchB : Option (Option Int) → Int → Bool
  | none, _ => false
  | some none, _ => true
  | some (some k), v => decide (k ≤ v)
theorem reach_iff {c : Ch} {goal : Int} (g : Good c) (v : Int) : absG (actV c (some v)) goal = rchB (rch c goal) v := by
  obtain ⟨a, p⟩ := c
  cases p with
  | none => rfl
  | some t =>
    obtain ⟨s, l, h⟩ := t
    have ok := good_iff.mp g _ rfl
    show decide (goal ≤ bnd (v + s) l h) = rchB (if absG l goal = true then some none else if higL h goal = true then none else some (some (goal - s))) v
    cases l with
    | none =>
      cases h with
      | none =>
        rw [bnd_nn]
        show _ = decide (goal - s ≤ v)
        by_cases z : goal ≤ v + s
        · rw [decide_eq_true z, decide_eq_true (by omega)]
        · rw [decide_eq_false z, decide_eq_false (by omega)]
      | some h =>
        rw [bnd_ns]
        show _ = rchB (if decide (h < goal) = true then none else some (some (goal - s))) v
        by_cases hh : h < goal
        · rw [decide_eq_true hh, if_pos rfl, decide_eq_false (by omega)]; rfl
        · rw [decide_eq_false hh, if_neg (by decide)]
          show _ = decide (goal - s ≤ v)
          by_cases z : goal ≤ v + s
          · rw [decide_eq_true (by omega), decide_eq_true (by omega)]
          · rw [decide_eq_false (by omega), decide_eq_false (by omega)]
    | some l =>
      cases h with
      | none =>
        rw [bnd_sn]
        show _ = rchB (if decide (goal ≤ l) = true then some none else some (some (goal - s))) v
        by_cases hl : goal ≤ l
        · rw [decide_eq_true hl, if_pos rfl, decide_eq_true (by omega)]; rfl
        · rw [decide_eq_false hl, if_neg (by decide)]
          show _ = decide (goal - s ≤ v)
          by_cases z : goal ≤ v + s
          · rw [decide_eq_true (by omega), decide_eq_true (by omega)]
          · rw [decide_eq_false (by omega), decide_eq_false (by omega)]
      | some h =>
        have lh : l ≤ h := by simp only [okTr] at ok; omega
        rw [bnd_ss lh]
        show _ = rchB (if decide (goal ≤ l) = true then some none else if decide (h < goal) = true then none else some (some (goal - s))) v
        by_cases hl : goal ≤ l
        · rw [decide_eq_true hl, if_pos rfl, decide_eq_true (by omega)]; rfl
        · rw [decide_eq_false hl, if_neg (by decide)]
          by_cases hh : h < goal
          · rw [decide_eq_true hh, if_pos rfl, decide_eq_false (by omega)]; rfl
          · rw [decide_eq_false hh, if_neg (by decide)]
            show _ = decide (goal - s ≤ v)
            by_cases z : goal ≤ v + s
            · rw [decide_eq_true (by omega), decide_eq_true (by omega)]
            · rw [decide_eq_false (by omega), decide_eq_false (by omega)]
theorem eqP_e0 {k : Bool → Prop} : eqP A (.tup []) (.tup []) k = k true := eqP_same (p := .tuple []) rfl rfl rfl
theorem eqP_e1 {v : Option Int} {k : Bool → Prop} : eqP A (.tup [vD v]) (.tup []) k = k false := by
  cases v <;> rfl
def lowR : Option (Option Int) → Option Int
  | none => none
  | some v => v
def someR (r : Option (Option Int)) : Bool := r.isSome
theorem ne_r {r : Option (Option Int)} {k : Bool → Prop} : cmpP .ne (rD r) (.tup []) A k = k (someR r) := by
  cases r with
  | none => rw [cmp_ne]; exact eqP_e0
  | some v => rw [cmp_ne]; exact eqP_e1
theorem len_r {r : Option (Option Int)} : ∃ n : Nat, n ≤ 1 ∧ ∀ (A : AH) (Q : DK), biP .len [rD r] A Q = Q (.int n) A := by
  cases r with
  | none => exact ⟨0, by decide, fun _ _ => rfl⟩
  | some v => exact ⟨1, by decide, fun _ _ => rfl⟩
theorem ty_r {r : Option (Option Int)} : tyD A (rD r) = some (.b "tuple") := by cases r <;> rfl
theorem ints_of {vs : List (Option Int)} : ∃ ns : List Int, ((vs.map vD).filter fun d => !isNon d).map id = ns.map .int ∧ ns.length ≤ vs.length := by
  induction vs with
  | nil => exact ⟨[], rfl, by simp⟩
  | cons v vs ih =>
    obtain ⟨ns, e, hl⟩ := ih
    cases v with
    | none => exact ⟨ns, e, by simp; omega⟩
    | some k => exact ⟨k :: ns, by rw [List.map_cons, List.map_cons, ← e]; rfl, by simp; omega⟩
end
section
variable {A A0 : AH} {i L C : Nat} {Q : DK} {E : DX}
def fdue (cs : List Ch) : D → Bool
  | .int k => chEq (inC idC (cs.take k.toNat ++ cs.drop (k.toNat + 1))) (inC idC cs)
  | _ => false
theorem due_fil (cs : List Ch) : ((rngD 0 cs.length).filter (fdue cs)).map id = (dueL cs).map .int := by
  unfold rngD dueL
  rw [List.map_id, List.filter_map, List.map_map]
  have e : (fdue cs ∘ fun (i : Nat) => D.int (0 + (i : Int))) = fun k => chEq (inC idC (cs.take k ++ cs.drop (k + 1))) (inC idC cs) := by
    funext k
    show chEq (inC idC (cs.take (0 + (k : Int)).toNat ++ cs.drop ((0 + (k : Int)).toNat + 1))) (inC idC cs) = _
    rw [show (0 + (k : Int)).toNat = k from by omega]
  rw [e]
  apply List.map_congr_left
  intro k _
  show D.int (0 + (k : Int)) = D.int (k : Int)
  rw [Int.zero_add]
def minD : D → D
  | .int k => .int (if (999999999 : Int) < k + 1 then 999999999 else k + 1)
  | _ => .non
theorem min_map : ∀ bs : List Int, (bs.map D.int).map minD = (bs.map fun k => if (999999999 : Int) < k + 1 then 999999999 else k + 1).map .int
  | [] => rfl
  | b :: bs => by
    rw [List.map_cons, List.map_cons, min_map bs]; rfl
theorem itP_tup {ds : List D} {k : List D → (AH → Prop) → Prop} : itP (.tup ds) A k = k ds fun _ => True := rfl
theorem sl_head {u w : D} (q : Q (.tup [u]) A) : slP (.tup [u, w]) none (some 1) A Q := by
  refine ⟨fun z => ?_, ?_⟩
  · have := z.2
    rw [show (1 : Int) = ((1 : Nat) : Int) from rfl, HT.sIx_nat] at this
    simp at this
  · rw [cut_take (by decide) (by simp)]
    exact q
theorem sl_tail {u v w : D} (q : Q (.tup [v, w]) A) : slP (.tup [u, v, w]) (some 1) none A Q := by
  refine ⟨fun z => ?_, ?_⟩
  · have := z.1
    rw [show (1 : Int) = ((1 : Nat) : Int) from rfl, HT.sIx_nat] at this
    simp at this
  · rw [cut_drop (by decide) (by simp)]
    exact q
end
end Z64
set_option Elab.async false
set_option linter.all false
set_option maxRecDepth 100000
set_option maxHeartbeats 4000000
/-! k64, plain: what comes from a value by functions, found in two ways. -/
namespace Z64
open PySem Zw
section
variable {α : Type} [DecidableEq α] {fs : List (α → α)} {s : α}
/-- what comes from s -/
inductive Rch (fs : List (α → α)) (s : α) : α → Prop where
  | base : Rch fs s s
  | step {x : α} {f : α → α} : Rch fs s x → f ∈ fs → Rch fs s (f x)
def ad1 (v : α) (acc : List α) (f : α → α) : List α := if f v ∈ acc then acc else acc ++ [f v]
/-- one value's turn -/
def addL (fs : List (α → α)) (acc : List α) (v : α) : List α := fs.foldl (ad1 v) acc
/-- one lap -/
def lapL (fs : List (α → α)) (found : List α) : List α := found.foldl (addL fs) found
structure Ok (fs : List (α → α)) (s : α) (l : List α) : Prop where
  hd : ∃ r, l = s :: r
  nd : l.Nodup
  rc : ∀ x ∈ l, Rch fs s x
theorem Ok.start : Ok fs s [s] := ⟨⟨[], rfl⟩, by simp, fun x hx => by rw [List.mem_singleton.mp hx]; exact .base⟩
theorem ad1_pre {v : α} {acc : List α} {f : α → α} : acc <+: ad1 v acc f := by
  unfold ad1; split
  · exact List.prefix_refl _
  · exact List.prefix_append _ _
theorem ad1_mem {v : α} {acc : List α} {f : α → α} : f v ∈ ad1 v acc f := by
  unfold ad1; split
  · assumption
  · simp
theorem Ok.ad1 {v : α} {acc : List α} {f : α → α} (h : Ok fs s acc) (hv : Rch fs s v) (hf : f ∈ fs) : Ok fs s (ad1 v acc f) := by
  unfold Z64.ad1; split
  · exact h
  · rename_i hn
    obtain ⟨⟨r, e⟩, nd, rc⟩ := h
    refine ⟨⟨r ++ [f v], by rw [e]; rfl⟩, ?_, fun x hx => ?_⟩
    · refine List.nodup_append.mpr ⟨nd, by simp, fun a ha b hb => ?_⟩
      rw [List.mem_singleton.mp hb]
      rintro rfl
      exact hn ha
    · rcases List.mem_append.mp hx with hx | hx
      · exact rc x hx
      · rw [List.mem_singleton.mp hx]; exact hv.step hf
theorem add_pre (v : α) : ∀ (gs : List (α → α)) (acc : List α), acc <+: gs.foldl (ad1 v) acc
  | [], acc => List.prefix_refl _
  | g :: gs, acc => (ad1_pre (f := g)).trans (add_pre v gs _)
theorem add_mem (v : α) : ∀ (gs : List (α → α)) (acc : List α), ∀ g ∈ gs, g v ∈ gs.foldl (ad1 v) acc
  | [], acc, g, h => by cases h
  | g' :: gs, acc, g, h => by
    rcases List.mem_cons.mp h with e | h
    · subst e
      exact (add_pre v gs _).subset ad1_mem
    · exact add_mem v gs _ g h
theorem Ok.add {v : α} (hv : Rch fs s v) : ∀ (gs : List (α → α)) (acc : List α), (∀ g ∈ gs, g ∈ fs) → Ok fs s acc → Ok fs s (gs.foldl (Z64.ad1 v) acc)
  | [], acc, _, h => h
  | g :: gs, acc, hg, h => Ok.add hv gs _ (fun g' hg' => hg g' (List.mem_cons_of_mem _ hg')) (h.ad1 hv (hg g List.mem_cons_self))
theorem Ok.addL {v : α} {acc : List α} (h : Ok fs s acc) (hv : Rch fs s v) : Ok fs s (addL fs acc v) := Ok.add hv fs acc (fun _ z => z) h
theorem lap_pre : ∀ (vs acc : List α), acc <+: vs.foldl (addL fs) acc
  | [], acc => List.prefix_refl _
  | v :: vs, acc => (add_pre v fs acc).trans (lap_pre vs _)
theorem lap_mem : ∀ (vs acc : List α), ∀ v ∈ vs, ∀ f ∈ fs, f v ∈ vs.foldl (addL fs) acc
  | [], acc, v, h => by cases h
  | v' :: vs, acc, v, h => by
    intro f hf
    rcases List.mem_cons.mp h with e | h
    · subst e
      exact (lap_pre vs _).subset (add_mem v fs acc f hf)
    · exact lap_mem vs _ v h f hf
theorem Ok.laps : ∀ (vs acc : List α), (∀ v ∈ vs, Rch fs s v) → Ok fs s acc → Ok fs s (vs.foldl (Z64.addL fs) acc)
  | [], acc, _, h => h
  | v :: vs, acc, hv, h => Ok.laps vs _ (fun v' hv' => hv v' (List.mem_cons_of_mem _ hv')) (h.addL (hv v List.mem_cons_self))
theorem Ok.lap {l : List α} (h : Ok fs s l) : Ok fs s (lapL fs l) := Ok.laps l l h.rc h
def Clo (fs : List (α → α)) (l : List α) : Prop := ∀ v ∈ l, ∀ f ∈ fs, f v ∈ l
theorem Clo.all {l : List α} (c : Clo fs l) (h : s ∈ l) : ∀ x, Rch fs s x → x ∈ l := fun x r => by
  induction r with
  | base => exact h
  | step _ hf ih => exact c _ ih _ hf
theorem Ok.mem {l : List α} (h : Ok fs s l) : s ∈ l := by obtain ⟨r, e⟩ := h.hd; rw [e]; exact List.mem_cons_self
theorem Ok.iff {l : List α} (h : Ok fs s l) (c : Clo fs l) (x : α) : x ∈ l ↔ Rch fs s x := ⟨h.rc x, c.all h.mem x⟩
theorem clo_ad {v : α} : ∀ (gs : List (α → α)) (l : List α), (∀ f ∈ gs, f v ∈ l) → gs.foldl (ad1 v) l = l
  | [], l, _ => rfl
  | g :: gs, l, h => by
    have e : ad1 v l g = l := by unfold ad1; rw [if_pos (h g List.mem_cons_self)]
    rw [List.foldl_cons, e]
    exact clo_ad gs l fun f hf => h f (List.mem_cons_of_mem _ hf)
theorem clo_laps {l : List α} (c : Clo fs l) : ∀ vs : List α, (∀ v ∈ vs, v ∈ l) → vs.foldl (addL fs) l = l
  | [], _ => rfl
  | v :: vs, h => by
    have e : addL fs l v = l := clo_ad fs l fun f hf => c v (h v List.mem_cons_self) f hf
    rw [List.foldl_cons, e]
    exact clo_laps c vs fun v' hv' => h v' (List.mem_cons_of_mem _ hv')
theorem clo_lap {l : List α} (c : Clo fs l) : lapL fs l = l := clo_laps c l fun _ z => z
theorem pre_eq {l m : List α} (p : l <+: m) (h : m.length ≤ l.length) : m = l := by
  obtain ⟨r, e⟩ := p
  subst e
  rw [List.length_append] at h
  have : r = [] := List.eq_nil_of_length_eq_zero (by omega)
  rw [this, List.append_nil]
/-- a lap that adds nothing: closed -/
theorem lap_clo {l : List α} (h : (lapL fs l).length ≤ l.length) : Clo fs l := fun v hv f hf => by
  have e := pre_eq (lap_pre (fs := fs) l l) h
  have m := lap_mem (fs := fs) l l v hv f hf
  rwa [show l.foldl (addL fs) l = l from e] at m
def lapsL (fs : List (α → α)) (s : α) : Nat → List α
  | 0 => [s]
  | n + 1 => lapL fs (lapsL fs s n)
theorem laps_ok : ∀ n : Nat, Ok fs s (lapsL fs s n)
  | 0 => Ok.start
  | n + 1 => (laps_ok n).lap
theorem laps_clo : ∀ n : Nat, Clo fs (lapsL fs s n) ∨ n + 1 ≤ (lapsL fs s n).length
  | 0 => .inr (by simp [lapsL])
  | n + 1 => by
    rcases laps_clo n with c | h
    · left
      show Clo fs (lapL fs (lapsL fs s n))
      rw [clo_lap c]; exact c
    · by_cases hl : (lapL fs (lapsL fs s n)).length ≤ (lapsL fs s n).length
      · left
        have c := lap_clo hl
        show Clo fs (lapL fs (lapsL fs s n))
        rw [clo_lap c]; exact c
      · right
        show n + 1 + 1 ≤ (lapL fs (lapsL fs s n)).length
        omega
/-- the program's way: the values up to k have had their turn -/
structure Upto (fs : List (α → α)) (s : α) (k : Nat) (l : List α) : Prop extends Ok fs s l where
  up : ∀ i v, i < k → l[i]? = some v → ∀ f ∈ fs, f v ∈ l
theorem Upto.clo {k : Nat} {l : List α} (h : Upto fs s k l) (hk : l.length ≤ k) : Clo fs l := fun v hv f hf => by
  obtain ⟨i, hi, e⟩ := List.mem_iff_getElem.mp hv
  exact h.up i v (by omega) (by rw [List.getElem?_eq_getElem hi, e]) f hf
theorem Upto.start : Upto fs s 0 [s] := ⟨Ok.start, fun i v h => by omega⟩
theorem Upto.next {k : Nat} {l m : List α} {v : α} (h : Upto fs s k l) (hv : l[k]? = some v) (o : Ok fs s m) (p : l <+: m) (hm : ∀ f ∈ fs, f v ∈ m) : Upto fs s (k + 1) m := ⟨o, fun i u hi e f hf => by
  have hk : k < l.length := (List.getElem?_eq_some_iff.mp hv).1
  obtain ⟨r, er⟩ := p
  subst er
  rw [List.getElem?_append_left (by omega)] at e
  by_cases hik : i = k
  · subst hik
    rw [hv] at e; cases e
    exact hm f hf
  · exact List.mem_append_left _ (h.up i u (by omega) e f hf)⟩
theorem Upto.rest {k : Nat} {l : List α} (h : Upto fs s k l) (hk : l.length ≤ k) : Upto fs s (k + 1) l := ⟨h.toOk, fun i v hi e f hf => h.up i v (by have := (List.getElem?_eq_some_iff.mp e).1; omega) e f hf⟩
theorem Upto.addL {k : Nat} {l : List α} {v : α} (h : Upto fs s k l) (hv : l[k]? = some v) : Upto fs s (k + 1) (addL fs l v) :=
  h.next hv (h.toOk.addL (h.rc v (List.mem_of_getElem? hv))) (add_pre v fs l) (add_mem v fs l)
end
/-! ### sorted rows -/
theorem lt_of_le {l : List Int} (h : l.Pairwise (· ≤ ·)) (nd : l.Nodup) : l.Pairwise (· < ·) := by
  induction l with
  | nil => exact List.Pairwise.nil
  | cons a l ih =>
    rw [List.pairwise_cons] at h ⊢
    rw [List.nodup_cons] at nd
    refine ⟨fun b hb => ?_, ih h.2 nd.2⟩
    have := h.1 b hb
    have ne : a ≠ b := fun e => nd.1 (e ▸ hb)
    omega
theorem srt_uniq : ∀ {l m : List Int}, l.Pairwise (· < ·) → m.Pairwise (· < ·) → (∀ x, x ∈ l ↔ x ∈ m) → l = m
  | [], [], _, _, _ => rfl
  | [], b :: m, _, _, h => by have := (h b).mpr List.mem_cons_self; cases this
  | a :: l, [], _, _, h => by have := (h a).mp List.mem_cons_self; cases this
  | a :: l, b :: m, hl, hm, h => by
    rw [List.pairwise_cons] at hl hm
    have e : a = b := by
      have h1 := (h a).mp List.mem_cons_self
      have h2 := (h b).mpr List.mem_cons_self
      rcases List.mem_cons.mp h1 with e | h1
      · exact e
      · rcases List.mem_cons.mp h2 with e | h2
        · exact e.symm
        · have := hm.1 a h1
          have := hl.1 b h2
          omega
    subst e
    have := srt_uniq hl.2 hm.2 fun x => by
      constructor
      · intro hx
        rcases List.mem_cons.mp ((h x).mp (List.mem_cons_of_mem _ hx)) with e | z
        · subst e; have := hl.1 x hx; omega
        · exact z
      · intro hx
        rcases List.mem_cons.mp ((h x).mpr (List.mem_cons_of_mem _ hx)) with e | z
        · subst e; have := hm.1 x hx; omega
        · exact z
    rw [this]
theorem srt_perm {l m l' m' : List Int} (pl : l'.Perm l) (sl : l'.Pairwise (· ≤ ·)) (pm : m'.Perm m) (sm : m'.Pairwise (· ≤ ·)) (nl : l.Nodup) (nm : m.Nodup) (h : ∀ x, x ∈ l ↔ x ∈ m) : l' = m' :=
  srt_uniq (lt_of_le sl (pl.nodup_iff.mpr nl)) (lt_of_le sm (pm.nodup_iff.mpr nm)) fun x => (pl.mem_iff.trans (h x)).trans pm.mem_iff.symm
/-- at most n different numbers below n -/
theorem few_below : ∀ (n : Nat) (l : List Int), l.Nodup → (∀ x ∈ l, 0 ≤ x ∧ x < n) → l.length ≤ n
  | 0, l, _, h => by
    cases l with
    | nil => exact Nat.le_refl _
    | cons a l => have := h a List.mem_cons_self; omega
  | n + 1, l, nd, h => by
    have h1 := few_below n (l.erase (n : Int)) (nd.erase _) fun x hx => by
      have hx' := (nd.mem_erase_iff.mp hx)
      have := h x hx'.2
      have := hx'.1
      omega
    have h2 : l.length ≤ (l.erase (n : Int)).length + 1 := by
      rw [List.length_erase]; split <;> omega
    omega
end Z64
set_option Elab.async false
set_option linter.all false
set_option maxRecDepth 100000
set_option maxHeartbeats 4000000
/-! k64: values_by, values_from, the law's own way. -/
namespace Z64
open PySem Zw
section
variable {A A0 : AH} {i L C : Nat} {Q : DK} {E : DX}
/-- rows of a table -/
def tD (r : List Int) : D := .tup (r.map .int)
def rF (r : List Int) : Int → Int := fun v => r.getD v.toNat 0
def fT (tb : List (List Int)) : List (Int → Int) := tb.map rF
structure TG (n : Nat) (tb : List (List Int)) : Prop where
  n1 : 1 ≤ n
  n6 : n ≤ 6
  l1 : 1 ≤ tb.length
  l6 : tb.length ≤ 6
  row : ∀ r ∈ tb, r.length = n ∧ ∀ x ∈ r, 0 ≤ x ∧ x < n
theorem TG.rng {n : Nat} {tb : List (List Int)} (h : TG n tb) : ∀ x, Rch (fT tb) 0 x → 0 ≤ x ∧ x < n := fun x r => by
  induction r with
  | base => have := h.n1; omega
  | step _ hf ih =>
    obtain ⟨r, hr, e⟩ := List.mem_map.mp hf
    subst e
    obtain ⟨hl, hx⟩ := h.row r hr
    refine hx _ ?_
    unfold rF
    rw [List.getD_eq_getElem?_getD, List.getElem?_eq_getElem (by omega), Option.getD_some]
    exact List.getElem_mem _
theorem TG.hd {n : Nat} {tb : List (List Int)} (h : TG n tb) : ∃ r0 rs, tb = r0 :: rs ∧ r0.length = n := by
  cases tb with
  | nil => have := h.l1; simp at this
  | cons r0 rs => exact ⟨r0, rs, rfl, (h.row r0 List.mem_cons_self).1⟩
/-- where a table stands -/
def TabD (A : AH) (x : D) (tb : List (List Int)) : Prop := x = .tup (tb.map tD) ∨ ∃ j, x = .ref j ∧ A[j]? = some (.lst (tb.map tD))
theorem TabD.pre {x : D} {tb : List (List Int)} (h : TabD A x tb) {A' : AH} (p : A <+: A') : TabD A' x tb := by
  rcases h with h | ⟨j, e, h⟩
  · exact .inl h
  · exact .inr ⟨j, e, pre_at p h⟩
theorem TabD.items {x : D} {tb : List (List Int)} (h : TabD A x tb) : itemsD A x = some (tb.map tD) := by
  rcases h with h | ⟨j, e, h⟩
  · subst h; rfl
  · subst e; exact cellL_of h
theorem TabD.len {x : D} {tb : List (List Int)} (h : TabD A x tb) : biP .len [x] A Q = Q (.int tb.length) A := by
  rcases h with h | ⟨j, e, h⟩
  · subst h; rw [bi_lenT, List.length_map]
  · subst e; rw [bi_lenL h, List.length_map]
theorem TabD.zero {x : D} {r : List Int} {tb : List (List Int)} (h : TabD A x (r :: tb)) : idxP x (.int 0) A Q = Q (tD r) A := by
  rcases h with h | ⟨j, e, h⟩
  · subst h; rw [idx_tup, List.map_cons, atI_z, opt_s]
  · subst e; rw [idx_lst h, List.map_cons, atI_z, opt_s]
theorem len_tD {r : List Int} : biP .len [tD r] A Q = Q (.int r.length) A := by
  unfold tD; rw [bi_lenT, List.length_map]
theorem atI_row {r : List Int} {v : Int} (h0 : 0 ≤ v) (h1 : v < r.length) : L2.atI (r.map D.int) v = some (.int (rF r v)) := by
  obtain ⟨k, rfl⟩ : ∃ k : Nat, v = k := ⟨v.toNat, by omega⟩
  rw [atI_nat, List.getElem?_map, List.getElem?_eq_getElem (by omega)]
  unfold rF
  rw [List.getD_eq_getElem?_getD, Int.toNat_natCast, List.getElem?_eq_getElem (by omega)]
  rfl
theorem idx_row {r : List Int} {v : Int} (h0 : 0 ≤ v) (h1 : v < r.length) : idxP (tD r) (.int v) A Q = Q (.int (rF r v)) A := by
  unfold tD
  rw [idx_tup, atI_row h0 h1, opt_s]
/-! ### in a list of values -/
theorem toPs_v {n : Nat} : ∀ vs : List (Option Int), (vs.map vD).mapM (toP A (n + 1)) = some (vs.map vP)
  | [] => rfl
  | v :: vs => by rw [List.map_cons, List.mapM_cons, toP_vP, toPs_v vs]; rfl
theorem any_v {v : Option Int} : ∀ vs : List (Option Int), ((vs.map vP).any fun q => PyData.eqv q (vP v)) = decide (v ∈ vs)
  | [] => by simp
  | w :: vs => by
    rw [List.map_cons, List.any_cons, eqv_vP, any_v vs]
    by_cases h : w = v
    · subst h; simp
    · have h2 : ¬ v = w := fun e => h e.symm
      simp [h, h2]
theorem notin_v {p : Nat} {v : Option Int} {vs : List (Option Int)} {k : Bool → Prop} (h : A[p]? = some (.lst (vs.map vD))) : cmpP .notin (vD v) (.ref p) A k = k (!decide (v ∈ vs)) := by
  have e : cmpP .notin (vD v) (.ref p) A k = opt (itemsD A (.ref p)) fun xs => opt (toP A 12 (vD v)) fun p => opt (xs.mapM (toP A 12)) fun ps => k (!(ps.any fun q => PyData.eqv q p)) := by
    unfold cmpP
    simp only [h]
  rw [e, show itemsD A (.ref p) = some (vs.map vD) from cellL_of h, opt_s, toP_vP, opt_s, toPs_v, opt_s, any_v]
theorem ints_v (l : List Int) : l.map D.int = (l.map some).map vD := by
  rw [List.map_map]; rfl
theorem notin_i {p : Nat} {v : Int} {l : List Int} {k : Bool → Prop} (h : A[p]? = some (.lst (l.map .int))) : cmpP .notin (.int v) (.ref p) A k = k (!decide (v ∈ l)) := by
  rw [ints_v] at h
  rw [show D.int v = vD (some v) from rfl, notin_v h]
  have e : (some v ∈ l.map some) = (v ∈ l) := by simp
  simp only [e]
/-- a set's turns -/
theorem set_run {gd : AH → Prop} {g : Nat} {δw : DSt} {c : DSt → AH → (Bool → AH → Prop) → Prop} {e : DSt → AH → DK → Prop} {Q : DK} {A : AH} (f : D → Bool) (h : D → Int) (hg : gd A) : ∀ (xs : List D) (acc : List Int),
    (∀ x ∈ xs, ∀ k, k (f x) A → c (δw.set g (some x)) A k) → (∀ x ∈ xs, f x = true → ∀ k, k (.int (h x)) A → e (δw.set g (some x)) A k) → acc.length + xs.length ≤ 60 →
    (∀ ns : List Int, ns.Pairwise (· < ·) → (∀ k, k ∈ ns ↔ k ∈ acc ++ (xs.filter f).map h) → Q (.ref A.length) (A ++ [.lst (ns.map .int)])) → setP gd g δw c e Q xs acc A
  | [], acc, hc, he, hl, q => ⟨hg, fun ns h1 h2 => q ns h1 (by simpa using h2)⟩
  | x :: xs, acc, hc, he, hl, q => by
    have hl2 : acc.length < 60 := by rw [List.length_cons] at hl; omega
    refine ⟨hg, hc x (by simp) _ ?_⟩
    cases hf : f x with
    | true =>
      rw [if_pos rfl]
      refine he x (by simp) hf _ ⟨hl2, set_run f h hg xs (acc ++ [h x]) (fun y hy => hc y (by simp [hy])) (fun y hy => he y (by simp [hy])) ?_ ?_⟩
      · rw [List.length_append]; simp at hl ⊢; omega
      · simpa [hf] using q
    | false =>
      rw [if_neg (by decide)]
      refine set_run f h hg xs acc (fun y hy => hc y (by simp [hy])) (fun y hy => he y (by simp [hy])) ?_ ?_
      · simp at hl ⊢; omega
      · simpa [hf] using q
/-! ### values_by -/
def rowAt (v : Int) : D → Int
  | .tup ds => (match ds[v.toNat]? with | some (.int k) => k | _ => 0)
  | _ => 0
theorem rowAt_t {v : Int} {r : List Int} (h0 : 0 ≤ v) (h1 : v < r.length) : rowAt v (tD r) = rF r v := by
  have hl : v.toNat < r.length := by omega
  have e : (r.map D.int)[v.toNat]? = some (.int r[v.toNat]) := by rw [List.getElem?_map, List.getElem?_eq_getElem hl]; rfl
  unfold rF
  rw [List.getD_eq_getElem?_getD, List.getElem?_eq_getElem hl]
  show (match (r.map D.int)[v.toNat]? with | some (.int k) => k | _ => 0) = _
  rw [e]
  rfl
theorem by_loop {b : WS} {e : DE} {x : D} {n : Nat} {tb : List (List Int)} (hb : ∀ e δ A, wpB F_values_by S t_values_by_1 e δ A → b e δ A) (g : TG n tb)
    (hd : ∀ (A' : AH) (f : Nat) (l : List Int) (y2 y3 y4 : Option D), A0 <+: A' → A'[f]? = some (.lst (l.map .int)) → Upto (fT tb) 0 n l → e.nx [some x, some (.ref f), y2, y3, y4] A') :
    ∀ (k m : Nat) (A : AH) (f : Nat) (l : List Int) (y2 y3 y4 : Option D), m + k = n → TabD A x tb → A0 <+: A → A[f]? = some (.lst (l.map .int)) → Upto (fT tb) 0 m l →
      frP (fun _ => True) (.nm 2) b e ((List.range' m k).map fun (i : Nat) => D.int (0 + (i : Int))) [some x, some (.ref f), y2, y3, y4] A
  | 0, m, A, f, l, y2, y3, y4, hm, ht, hp, hf, u => by
    have e0 : m = n := by omega
    subst e0
    exact ⟨True.intro, hd A f l _ _ _ hp hf u⟩
  | k + 1, m, A, f, l, y2, y3, y4, hm, ht, hp, hf, u => by
    rw [List.range'_succ, List.map_cons]
    refine ⟨True.intro, hb _ _ _ ?_⟩
    unfold t_values_by_1
    refine wpB_c ?_
    simp only [wpS, wp, wpEs, asT]
    refine opt_get (a := D.int (0 + (m : Int))) rfl ?_
    refine opt_get (a := D.ref f) rfl ?_
    rw [bi_lenL hf, cmp_lt, List.length_map]
    by_cases hlt : m < l.length
    · refine ite_t (b := decide ((0 : Int) + (m : Int) < (l.length : Int))) (decide_eq_true (by omega)) ?_
      obtain ⟨v, ev⟩ : ∃ v, l[m]? = some v := ⟨l[m], List.getElem?_eq_getElem hlt⟩
      have hv := g.rng v (u.rc v (List.mem_of_getElem? ev))
      refine wpB_c ?_
      simp only [wpS, wp, wpEs]
      refine opt_get (a := D.ref f) rfl ?_
      refine opt_get (a := D.int (0 + (m : Int))) rfl ?_
      rw [idx_lst hf, Int.zero_add, atI_nat, List.getElem?_map, ev]
      refine (show (fun d => _) (D.int v) from ?_)
      refine wpB_c ?_
      simp only [wpS, wp, wpEs, wpI, wpO, asT]
      refine opt_get (a := D.ref f) rfl ?_
      refine opt_get (a := x) rfl ?_
      refine itP_of ht.items fun gd hg => ?_
      refine set_run (fun d => !decide (rowAt v d ∈ l)) (rowAt v) (hg A ht.items) (tb.map tD) [] (fun d hd' k' hk => ?_) (fun d hd' _ k' hk => ?_) (by rw [List.length_map]; have := g.l6; simp; omega) fun ns hns hmem => ?_
      · obtain ⟨r, hr, er⟩ := List.mem_map.mp hd'
        subst er
        have hl := (g.row r hr).1
        refine opt_get (a := tD r) rfl ?_
        refine opt_get (a := D.int v) rfl ?_
        rw [idx_row hv.1 (by omega)]
        refine opt_get (a := D.ref f) rfl ?_
        rw [notin_i hf]
        rw [rowAt_t hv.1 (by omega)] at hk
        exact hk
      · obtain ⟨r, hr, er⟩ := List.mem_map.mp hd'
        subst er
        have hl := (g.row r hr).1
        refine opt_get (a := tD r) rfl ?_
        refine opt_get (a := D.int v) rfl ?_
        rw [idx_row hv.1 (by omega)]
        rw [rowAt_t hv.1 (by omega)] at hk
        exact hk
      · have hmem' : ∀ k, k ∈ ns ↔ ∃ r ∈ tb, rF r v ∉ l ∧ k = rF r v := fun k => by
          rw [hmem k, List.nil_append, List.mem_map]
          constructor
          · rintro ⟨d, hd1, hd2⟩
            obtain ⟨hd1, hd3⟩ := List.mem_filter.mp hd1
            obtain ⟨r, hr, er⟩ := List.mem_map.mp hd1
            subst er
            have hl := (g.row r hr).1
            rw [rowAt_t hv.1 (by omega)] at hd2 hd3
            exact ⟨r, hr, by simpa using hd3, hd2.symm⟩
          · rintro ⟨r, hr, h1, h2⟩
            have hl := (g.row r hr).1
            refine ⟨tD r, List.mem_filter.mpr ⟨List.mem_map.mpr ⟨r, hr, rfl⟩, ?_⟩, ?_⟩
            · rw [rowAt_t hv.1 (by omega)]; simpa using h1
            · rw [rowAt_t hv.1 (by omega)]; exact h2.symm
        have nd : (l ++ ns).Nodup := List.nodup_append.mpr ⟨u.nd, hns.imp (fun h e => by omega), fun a ha c hc e => by
          obtain ⟨r, _, h1, h2⟩ := (hmem' c).mp hc
          rw [← h2, ← e] at h1
          exact h1 ha⟩
        have ok : Ok (fT tb) 0 (l ++ ns) := ⟨by obtain ⟨r, er⟩ := u.hd; exact ⟨r ++ ns, by rw [er]; rfl⟩, nd, fun y hy => by
          rcases List.mem_append.mp hy with hy | hy
          · exact u.rc y hy
          · obtain ⟨r, hr, _, h2⟩ := (hmem' y).mp hy
            rw [h2]
            exact (u.rc v (List.mem_of_getElem? ev)).step (List.mem_map.mpr ⟨r, hr, rfl⟩)⟩
        have ln : (l ++ ns).length ≤ n := few_below n _ nd fun y hy => g.rng y (ok.rc y hy)
        have u' := u.next ev ok (List.prefix_append _ _) fun ff hff => by
          obtain ⟨r, hr, er⟩ := List.mem_map.mp hff
          subst er
          by_cases hin : rF r v ∈ l
          · exact List.mem_append_left _ hin
          · exact List.mem_append_right _ ((hmem' _).mpr ⟨r, hr, hin, rfl⟩)
        refine bin_addL (at_app hf) last_app (by have := g.n6; rw [List.length_map, List.length_map]; rw [List.length_append] at ln; unfold LIM; omega) ?_
        rw [← List.map_append]
        refine wpB_n ?_
        refine wpB_n ?_
        have p2 := (List.prefix_append A [Cell.lst (ns.map D.int)]).trans (List.prefix_append _ [Cell.lst ((l ++ ns).map D.int)])
        exact by_loop hb g hd k (m + 1) _ _ _ _ _ _ (by omega) (ht.pre p2) (hp.trans p2) last_app u'
    · refine ite_f (b := decide ((0 : Int) + (m : Int) < (l.length : Int))) (decide_eq_false (by omega)) ?_
      refine wpB_n ?_
      refine wpB_n ?_
      exact by_loop hb g hd k (m + 1) A f l _ _ _ (by omega) ht hp hf (u.rest (by omega))
theorem values_by_ok {x : D} {n : Nat} {tb : List (List Int)} (ht : TabD A x tb) (g : TG n tb)
    (q : ∀ (A' : AH) (f : Nat) (l : List Int), A <+: A' → A'[f]? = some (.lst (l.map .int)) → Ok (fT tb) 0 l → Clo (fT tb) l → Q (.ref f) A') : sp_values_by [x] A Q E := by
  unfold sp_values_by defSp t_values_by
  refine ⟨rfl, ?_⟩
  simp only [startD_c, startD_e, List.replicate]
  refine wpB_c ?_
  simp only [wpS, wp, wpEs]
  refine ⟨by simp [LIM], ?_⟩
  refine wpB_c ?_
  simp only [wpS, wp, wpEs, wpI]
  refine opt_get (a := x) rfl ?_
  obtain ⟨r0, rs, et, hl⟩ := g.hd
  have ht1 := ht.pre (List.prefix_append A [Cell.lst [D.int 0]])
  rw [et] at ht1
  rw [ht1.zero, len_tD]
  rw [← et] at ht1
  have := g.n6
  refine ⟨⟨by omega, by omega⟩, ?_⟩
  have er : rngD 0 ((r0.length : Nat) : Int).toNat = (List.range' 0 n).map fun (i : Nat) => D.int (0 + (i : Int)) := by
    rw [Int.toNat_natCast, hl]
    unfold rngD
    rw [List.range_eq_range']
  rw [er]
  refine by_loop (A0 := A) (fun _ _ _ z => z) g (fun A' f l y2 y3 y4 p hf u => ?_) n 0 _ _ [0] _ _ _ (by omega) ht1 (List.prefix_append _ _) last_app Upto.start
  refine wpB_c ?_
  simp only [wpS, wp]
  refine opt_get (a := D.ref f) rfl ?_
  exact q A' f l p hf u.toOk (u.clo (few_below n l u.nd fun y hy => g.rng y (u.rc y hy)))
end
end Z64
set_option Elab.async false
set_option linter.all false
set_option maxRecDepth 100000
set_option maxHeartbeats 4000000
/-! k64: the law's own way to what is reached; need_table; values_from. -/
namespace Z64
open PySem Zw
section
variable {A A0 Ab : AH} {i L C : Nat} {Q : DK} {E : DX}
theorem But.rfl' {F : Nat} : But F A A := ⟨rfl, fun _ _ => rfl⟩
theorem But.put {F : Nat} {c : Cell} (h : But F Ab A) : But F Ab (A.set F c) := ⟨by rw [List.length_set]; exact h.1, fun j hj => by rw [List.getElem?_set_ne (Ne.symm hj)]; exact h.2 j hj⟩
theorem but_pre {F : Nat} (p : A0 <+: Ab) (hF : A0.length ≤ F) (h : But F Ab A) : A0 <+: A := by
  rw [List.prefix_iff_getElem?] at p ⊢
  intro j hj
  have := p j hj
  rw [h.2 j (by omega)]
  exact this
theorem app_i {F : Nat} {l : List Int} {v : Int} (h : A[F]? = some (.lst (l.map .int))) (hl : l.length < LIM) (q : Q .non (A.set F (.lst ((l ++ [v]).map .int)))) : methP .append (.ref F) [.int v] A Q := by
  refine app_lst h (by rw [List.length_map]; exact hl) ?_
  rw [List.map_append] at q
  exact q
theorem set_at {F : Nat} {c c' : Cell} (h : A[F]? = some c) : (A.set F c')[F]? = some c' := List.getElem?_set_self (lt_of_at h)
theorem rows_loop {b : WS} {e : DE} {x : D} {n F : Nat} {tb : List (List Int)} {v : Int} {y2 : Option D} {gd : AH → Prop} (hb : ∀ e δ A, wpB F__law_reached S t__law_reached_1 e δ A → b e δ A) (g : TG n tb) (hv : Rch (fT tb) 0 v) (hgd : ∀ A', But F Ab A' → gd A') :
    ∀ (rs : List (List Int)) (A : AH) (l : List Int) (y4 : Option D), (∀ r ∈ rs, r ∈ tb) → But F Ab A → A[F]? = some (.lst (l.map .int)) → Ok (fT tb) 0 l →
      (∀ (A' : AH) (y4 : Option D), But F Ab A' → A'[F]? = some (.lst (((rs.map rF).foldl (ad1 v) l).map .int)) → e.nx [some x, some (.ref F), y2, some (.int v), y4] A') →
      frP gd (.nm 4) b e (rs.map tD) [some x, some (.ref F), y2, some (.int v), y4] A
  | [], A, l, y4, hr, bt, hF, o, hd => ⟨hgd A bt, hd A y4 bt hF⟩
  | r :: rs, A, l, y4, hr, bt, hF, o, hd => by
    rw [List.map_cons]
    refine ⟨hgd A bt, hb _ _ _ ?_⟩
    unfold t__law_reached_1
    have hrv := g.rng v hv
    have hrl := (g.row r (hr r List.mem_cons_self)).1
    have ll : l.length ≤ n := few_below n l o.nd fun y hy => g.rng y (o.rc y hy)
    have o' : Ok (fT tb) 0 (ad1 v l (rF r)) := o.ad1 hv (List.mem_map.mpr ⟨r, hr r List.mem_cons_self, rfl⟩)
    refine wpB_c ?_
    simp only [wpS, wp, wpEs, asT]
    refine opt_get (a := tD r) rfl ?_
    refine opt_get (a := D.int v) rfl ?_
    rw [idx_row hrv.1 (by omega)]
    refine opt_get (a := D.ref F) rfl ?_
    rw [notin_i hF]
    by_cases hin : rF r v ∈ l
    · refine ite_f (b := !decide (rF r v ∈ l)) (by simp [hin]) ?_
      refine wpB_n (wpB_n ?_)
      have e1 : ad1 v l (rF r) = l := by unfold ad1; rw [if_pos hin]
      exact rows_loop hb g hv hgd rs A l _ (fun r' h => hr r' (List.mem_cons_of_mem _ h)) bt hF o fun A' y4 b' h' => hd A' y4 b' (by rw [List.map_cons, List.foldl_cons, e1]; exact h')
    · refine ite_t (b := !decide (rF r v ∈ l)) (by simp [hin]) ?_
      have e1 : ad1 v l (rF r) = l ++ [rF r v] := by unfold ad1; rw [if_neg hin]
      rw [e1] at o'
      refine wpB_c ?_
      simp only [wpS, wp, wpEs]
      refine opt_get (a := D.ref F) rfl ⟨recv_lst hF, ?_⟩
      refine opt_get (a := tD r) rfl ?_
      refine opt_get (a := D.int v) rfl ?_
      rw [idx_row hrv.1 (by omega)]
      refine app_i hF (by have := g.n6; unfold LIM; omega) ?_
      refine wpB_n (wpB_n ?_)
      exact rows_loop hb g hv hgd rs _ _ _ (fun r' h => hr r' (List.mem_cons_of_mem _ h)) bt.put (set_at hF) o' fun A' y4 b' h' => hd A' y4 b' (by rw [List.map_cons, List.foldl_cons, e1]; exact h')
theorem vals_loop {b : WS} {e : DE} {n F T : Nat} {tb : List (List Int)} {y2 : Option D} {gd : AH → Prop} (hb : ∀ e δ A, wpB F__law_reached S t__law_reached_2 e δ A → b e δ A) (g : TG n tb) (hgd : ∀ A', But F Ab A' → gd A') (hT : Ab[T]? = some (.lst (tb.map tD))) (hTF : T ≠ F) :
    ∀ (vs : List Int) (A : AH) (l : List Int) (y3 y4 : Option D), (∀ v ∈ vs, Rch (fT tb) 0 v) → But F Ab A → A[F]? = some (.lst (l.map .int)) → Ok (fT tb) 0 l →
      (∀ (A' : AH) (y3 y4 : Option D), But F Ab A' → A'[F]? = some (.lst ((vs.foldl (addL (fT tb)) l).map .int)) → e.nx [some (.ref T), some (.ref F), y2, y3, y4] A') →
      frP gd (.nm 3) b e (vs.map .int) [some (.ref T), some (.ref F), y2, y3, y4] A
  | [], A, l, y3, y4, hv, bt, hF, o, hd => ⟨hgd A bt, hd A y3 y4 bt hF⟩
  | v :: vs, A, l, y3, y4, hv, bt, hF, o, hd => by
    rw [List.map_cons]
    refine ⟨hgd A bt, hb _ _ _ ?_⟩
    unfold t__law_reached_2
    refine wpB_c ?_
    simp only [wpS, wp, wpEs, wpI]
    refine opt_get (a := D.ref T) rfl ?_
    have hT' : A[T]? = some (.lst (tb.map tD)) := by rw [bt.2 T hTF]; exact hT
    rw [itP_lst hT']
    refine rows_loop (fun _ _ _ z => z) g (hv v List.mem_cons_self) (fun A' b' => cellL_of (by rw [b'.2 T hTF]; exact hT)) tb A l y4 (fun _ z => z) bt hF o fun A' y4' b' h' => ?_
    exact vals_loop hb g hgd hT hTF vs A' _ _ _ (fun v' h => hv v' (List.mem_cons_of_mem _ h)) b' h' (o.addL (hv v List.mem_cons_self)) hd
theorem laps_loop {b : WS} {e : DE} {n F T : Nat} {tb : List (List Int)} (hb : ∀ e δ A, wpB F__law_reached S t__law_reached_3 e δ A → b e δ A) (g : TG n tb) (hT : A0[T]? = some (.lst (tb.map tD))) (hTF : A0.length ≤ F)
    (hd : ∀ (A' : AH) (y2 y3 y4 : Option D), A0 <+: A' → A'[F]? = some (.lst ((lapsL (fT tb) 0 n).map .int)) → e.nx [some (.ref T), some (.ref F), y2, y3, y4] A') :
    ∀ (k m : Nat) (A : AH) (y2 y3 y4 : Option D), m + k = n → A0 <+: A → A[F]? = some (.lst ((lapsL (fT tb) 0 m).map .int)) →
      frP (fun _ => True) (.nm 2) b e ((List.range' m k).map fun (i : Nat) => D.int (0 + (i : Int))) [some (.ref T), some (.ref F), y2, y3, y4] A
  | 0, m, A, y2, y3, y4, hm, hp, hF => by
    have e0 : m = n := by omega
    subst e0
    exact ⟨True.intro, hd A _ _ _ hp hF⟩
  | k + 1, m, A, y2, y3, y4, hm, hp, hF => by
    rw [List.range'_succ, List.map_cons]
    refine ⟨True.intro, hb _ _ _ ?_⟩
    unfold t__law_reached_3
    have hlt := lt_of_at hT
    refine wpB_c ?_
    simp only [wpS, wp, wpEs, wpI]
    refine opt_get (a := D.ref F) rfl ?_
    rw [bi_list hF, itP_lst last_app]
    have nF : A.length ≠ F := by have := lt_of_at hF; omega
    refine vals_loop (Ab := A ++ [Cell.lst ((lapsL (fT tb) 0 m).map .int)]) (fun _ _ _ z => z) g (fun A' b' => cellL_of (by rw [b'.2 _ nF]; exact last_app)) (at_app (pre_at hp hT)) (by omega) _ _ _ _ _ ((laps_ok m).rc) But.rfl' (at_app hF) (laps_ok m) fun A' y3 y4 b' h' => ?_
    exact laps_loop hb g hT hTF hd k (m + 1) A' _ _ _ (by omega) (but_pre (hp.trans (List.prefix_append _ _)) hTF b') h'
theorem reached_ok {T n : Nat} {tb : List (List Int)} (hT : A[T]? = some (.lst (tb.map tD))) (g : TG n tb)
    (q : ∀ (A' : AH) (f : Nat) (ns : List Int), A <+: A' → A'[f]? = some (.lst (ns.map .int)) → ns.Pairwise (· < ·) → (∀ k, k ∈ ns ↔ Rch (fT tb) 0 k) → Q (.ref f) A') : sp__law_reached [.ref T] A Q E := by
  unfold sp__law_reached defSp t__law_reached
  refine ⟨rfl, ?_⟩
  simp only [startD_c, startD_e, List.replicate]
  refine wpB_c ?_
  simp only [wpS, wp, wpEs]
  refine ⟨by simp [LIM], ?_⟩
  refine wpB_c ?_
  simp only [wpS, wp, wpEs, wpI]
  refine opt_get (a := D.ref T) rfl ?_
  obtain ⟨r0, rs, et, hl⟩ := g.hd
  have ht1 : TabD (A ++ [Cell.lst [D.int 0]]) (.ref T) tb := .inr ⟨T, rfl, at_app hT⟩
  rw [et] at ht1
  rw [ht1.zero, len_tD]
  have := g.n6
  refine ⟨⟨by omega, by omega⟩, ?_⟩
  have er : rngD 0 ((r0.length : Nat) : Int).toNat = (List.range' 0 n).map fun (i : Nat) => D.int (0 + (i : Int)) := by
    rw [Int.toNat_natCast, hl]
    unfold rngD
    rw [List.range_eq_range']
  rw [er]
  refine laps_loop (A0 := A) (F := A.length) (fun _ _ _ z => z) g hT (Nat.le_refl _) (fun A' y2 y3 y4 p hF => ?_) n 0 _ _ _ _ (by omega) (List.prefix_append _ _) last_app
  refine wpB_c ?_
  simp only [wpS, wp, wpEs]
  refine opt_get (a := D.ref A.length) rfl ?_
  have o := laps_ok (fs := fT tb) (s := 0) n
  have lb : (lapsL (fT tb) 0 n).length ≤ n := few_below n _ o.nd fun y hy => g.rng y (o.rc y hy)
  have c : Clo (fT tb) (lapsL (fT tb) 0 n) := by
    rcases laps_clo (fs := fT tb) (s := 0) n with c | c
    · exact c
    · omega
  unfold biP
  simp only [hF]
  rw [intsD_map, opt_s]
  intro ns hp hs
  exact q _ _ ns (p.trans (List.prefix_append _ _)) last_app (lt_of_le hs (hp.nodup_iff.mpr o.nd)) fun k => hp.mem_iff.trans (o.iff c k)
end
end Z64
set_option Elab.async false
set_option linter.all false
set_option maxRecDepth 100000
set_option maxHeartbeats 4000000
/-! k64: need_table, values_from. -/
namespace Z64
open PySem Zw
section
variable {A A0 Ab : AH} {i L C : Nat} {Q : DK} {E : DX}
theorem ite_T {P R : Prop} (q : P) : (if True then P else R) := by rw [if_pos True.intro]; exact q
/-- a list or a tuple of these -/
def SeqAt (A : AH) (x : D) (ds : List D) : Prop := x = .tup ds ∨ ∃ j, x = .ref j ∧ A[j]? = some (.lst ds)
theorem SeqAt.pre {x : D} {ds : List D} (h : SeqAt A x ds) {A' : AH} (p : A <+: A') : SeqAt A' x ds := by
  rcases h with h | ⟨j, e, h⟩
  · exact .inl h
  · exact .inr ⟨j, e, pre_at p h⟩
theorem SeqAt.items {x : D} {ds : List D} (h : SeqAt A x ds) : itemsD A x = some ds := by
  rcases h with h | ⟨j, e, h⟩
  · subst h; rfl
  · subst e; exact cellL_of h
theorem SeqAt.len {x : D} {ds : List D} (h : SeqAt A x ds) : biP .len [x] A Q = Q (.int ds.length) A := by
  rcases h with h | ⟨j, e, h⟩
  · subst h; rw [bi_lenT]
  · subst e; rw [bi_lenL h]
theorem SeqAt.zero {x d : D} {ds : List D} (h : SeqAt A x (d :: ds)) : idxP x (.int 0) A Q = Q d A := by
  rcases h with h | ⟨j, e, h⟩
  · subst h; rw [idx_tup, atI_z, opt_s]
  · subst e; rw [idx_lst h, atI_z, opt_s]
theorem SeqAt.ty {x : D} {ds : List D} (h : SeqAt A x ds) : ∃ n, tyD A x = some (.b n) ∧ (["list", "tuple"].any fun t => subT S (.b n) (.b t)) = true := by
  rcases h with h | ⟨j, e, h⟩
  · subst h; exact ⟨"tuple", rfl, by decide⟩
  · subst e; exact ⟨"list", (isSeq_ref h).1, by decide⟩
theorem okD_pre {A' : AH} {d : D} (p : A <+: A') (h : okD A d) : okD A' d := by
  obtain ⟨r, e⟩ := p
  subst e
  exact okD_app h r
def idxB (m : Nat) : D → Bool
  | .int k => decide (0 ≤ k) && decide (k < (m : Int))
  | _ => false
def rowB (m : Nat) : D → Bool
  | .tup es => decide (es.length = m) && es.all (idxB m)
  | _ => false
def hdB (ds : List D) : D → Bool
  | .tup es => decide (1 ≤ es.length) && decide (es.length ≤ 6) && ds.all (rowB es.length)
  | _ => false
def tabB (ds : List D) : Bool := decide (1 ≤ ds.length) && decide (ds.length ≤ 6) && (match ds with | d :: _ => hdB ds d | [] => false)
theorem index_ok {d : D} {m : Nat} (h : okD A d) (q : Q (.bl (idxB m d)) A) : sp_is_index [d, .int m] A Q E := by
  unfold sp_is_index defSp t_is_index
  refine ⟨rfl, ?_⟩
  simp only [startD_c, startD_e, List.replicate]
  refine wpB_c ?_
  simp only [wpS, wp, wpEs, asT]
  refine opt_get (a := d) rfl ?_
  refine num_ok h ?_
  rw [tru_b]
  cases hi : isIntD d with
  | false =>
    refine ite_f (b := false) rfl ?_
    have e : idxB m d = false := by cases d <;> first | rfl | cases hi
    rw [e] at q
    exact q
  | true =>
    refine ite_t (b := true) rfl ?_
    cases d with
    | int k =>
      refine opt_get (a := D.int k) rfl ?_
      rw [cmp_le]
      have e : idxB m (.int k) = (decide (0 ≤ k) && decide (k < (m : Int))) := rfl
      rw [e] at q
      by_cases h0 : 0 ≤ k
      · refine ite_t (b := decide (0 ≤ k)) (decide_eq_true h0) ?_
        refine opt_get (a := D.int m) rfl ?_
        rw [cmp_lt]
        rw [decide_eq_true h0, Bool.true_and] at q
        exact q
      · refine ite_f (b := decide (0 ≤ k)) (decide_eq_false h0) ?_
        rw [decide_eq_false h0, Bool.false_and] at q
        exact q
    | _ => cases hi
def OkR (A : AH) (d : D) : Prop := okD A d ∧ ∀ es, d = .tup es → es.length ≤ 60 ∧ ∀ e ∈ es, okD A e
theorem OkR.pre {A' : AH} {d : D} (p : A <+: A') (h : OkR A d) : OkR A' d := ⟨okD_pre p h.1, fun es e => ⟨(h.2 es e).1, fun z hz => okD_pre p ((h.2 es e).2 z hz)⟩⟩
theorem trow_ok {d : D} {m : Nat} (h : OkR A d) (q : ∀ A', A <+: A' → Q (.bl (rowB m d)) A') : sp_is_table_row [d, .int m] A Q E := by
  unfold sp_is_table_row defSp t_is_table_row
  refine ⟨rfl, ?_⟩
  simp only [startD_c, startD_e, List.replicate]
  refine wpB_c ?_
  simp only [wpS, wp, wpEs, wpI, wpO, asT]
  refine opt_get (a := d) rfl ?_
  obtain ⟨n, hn⟩ := h.1
  refine opt_get (a := TyT.b n) hn ⟨True.intro, ?_⟩
  rw [st_ hn, tru_b]
  cases ht : isTupD d with
  | false =>
    refine ite_f (b := false) rfl ?_
    have e : rowB m d = false := by cases d <;> first | rfl | cases ht
    have := q A (List.prefix_refl _)
    rw [e] at this
    exact this
  | true =>
    refine ite_t (b := true) rfl ?_
    cases d with
    | tup es =>
      obtain ⟨hl, ho⟩ := h.2 es rfl
      refine opt_get (a := D.tup es) rfl ?_
      rw [bi_lenT]
      refine opt_get (a := D.int m) rfl ?_
      rw [cmp_eqI, tru_b]
      by_cases hm : es.length = m
      · refine ite_t (b := decide ((es.length : Int) = (m : Int))) (decide_eq_true (by omega)) ?_
        refine opt_get (a := D.tup es) rfl ?_
        rw [itP_tup]
        refine comp_fil (fun _ => true) (fun e => .bl (idxB m e)) True.intro es [] (fun y hy k hk => hk) (fun y hy _ k hk => ?_) (by unfold LIM; simp; omega) ?_
        · refine opt_get (a := y) rfl ?_
          refine opt_get (a := D.int m) rfl ?_
          exact index_ok (ho y hy) hk
        · rw [List.filter_eq_self.mpr (fun _ _ => rfl), List.nil_append]
          show opt (cellL _ A.length) _
          rw [cellL_of last_app, opt_s, bis_map, opt_s]
          have e : rowB m (.tup es) = (es.map (idxB m)).all id := by
            show (decide (es.length = m) && es.all (idxB m)) = _
            rw [decide_eq_true hm, Bool.true_and, List.all_map]; rfl
          rw [← e]
          exact q _ (List.prefix_append _ _)
      · refine ite_f (b := decide ((es.length : Int) = (m : Int))) (decide_eq_false (by omega)) ?_
        have e : rowB m (.tup es) = false := by
          show (decide (es.length = m) && es.all (idxB m)) = _
          rw [decide_eq_false hm, Bool.false_and]
        have := q A (List.prefix_refl _)
        rw [e] at this
        rw [decide_eq_false (by omega)]
        exact this
    | _ => cases ht
theorem need_odd {x : D} {n : String} (hn : tyD A x = some (.b n)) (h : (["list", "tuple"].any fun t => subT S (.b n) (.b t)) = false) (e : E x_BadTable [] A) : sp_need_table [x] A Q E := by
  unfold sp_need_table defSp t_need_table
  refine ⟨rfl, ?_⟩
  simp only [startD_c, startD_e, List.replicate]
  refine wpB_c ?_
  simp only [wpS, wp, wpEs, asT]
  refine opt_get (a := x) rfl ?_
  refine opt_get (a := TyT.b n) hn ⟨True.intro, ?_⟩
  rw [h, tru_b]
  refine ite_t (b := !false) rfl ?_
  refine ite_T ?_
  exact e
theorem need_table_ok {x : D} {ds : List D} (h : SeqAt A x ds) (hd : ∀ d ∈ ds, OkR A d) (hl : ds.length ≤ 60) (q : tabB ds = true → ∀ A', A <+: A' → Q .non A') (e : tabB ds = false → ∀ A', A <+: A' → E x_BadTable [] A') : sp_need_table [x] A Q E := by
  unfold sp_need_table defSp t_need_table
  refine ⟨rfl, ?_⟩
  simp only [startD_c, startD_e, List.replicate]
  refine wpB_c ?_
  simp only [wpS, wp, wpEs, asT]
  refine opt_get (a := x) rfl ?_
  obtain ⟨n, hn, hs⟩ := h.ty
  refine opt_get (a := TyT.b n) hn ⟨True.intro, ?_⟩
  rw [hs, tru_b]
  refine ite_f (b := !true) rfl ?_
  refine opt_get (a := x) rfl ?_
  rw [h.len, cmp_le]
  by_cases h1 : 1 ≤ ds.length
  · refine ite_t (b := decide ((1 : Int) ≤ (ds.length : Int))) (decide_eq_true (by omega)) ?_
    rw [cmp_le]
    by_cases h6 : ds.length ≤ 6
    · refine ite_f (b := !decide ((ds.length : Int) ≤ 6)) (by rw [decide_eq_true (by omega)]; rfl) ?_
      refine opt_get (a := x) rfl ?_
      cases ds with
      | nil => simp at h1
      | cons d ds =>
        rw [h.zero]
        have okd := hd d List.mem_cons_self
        obtain ⟨n', hn'⟩ := okd.1
        refine opt_get (a := TyT.b n') hn' ⟨True.intro, ?_⟩
        rw [st_ hn', tru_b]
        have et : tabB (d :: ds) = hdB (d :: ds) d := by
          unfold tabB
          rw [decide_eq_true h1, decide_eq_true h6]; rfl
        cases ht : isTupD d with
        | false =>
          refine ite_t (b := !false) rfl ?_
          refine e ?_ A (List.prefix_refl _)
          rw [et]
          cases d <;> first | rfl | cases ht
        | true =>
          refine ite_f (b := !true) rfl ?_
          refine wpB_n ?_
          cases d with
          | tup es =>
            have el : hdB (D.tup es :: ds) (D.tup es) = (decide (1 ≤ es.length) && decide (es.length ≤ 6) && (D.tup es :: ds).all (rowB es.length)) := rfl
            rw [et, el] at q e
            refine wpB_c ?_
            simp only [wpS, wp, wpEs, wpI, wpO, asT]
            refine opt_get (a := x) rfl ?_
            rw [h.zero, bi_lenT, cmp_le]
            by_cases g1 : 1 ≤ es.length
            · refine ite_t (b := decide ((1 : Int) ≤ (es.length : Int))) (decide_eq_true (by omega)) ?_
              rw [cmp_le]
              by_cases g6 : es.length ≤ 6
              · refine ite_f (b := !decide ((es.length : Int) ≤ 6)) (by rw [decide_eq_true (by omega)]; rfl) ?_
                rw [decide_eq_true g1, decide_eq_true g6, Bool.true_and, Bool.true_and] at q e
                refine opt_get (a := x) rfl ?_
                refine itP_of h.items fun gd hg => ?_
                refine comp_any (fun A' => A <+: A') (fun _ => true) (fun d => .bl (rowB es.length d)) (fun A' p => hg A' (h.pre p).items) (D.tup es :: ds) [] A (fun y hy A1 k p hk => hk A1 p) (fun y hy _ A1 k p hk => ?_) (List.prefix_refl _) (by unfold LIM; simp at hl ⊢; omega) fun A1 p => ?_
                · refine opt_get (a := y) rfl ?_
                  refine opt_get (a := x) rfl ?_
                  rw [(h.pre p).zero, bi_lenT]
                  exact trow_ok ((hd y hy).pre p) fun A2 p2 => hk A2 (p.trans p2)
                · rw [List.filter_eq_self.mpr (fun _ _ => rfl), List.nil_append]
                  show opt (cellL _ A1.length) _
                  rw [cellL_of last_app, opt_s, bis_map, opt_s]
                  show truP _ (.bl (((D.tup es :: ds).map (rowB es.length)).all id)) _
                  rw [tru_b]
                  have ea : ((D.tup es :: ds).map (rowB es.length)).all id = (D.tup es :: ds).all (rowB es.length) := by rw [List.all_map]; rfl
                  rw [ea]
                  have p2 := p.trans (List.prefix_append A1 [Cell.lst ((D.tup es :: ds).map fun d => D.bl (rowB es.length d))])
                  cases hb : (D.tup es :: ds).all (rowB es.length) with
                  | true =>
                    refine ite_f (b := !true) rfl ?_
                    exact q hb _ p2
                  | false =>
                    refine ite_t (b := !false) rfl ?_
                    exact e hb _ p2
              · refine ite_t (b := !decide ((es.length : Int) ≤ 6)) (by rw [decide_eq_false (by omega)]; rfl) ?_
                refine ite_T ?_
                exact e (by rw [decide_eq_false g6, Bool.and_false, Bool.false_and]) A (List.prefix_refl _)
            · refine ite_f (b := decide ((1 : Int) ≤ (es.length : Int))) (decide_eq_false (by omega)) ?_
              refine ite_t (b := !false) rfl ?_
              refine ite_T ?_
              exact e (by rw [decide_eq_false g1, Bool.false_and, Bool.false_and]) A (List.prefix_refl _)
          | _ => cases ht
    · refine ite_t (b := !decide ((ds.length : Int) ≤ 6)) (by rw [decide_eq_false (by omega)]; rfl) ?_
      refine ite_T ?_
      exact e (by unfold tabB; rw [decide_eq_false h6, Bool.and_false, Bool.false_and]) A (List.prefix_refl _)
  · refine ite_f (b := decide ((1 : Int) ≤ (ds.length : Int))) (decide_eq_false (by omega)) ?_
    refine ite_t (b := !false) rfl ?_
    refine ite_T ?_
    exact e (by unfold tabB; rw [decide_eq_false h1, Bool.false_and, Bool.false_and]) A (List.prefix_refl _)
theorem okr_tD {r : List Int} (h : r.length ≤ 60) : OkR A (tD r) := ⟨⟨_, rfl⟩, fun es e => by
  cases e
  refine ⟨by rw [List.length_map]; exact h, fun z hz => ?_⟩
  obtain ⟨k, _, ek⟩ := List.mem_map.mp hz
  subst ek
  exact ⟨_, rfl⟩⟩
theorem row_good {r : List Int} {n : Nat} (h1 : r.length = n) (h2 : ∀ x ∈ r, 0 ≤ x ∧ x < n) : rowB n (tD r) = true := by
  show (decide ((r.map D.int).length = n) && (r.map D.int).all (idxB n)) = true
  rw [decide_eq_true (by rw [List.length_map]; exact h1), Bool.true_and, List.all_map, List.all_eq_true]
  intro x hx
  have := h2 x hx
  show (decide (0 ≤ x) && decide (x < (n : Int))) = true
  rw [decide_eq_true this.1, decide_eq_true this.2]; rfl
theorem tab_good {n : Nat} {tb : List (List Int)} (g : TG n tb) : tabB (tb.map tD) = true := by
  obtain ⟨r0, rs, e, hl⟩ := g.hd
  unfold tabB
  rw [decide_eq_true (by rw [List.length_map]; exact g.l1), decide_eq_true (by rw [List.length_map]; exact g.l6)]
  have er : (r0.map D.int).length = n := by rw [List.length_map]; exact hl
  have al : (tb.map tD).all (rowB n) = true := by
    rw [List.all_eq_true]
    intro d hd
    obtain ⟨r, hr, ed⟩ := List.mem_map.mp hd
    subst ed
    exact row_good (g.row r hr).1 (g.row r hr).2
  subst e
  show (true && true && (decide (1 ≤ (r0.map D.int).length) && decide ((r0.map D.int).length ≤ 6) && (((r0 :: rs).map tD).all (rowB (r0.map D.int).length)))) = true
  rw [er, al, decide_eq_true g.n1, decide_eq_true g.n6]; rfl
theorem values_from_ok {x : D} {n : Nat} {tb : List (List Int)} (ht : TabD A x tb) (g : TG n tb)
    (q : ∀ (A' : AH) (f : Nat) (ns : List Int), A <+: A' → A'[f]? = some (.lst (ns.map .int)) → ns.Pairwise (· < ·) → (∀ k, k ∈ ns ↔ Rch (fT tb) 0 k) → Q (.ref f) A') : sp_values_from [x] A Q E := by
  unfold sp_values_from defSp t_values_from
  refine ⟨rfl, ?_⟩
  simp only [startD_c, startD_e, List.replicate]
  refine wpB_c ?_
  simp only [wpS, wp, wpEs]
  refine opt_get (a := x) rfl ?_
  refine need_table_ok ht (fun d hd => ?_) (by rw [List.length_map]; have := g.l6; omega) (fun _ A1 p1 => ?_) (fun z => by rw [tab_good g] at z; cases z)
  · obtain ⟨r, hr, ed⟩ := List.mem_map.mp hd
    subst ed
    exact okr_tD (by have := (g.row r hr).1; have := g.n6; omega)
  · refine wpB_c ?_
    simp only [wpS, wp, wpEs]
    refine opt_get (a := x) rfl ?_
    refine values_by_ok (ht.pre p1) g fun A2 f l p2 hf o c => ?_
    unfold biP
    simp only [hf]
    rw [intsD_map, opt_s]
    intro ns hp hs
    exact q _ _ ns ((p1.trans p2).trans (List.prefix_append _ _)) last_app (lt_of_le hs (hp.nodup_iff.mpr o.nd)) fun k => hp.mem_iff.trans (o.iff c k)
theorem values_from_bad {x : D} {ds : List D} (h : SeqAt A x ds) (hd : ∀ d ∈ ds, OkR A d) (hl : ds.length ≤ 60) (hb : tabB ds = false) (e : ∀ A', A <+: A' → E x_BadTable [] A') : sp_values_from [x] A Q E := by
  unfold sp_values_from defSp t_values_from
  refine ⟨rfl, ?_⟩
  simp only [startD_c, startD_e, List.replicate]
  refine wpB_c ?_
  simp only [wpS, wp, wpEs]
  refine opt_get (a := x) rfl ?_
  exact need_table_ok h hd hl (fun z => by rw [hb] at z; cases z) fun _ A1 p1 => e A1 p1
theorem values_from_odd {x : D} {n : String} (hn : tyD A x = some (.b n)) (h : (["list", "tuple"].any fun t => subT S (.b n) (.b t)) = false) (e : E x_BadTable [] A) : sp_values_from [x] A Q E := by
  unfold sp_values_from defSp t_values_from
  refine ⟨rfl, ?_⟩
  simp only [startD_c, startD_e, List.replicate]
  refine wpB_c ?_
  simp only [wpS, wp, wpEs]
  refine opt_get (a := x) rfl ?_
  exact need_odd hn h e
end
end Z64
set_option Elab.async false
set_option linter.all false
set_option maxRecDepth 100000
set_option maxHeartbeats 4000000
/-! k64: the law's tables. -/
namespace Z64
open PySem Zw
section
variable {A A0 Ab : AH} {i L C : Nat} {Q : DK} {E : DX}
/-- a number below n -/
def NB (n : Nat) (y : D) : Prop := ∃ k : Int, y = .int k ∧ 0 ≤ k ∧ k < n
theorem nb_list {n : Nat} : ∀ ys : List D, (∀ y ∈ ys, NB n y) → ∃ r : List Int, ys = r.map .int ∧ ∀ x ∈ r, 0 ≤ x ∧ x < n
  | [], _ => ⟨[], rfl, fun x hx => by cases hx⟩
  | y :: ys, h => by
    obtain ⟨k, e, h0, h1⟩ := h y List.mem_cons_self
    obtain ⟨r, er, hr⟩ := nb_list ys fun z hz => h z (List.mem_cons_of_mem _ hz)
    subst e er
    exact ⟨k :: r, rfl, fun x hx => by
      rcases List.mem_cons.mp hx with e | hx
      · subst e; exact ⟨h0, h1⟩
      · exact hr x hx⟩
/-- a row of n numbers below n -/
structure RG (n : Nat) (r : List Int) : Prop where
  len : r.length = n
  rng : ∀ x ∈ r, 0 ≤ x ∧ x < n
theorem RG.rF {n : Nat} {r : List Int} (h : RG n r) {v : Int} (h0 : 0 ≤ v) (h1 : v < n) : 0 ≤ rF r v ∧ rF r v < n := by
  refine h.rng _ ?_
  unfold Z64.rF
  have hl := h.len
  rw [List.getD_eq_getElem?_getD, List.getElem?_eq_getElem (by omega), Option.getD_some]
  exact List.getElem_mem _
theorem idx_li {p : Nat} {r : List Int} {v : Int} (h : A[p]? = some (.lst (r.map .int))) (h0 : 0 ≤ v) (h1 : v < r.length) : idxP (.ref p) (.int v) A Q = Q (.int (rF r v)) A := by
  rw [idx_lst h, atI_row h0 h1, opt_s]
theorem rng_mem {n : Nat} {x : D} (h : x ∈ rngD 0 (n : Int).toNat) : ∃ k : Nat, x = .int (0 + (k : Int)) ∧ k < n := by
  rw [Int.toNat_natCast] at h
  obtain ⟨k, hk, e⟩ := List.mem_map.mp h
  exact ⟨k, e.symm, List.mem_range.mp hk⟩
theorem rng_len {n : Nat} : (rngD 0 (n : Int).toNat).length = n := by
  rw [Int.toNat_natCast]; unfold rngD; rw [List.length_map, List.length_range]
/-- a row that is drawn number by number, here: how each number is made -/
theorem row_comp {gd : AH → Prop} {g : Nat} {δw : DSt} {e : DSt → AH → DK → Prop} {n : Nat} (h : Dr A i L C) (hg : ∀ A', gd A') (hn : n ≤ 6)
    (he : ∀ (k : Nat) (A1 : AH) (K : DK), k < n → Dr A1 i L C → Gro A A1 i L → (∀ (v : Int) (A2 : AH), 0 ≤ v → v < n → Dr A2 i L C → Gro A A2 i L → K (.int v) A2) → e (δw.set g (some (.int (0 + (k : Int))))) A1 K)
    (q : ∀ (A1 : AH) (r : List Int), RG n r → Dr A1 i L C → Gro A A1 i L → Q (.ref A1.length) (A1 ++ [.lst (r.map .int)])) :
    compP gd g δw (fun δ A k => k true A) e Q (rngD 0 (n : Int).toNat) [] A := by
  refine comp_len (fun A' => Dr A' i L C ∧ Gro A A' i L) (NB n) (fun _ _ => hg _) _ [] A (fun x hx A k hk => hk) (fun x hx A1 k hi hk => ?_) (fun y hy => by simp at hy) ⟨h, Gro.refl⟩ (by rw [rng_len]; unfold LIM; simp; omega) fun ys A1 h1 h2 hi => ?_
  · obtain ⟨m, em, hm⟩ := rng_mem hx
    subst em
    exact he m A1 k hm hi.1 hi.2 fun v A2 h0 h1 d2 g2 => hk _ _ ⟨v, rfl, h0, h1⟩ ⟨d2, g2⟩
  · obtain ⟨r, er, hr⟩ := nb_list ys h1
    subst er
    rw [rng_len] at h2
    exact q A1 r ⟨by simpa using h2, hr⟩ hi.1 hi.2
abbrev w0 : Ms := .set 9 (.comp (.rng1 (.var 3)) 6 [6] (.no) (.call 20 (.cons (.var 0) (.cons (.var 3) .nil))))
abbrev w1 : Ms := .ife (.cmp .eq (.var 4) (.int 1)) (.cons (.set 9 (.comp (.rng1 (.var 3)) 6 [6] (.no) (.ifx (.and (.cmp .gt (.var 6) (.int 0)) (.cmp .gt (.call 20 (.cons (.var 0) (.cons (.int 3) .nil))) (.int 0))) (.var 6) (.idx (.var 9) (.var 6))))) .nil) (.nil)
abbrev w2 : Ms := .ife (.cmp .eq (.var 4) (.int 2)) (.cons (.set 9 (.comp (.rng1 (.var 3)) 6 [6] (.no) (.ifx (.and (.cmp .gt (.var 6) (.int 0)) (.cmp .gt (.call 20 (.cons (.var 0) (.cons (.int 4) .nil))) (.int 0))) (.idx (.var 5) (.var 6)) (.idx (.var 9) (.var 6))))) .nil) (.nil)
abbrev w3 : Ms := .ife (.cmp .eq (.var 4) (.int 3)) (.cons (.set 9 (.call 21 (.cons (.var 0) (.cons (.lst (.cons (.bin .mul (.lst (.cons (.idx (.var 9) (.int 0)) .nil)) (.var 3)) (.cons (.lrg1 (.var 3)) (.cons (.bin .add (.lst (.cons (.idx (.var 9) (.int 0)) .nil)) (.lrg2 (.int 1) (.var 3))) .nil)))) .nil)))) .nil) (.nil)
abbrev w4 : Ms := .expr (.meth .append (.var 7) (.cons (.bi .tuple (.cons (.var 9) .nil)) .nil))
theorem rep_one {v : D} : ∀ n : Nat, (List.replicate n [v]).flatten = List.replicate n v
  | 0 => rfl
  | n + 1 => by rw [List.replicate_succ, List.flatten_cons, List.replicate_succ, rep_one n]; rfl
theorem wp_comp {F : Nat → DSp} {S : Nat → Nat → Bool} {it : Ei} {g : Nat} {own : List Nat} {c : Eo} {e : Zw.E} {δ : DSt} {X : DX} :
    (wp F S (.comp it g own c e)).1 δ A Q X = wpI F S it δ A (fun xs gd A1 => compP gd g (wipeD δ own) (fun δ A k => (wpO F S c).2 δ A k fun _ _ _ => False) (fun δ A k => (wp F S e).1 δ A k fun _ _ _ => False) Q xs [] A1) X := by simp only [wp]
theorem rng1_ok {F : Nat → DSp} {S : Nat → Nat → Bool} {v : Nat} {n : Int} {δ : DSt} {K : List D → (AH → Prop) → AH → Prop} {X : DX} (h : getS δ v = some (.int n)) (hn : -(2 ^ 62) ≤ n ∧ n < 2 ^ 62) (q : K (rngD 0 n.toNat) (fun _ => True) A) : wpI F S (.rng1 (.var v)) δ A K X := by
  simp only [wpI, wp]
  exact opt_get h ⟨hn, q⟩
theorem w_eq : t__law_table_1 = .cons w0 (.cons w1 (.cons w2 (.cons w3 (.cons w4 .nil)))) := rfl
/-- what stands while a table is drawn -/
structure Tb (A0 A : AH) (i L C F B n : Nat) (tb : List (List Int)) : Prop where
  dr : Dr A i L C
  gro : Gro A0 A i L
  fnd : A[F]? = some (.lst (tb.map tD))
  bas : ∃ rb, A[B]? = some (.lst (rb.map .int)) ∧ RG n rb
theorem Tb.grow {F B n : Nat} {tb : List (List Int)} (h : Tb A0 A i L C F B n tb) {A' : AH} (d : Dr A' i L C) (g : Gro A A' i L) (nF : F ≠ i ∧ F ≠ L) (nB : B ≠ i ∧ B ≠ L) : Tb A0 A' i L C F B n tb := by
  obtain ⟨rb, hb, gb⟩ := h.bas
  exact ⟨d, h.gro.trans g, g.at h.fnd nF, rb, g.at hb nB, gb⟩
theorem rngD_ints (lo : Int) (n : Nat) : rngD lo n = ((List.range n).map fun (i : Nat) => lo + (i : Int)).map D.int := by
  unfold rngD; rw [List.map_map]; rfl
/-- how a row's number is drawn, or kept -/
theorem elt_ok {n : Nat} {k : Nat} {m : Int} {p : Nat} {r : List Int} {x1 x2 x4 x5 x7 x8 : Option D} {K : DK} {X : DX} (ex : Zw.E) (hex : ∀ (A1 : AH) (K : DK), (∀ v : Int, 0 ≤ v → v < n → K (.int v) A1) → (A1[p]? = some (.lst (r.map .int))) → Dr A1 i L C → Gro A A1 i L → (wp F__law_table S ex).1 [some (.ref i), x1, x2, some (.int n), x4, x5, some (.int (0 + (k : Int))), x7, x8, some (.ref p)] A1 K X)
    (h : Dr A i L C) (hp : A[p]? = some (.lst (r.map .int))) (np : p ≠ i ∧ p ≠ L) (g : RG n r) (hk : k < n) (hm : 0 < m) (hm2 : m < 2 ^ 62)
    (q : ∀ (v : Int) (A2 : AH), 0 ≤ v → v < n → Dr A2 i L C → Gro A A2 i L → K (.int v) A2) :
    (wp F__law_table S (.ifx (.and (.cmp .gt (.var 6) (.int 0)) (.cmp .gt (.call 20 (.cons (.var 0) (.cons (.int m) .nil))) (.int 0))) ex (.idx (.var 9) (.var 6)))).1 [some (.ref i), x1, x2, some (.int n), x4, x5, some (.int (0 + (k : Int))), x7, x8, some (.ref p)] A K X := by
  have keep : ∀ A1, Dr A1 i L C → Gro A A1 i L → (wp F__law_table S (.idx (.var 9) (.var 6))).1 [some (.ref i), x1, x2, some (.int n), x4, x5, some (.int (0 + (k : Int))), x7, x8, some (.ref p)] A1 K X := fun A1 d1 g1 => by
    simp only [wp]
    refine opt_get (a := D.ref p) rfl ?_
    refine opt_get (a := D.int (0 + (k : Int))) rfl ?_
    have hl := g.len
    rw [idx_li (g1.at hp np) (by omega) (by omega)]
    have := g.rF (v := 0 + (k : Int)) (by omega) (by omega)
    exact q _ _ this.1 this.2 d1 g1
  simp only [wp, wpEs, asT] at keep ⊢
  refine opt_get (a := D.int (0 + (k : Int))) rfl ?_
  rw [cmp_gt]
  by_cases h0 : (0 : Int) < 0 + (k : Int)
  · refine ite_t (b := decide ((0 : Int) < 0 + (k : Int))) (decide_eq_true h0) ?_
    refine opt_get (a := D.ref i) rfl ?_
    refine take_k h hm hm2 fun v A1 v0 v1 d1 g1 => ?_
    rw [cmp_gt]
    by_cases hv : (0 : Int) < v
    · refine ite_t (b := decide ((0 : Int) < v)) (decide_eq_true hv) ?_
      exact hex A1 K (fun v h0 h1 => q v A1 h0 h1 d1 g1) (g1.at hp np) d1 g1
    · refine ite_f (b := decide ((0 : Int) < v)) (decide_eq_false hv) ?_
      exact keep A1 d1 g1
  · refine ite_f (b := decide ((0 : Int) < 0 + (k : Int))) (decide_eq_false h0) ?_
    refine (if_neg (by decide)).mpr ?_
    exact keep A h Gro.refl
theorem tab_step {f : DSt → AH → Prop} {r : DK} {b c : DSt → AH → Prop} {x : Nat → List D → DSt → AH → Prop} {F B n : Nat} {way : Int} {tb : List (List Int)} {x1 x2 y6 y8 y9 : Option D}
    (n1 : 1 ≤ n) (n6 : n ≤ 6) (t : Tb A0 A i L C F B n tb) (lt : tb.length < 60) (hF : A0.length ≤ F) (nF : F ≠ i ∧ F ≠ L ∧ F ≠ C) (nB : B ≠ i ∧ B ≠ L) (nBF : B ≠ F)
    (hd : ∀ (A' : AH) (y9 : Option D) (row : List Int), Tb A0 A' i L C F B n (tb ++ [row]) → RG n row → f [some (.ref i), x1, x2, some (.int n), some (.int way), some (.ref B), y6, some (.ref F), y8, y9] A') :
    wpB F__law_table S t__law_table_1 ⟨f, r, b, c, x⟩ [some (.ref i), x1, x2, some (.int n), some (.int way), some (.ref B), y6, some (.ref F), y8, y9] A := by
  have nF' : F ≠ i ∧ F ≠ L := ⟨nF.1, nF.2.1⟩
  have h4 : ∀ (A1 : AH) (p : Nat) (row : List Int), Tb A0 A1 i L C F B n tb → A1[p]? = some (.lst (row.map .int)) → RG n row →
      wpB F__law_table S (.cons w4 .nil) ⟨f, r, b, c, x⟩ [some (.ref i), x1, x2, some (.int n), some (.int way), some (.ref B), y6, some (.ref F), y8, some (.ref p)] A1 := fun A1 p row t1 hp gr => by
    refine wpB_c ?_
    simp only [wpS, wp, wpEs]
    refine opt_get (a := D.ref F) rfl ⟨recv_lst t1.fnd, ?_⟩
    refine opt_get (a := D.ref p) rfl ?_
    rw [bi_tuple hp]
    refine app_lst t1.fnd (by rw [List.length_map]; unfold LIM; omega) ?_
    refine wpB_n ?_
    obtain ⟨rb, hb, gb⟩ := t1.bas
    refine hd _ _ row ⟨t1.dr.setN nF, t1.gro.setN hF, ?_, rb, by rw [List.getElem?_set_ne (Ne.symm nBF)]; exact hb, gb⟩ gr
    rw [set_at t1.fnd, List.map_append]; rfl
  have h3 : ∀ (A1 : AH) (p : Nat) (row : List Int), Tb A0 A1 i L C F B n tb → A1[p]? = some (.lst (row.map .int)) → (p ≠ i ∧ p ≠ L) → RG n row →
      wpB F__law_table S (.cons w3 (.cons w4 .nil)) ⟨f, r, b, c, x⟩ [some (.ref i), x1, x2, some (.int n), some (.int way), some (.ref B), y6, some (.ref F), y8, some (.ref p)] A1 := fun A1 p row t1 hp np gr => by
    refine wpB_c ?_
    simp only [wpS, wp, wpEs, asT]
    refine opt_get (a := D.int way) rfl ?_
    rw [cmp_eqI]
    by_cases hw : way = 3
    · refine ite_t (b := decide (way = 3)) (decide_eq_true hw) ?_
      refine wpB_c ?_
      simp only [wpS, wp, wpEs]
      have hl := gr.len
      have r0 := gr.rF (v := 0) (by omega) (by omega)
      refine opt_get (a := D.ref i) rfl ?_
      refine opt_get (a := D.ref p) rfl ?_
      rw [idx_li hp (by decide) (by omega)]
      refine ⟨by simp [LIM], ?_⟩
      refine opt_get (a := D.int n) rfl ?_
      refine bin_mulL last_app ⟨by omega, by omega, by simp [LIM]; omega⟩ ?_
      refine opt_get (a := D.int n) rfl ?_
      refine ⟨⟨by omega, by omega⟩, ?_⟩
      refine opt_get (a := D.ref p) rfl ?_
      have hp2 : (A1 ++ [Cell.lst [D.int (rF row 0)]] ++ [Cell.lst (List.replicate (n : Int).toNat [D.int (rF row 0)]).flatten] ++ [Cell.lst (rngD 0 (n : Int).toNat)])[p]? = some (.lst (row.map .int)) := at_app (at_app (at_app hp))
      rw [idx_li hp2 (by decide) (by omega)]
      refine ⟨by simp [LIM], ?_⟩
      refine opt_get (a := D.int n) rfl ?_
      refine ⟨⟨by omega, by omega, by omega, by omega⟩, ?_⟩
      refine bin_addL (at_app last_app) last_app (by simp [LIM, rngD]; omega) ?_
      have e1 : (List.replicate (n : Int).toNat [D.int (rF row 0)]).flatten = (List.replicate n (rF row 0)).map .int := by
        rw [Int.toNat_natCast, List.map_replicate, rep_one]
      have e2 : rngD 0 (n : Int).toNat = ((List.range n).map fun (i : Nat) => (0 : Int) + (i : Int)).map .int := by rw [Int.toNat_natCast, rngD_ints]
      have e3 : [D.int (rF row 0)] ++ rngD 1 ((n : Int) - 1).toNat = (rF row 0 :: ((List.range (n - 1)).map fun (i : Nat) => (1 : Int) + (i : Int))).map .int := by
        rw [rngD_ints, List.map_cons, show ((n : Int) - 1).toNat = n - 1 by omega] <;> rfl
      have g1 : RG n (List.replicate n (rF row 0)) := ⟨List.length_replicate, fun x hx => by rw [List.eq_of_mem_replicate hx]; exact r0⟩
      have g2 : RG n ((List.range n).map fun (i : Nat) => (0 : Int) + (i : Int)) := ⟨by simp, fun x hx => by
        obtain ⟨k, hk, ek⟩ := List.mem_map.mp hx
        have := List.mem_range.mp hk
        omega⟩
      have g3 : RG n (rF row 0 :: ((List.range (n - 1)).map fun (i : Nat) => (1 : Int) + (i : Int))) := ⟨by simp; omega, fun x hx => by
        rcases List.mem_cons.mp hx with e | hx
        · rw [e]; exact r0
        · obtain ⟨k, hk, ek⟩ := List.mem_map.mp hx
          have := List.mem_range.mp hk
          omega⟩
      rw [e3]
      have hq1 : (A1 ++ [Cell.lst [D.int (rF row 0)]] ++ [Cell.lst (List.replicate (n : Int).toNat [D.int (rF row 0)]).flatten])[(A1 ++ [Cell.lst [D.int (rF row 0)]]).length]? = some (.lst ((List.replicate n (rF row 0)).map .int)) := by rw [← e1]; exact last_app
      have hq2 : (A1 ++ [Cell.lst [D.int (rF row 0)]] ++ [Cell.lst (List.replicate (n : Int).toNat [D.int (rF row 0)]).flatten] ++ [Cell.lst (rngD 0 (n : Int).toNat)])[(A1 ++ [Cell.lst [D.int (rF row 0)]] ++ [Cell.lst (List.replicate (n : Int).toNat [D.int (rF row 0)]).flatten]).length]? = some (.lst (((List.range n).map fun (i : Nat) => (0 : Int) + (i : Int)).map .int)) := by rw [← e2]; exact last_app
      have pA : A1 <+: A1 ++ [Cell.lst [D.int (rF row 0)]] ++ [Cell.lst (List.replicate (n : Int).toNat [D.int (rF row 0)]).flatten] ++ [Cell.lst (rngD 0 (n : Int).toNat)] := ((List.prefix_append _ _).trans (List.prefix_append _ _)).trans (List.prefix_append _ _)
      have hq1 := at_app (ys := [Cell.lst (rngD 0 (n : Int).toNat)]) hq1
      have l1 : A1.length ≤ (A1 ++ [Cell.lst [D.int (rF row 0)]]).length := by simp
      have l2 : A1.length ≤ (A1 ++ [Cell.lst [D.int (rF row 0)]] ++ [Cell.lst (List.replicate (n : Int).toNat [D.int (rF row 0)]).flatten]).length := by rw [List.length_append, List.length_append]; omega
      generalize (A1 ++ [Cell.lst [D.int (rF row 0)]]).length = P1 at *
      generalize (A1 ++ [Cell.lst [D.int (rF row 0)]] ++ [Cell.lst (List.replicate (n : Int).toNat [D.int (rF row 0)]).flatten]).length = P2 at *
      generalize A1 ++ [Cell.lst [D.int (rF row 0)]] ++ [Cell.lst (List.replicate (n : Int).toNat [D.int (rF row 0)]).flatten] ++ [Cell.lst (rngD 0 (n : Int).toNat)] = A2 at *
      have d2 := pre_dr t1.dr pA
      have gg2 : Gro A1 A2 i L := pre_gro pA
      have dl := t1.dr.lt
      generalize eA3 : A2 ++ [Cell.lst [D.int (rF row 0)]] ++ [Cell.lst (rngD 1 ((n : Int) - 1).toNat)] = A3
      have p3 : A2 <+: A3 := by rw [← eA3]; exact (List.prefix_append _ _).trans (List.prefix_append _ _)
      have h3c : (A3 ++ [Cell.lst ((rF row 0 :: ((List.range (n - 1)).map fun (i : Nat) => (1 : Int) + (i : Int))).map .int)])[A3.length]? = some (.lst ((rF row 0 :: ((List.range (n - 1)).map fun (i : Nat) => (1 : Int) + (i : Int))).map .int)) := last_app
      have p4 := p3.trans (List.prefix_append A3 [Cell.lst ((rF row 0 :: ((List.range (n - 1)).map fun (i : Nat) => (1 : Int) + (i : Int))).map .int)])
      have l3 : A2.length ≤ A3.length := p3.length_le
      have lA : A1.length ≤ A2.length := pA.length_le
      generalize A3.length = P3 at *
      generalize A3 ++ [Cell.lst ((rF row 0 :: ((List.range (n - 1)).map fun (i : Nat) => (1 : Int) + (i : Int))).map .int)] = A4 at *
      refine ⟨by simp [LIM], ?_⟩
      refine pick_new (A0 := A4) (pre_dr d2 p4) (by simp) (by simp) fun y A5 hy d5 _ g5 => ?_
      refine wpB_n ?_
      have t5 := t1.grow d5 ((gg2.trans (pre_gro p4)).trans g5) nF' nB
      simp only [List.mem_cons, List.not_mem_nil, or_false] at hy
      rcases hy with e | e | e
      · subst e; exact h4 A5 P1 _ t5 (g5.at (pre_at p4 hq1) (by omega)) g1
      · subst e; exact h4 A5 P2 _ t5 (g5.at (pre_at p4 hq2) (by omega)) g2
      · subst e; exact h4 A5 P3 _ t5 (g5.at h3c (by omega)) g3
    · refine ite_f (b := decide (way = 3)) (decide_eq_false hw) ?_
      refine wpB_n ?_
      exact h4 A1 p row t1 hp gr
  have h2 : ∀ (A1 : AH) (p : Nat) (row : List Int), Tb A0 A1 i L C F B n tb → A1[p]? = some (.lst (row.map .int)) → (p ≠ i ∧ p ≠ L) → RG n row →
      wpB F__law_table S (.cons w2 (.cons w3 (.cons w4 .nil))) ⟨f, r, b, c, x⟩ [some (.ref i), x1, x2, some (.int n), some (.int way), some (.ref B), y6, some (.ref F), y8, some (.ref p)] A1 := fun A1 p row t1 hp np gr => by
    refine wpB_c ?_
    simp only [wpS, asT]
    refine (show (wp F__law_table S (.cmp .eq (.var 4) (.int 2))).2 _ _ _ _ from ?_)
    simp only [wp]
    refine opt_get (a := D.int way) rfl ?_
    rw [cmp_eqI]
    by_cases hw : way = 2
    · refine ite_t (b := decide (way = 2)) (decide_eq_true hw) ?_
      refine wpB_c ?_
      simp only [wpS]
      rw [wp_comp]
      refine rng1_ok (n := n) rfl ⟨by omega, by omega⟩ ?_
      obtain ⟨rb, hb, gb⟩ := t1.bas
      refine row_comp t1.dr (fun _ => True.intro) n6 (fun k A2 K hk d2 g2 hK => ?_) fun A2 row2 gr2 d2 g2 => ?_
      · refine elt_ok (.idx (.var 5) (.var 6)) (fun A3 K3 q3 _ d3 g3 => ?_) d2 (g2.at hp np) np gr hk (by decide) (by decide) fun v A3 v0 v1 d3 g3 => hK v A3 v0 v1 d3 (g2.trans g3)
        simp only [wp]
        refine opt_get (a := D.ref B) rfl ?_
        refine opt_get (a := D.int (0 + (k : Int))) rfl ?_
        have hl := gb.len
        rw [idx_li ((g2.trans g3).at hb nB) (by omega) (by omega)]
        have := gb.rF (v := 0 + (k : Int)) (by omega) (by omega)
        exact q3 _ this.1 this.2
      · refine wpB_n ?_
        have dl := d2.lt
        exact h3 _ A2.length row2 (t1.grow (d2.app _) (g2.apps _) nF' nB) last_app (by omega) gr2
    · refine ite_f (b := decide (way = 2)) (decide_eq_false hw) ?_
      refine wpB_n ?_
      exact h3 A1 p row t1 hp np gr
  have h1 : ∀ (A1 : AH) (p : Nat) (row : List Int), Tb A0 A1 i L C F B n tb → A1[p]? = some (.lst (row.map .int)) → (p ≠ i ∧ p ≠ L) → RG n row →
      wpB F__law_table S (.cons w1 (.cons w2 (.cons w3 (.cons w4 .nil)))) ⟨f, r, b, c, x⟩ [some (.ref i), x1, x2, some (.int n), some (.int way), some (.ref B), y6, some (.ref F), y8, some (.ref p)] A1 := fun A1 p row t1 hp np gr => by
    refine wpB_c ?_
    refine (show (wp F__law_table S (.cmp .eq (.var 4) (.int 1))).2 _ _ _ _ from ?_)
    simp only [wp]
    refine opt_get (a := D.int way) rfl ?_
    rw [cmp_eqI]
    by_cases hw : way = 1
    · refine ite_t (b := decide (way = 1)) (decide_eq_true hw) ?_
      refine wpB_c ?_
      simp only [wpS]
      rw [wp_comp]
      refine rng1_ok (n := n) rfl ⟨by omega, by omega⟩ ?_
      refine row_comp t1.dr (fun _ => True.intro) n6 (fun k A2 K hk d2 g2 hK => ?_) fun A2 row2 gr2 d2 g2 => ?_
      · refine elt_ok (.var 6) (fun A3 K3 q3 _ d3 g3 => ?_) d2 (g2.at hp np) np gr hk (by decide) (by decide) fun v A3 v0 v1 d3 g3 => hK v A3 v0 v1 d3 (g2.trans g3)
        simp only [wp]
        refine opt_get (a := D.int (0 + (k : Int))) rfl ?_
        exact q3 _ (by omega) (by omega)
      · refine wpB_n ?_
        have dl := d2.lt
        exact h2 _ A2.length row2 (t1.grow (d2.app _) (g2.apps _) nF' nB) last_app (by omega) gr2
    · refine ite_f (b := decide (way = 1)) (decide_eq_false hw) ?_
      refine wpB_n ?_
      exact h2 A1 p row t1 hp np gr
  rw [w_eq]
  refine wpB_c ?_
  simp only [wpS, wp, wpEs, wpI, wpO]
  refine opt_get (a := D.int n) rfl ?_
  refine ⟨⟨by omega, by omega⟩, ?_⟩
  refine row_comp t.dr (fun _ => True.intro) n6 (fun k A2 K hk d2 g2 hK => ?_) fun A2 row2 gr2 d2 g2 => ?_
  · refine opt_get (a := D.ref i) rfl ?_
    refine opt_get (a := D.int n) rfl ?_
    exact take_k d2 (by omega) (by omega) fun v A3 v0 v1 d3 g3 => hK v A3 v0 v1 d3 (g2.trans g3)
  · have dl := d2.lt
    exact h1 _ A2.length row2 (t.grow (d2.app _) (g2.apps _) nF' nB) last_app (by omega) gr2
end
end Z64
set_option Elab.async false
set_option linter.all false
set_option maxRecDepth 100000
set_option maxHeartbeats 4000000
/-! k64: the law's tables and changes. -/
namespace Z64
open PySem Zw
section
variable {A A0 Ab : AH} {i L C : Nat} {Q : DK} {E : DX}
theorem tab_loop {b : WS} {e : DE} {F B n : Nat} {way : Int} {x1 x2 : Option D} (hb : ∀ e δ A, wpB F__law_table S t__law_table_1 e δ A → b e δ A)
    (n1 : 1 ≤ n) (n6 : n ≤ 6) (hF : A0.length ≤ F) (nF : F ≠ i ∧ F ≠ L ∧ F ≠ C) (nB : B ≠ i ∧ B ≠ L) (nBF : B ≠ F) :
    ∀ (xs : List D) (A : AH) (tb : List (List Int)) (y6 y8 y9 : Option D), Tb A0 A i L C F B n tb → tb.length + xs.length ≤ 6 → (∀ r ∈ tb, RG n r) →
      (∀ (A' : AH) (tb' : List (List Int)) (y6 y8 y9 : Option D), Tb A0 A' i L C F B n tb' → tb'.length = tb.length + xs.length → (∀ r ∈ tb', RG n r) → e.nx [some (.ref i), x1, x2, some (.int n), some (.int way), some (.ref B), y6, some (.ref F), y8, y9] A') →
      frP (fun _ => True) (.nm 8) b e xs [some (.ref i), x1, x2, some (.int n), some (.int way), some (.ref B), y6, some (.ref F), y8, y9] A
  | [], A, tb, y6, y8, y9, t, hl, g, hd => ⟨True.intro, hd A tb _ _ _ t (by simp) g⟩
  | x :: xs, A, tb, y6, y8, y9, t, hl, g, hd => by
    refine ⟨True.intro, hb _ _ _ ?_⟩
    rw [List.length_cons] at hl
    refine tab_step n1 n6 t (by omega) hF nF nB nBF fun A' y9' row t' gr => ?_
    refine tab_loop hb n1 n6 hF nF nB nBF xs A' (tb ++ [row]) _ _ _ t' (by rw [List.length_append, List.length_singleton]; omega) (fun r hr => ?_) fun A2 tb2 y6 y8 y9 t2 l2 g2 => ?_
    · rcases List.mem_append.mp hr with hr | hr
      · exact g r hr
      · rw [List.mem_singleton.mp hr]; exact gr
    · refine hd A2 tb2 _ _ _ t2 ?_ g2
      rw [l2, List.length_append, List.length_singleton, List.length_cons]; omega
theorem law_table_ok (h : Dr A i L C) (q : ∀ (A' : AH) (T n : Nat) (tb : List (List Int)), Dr A' i L C → Gro A A' i L → A'[T]? = some (.lst (tb.map tD)) → (T ≠ i ∧ T ≠ L) → TG n tb → Q (.ref T) A') : sp__law_table [.ref i, .int 6, .int 6] A Q E := by
  unfold sp__law_table defSp t__law_table
  refine ⟨rfl, ?_⟩
  simp only [startD_c, startD_e, List.replicate]
  refine wpB_c ?_
  simp only [wpS, wp, wpEs]
  refine opt_get (a := D.ref i) rfl ?_
  refine opt_get (a := D.int 6) rfl ?_
  refine take_k h (by decide) (by decide) fun m A1 m0 m1 d1 g1 => ?_
  rw [bin_add]
  refine opt_get (a := D.ref i) rfl ?_
  refine take_k d1 (by decide) (by decide) fun way A2 _ _ d2 g2 => ?_
  refine ⟨by simp [LIM], rfl, ?_⟩
  obtain ⟨n, en⟩ : ∃ n : Nat, 1 + m = (n : Int) := ⟨(1 + m).toNat, by omega⟩
  rw [en]
  simp only [wpGs, wpG, List.set]
  refine wpB_c ?_
  simp only [wpS]
  rw [wp_comp]
  refine rng1_ok (n := n) rfl ⟨by omega, by omega⟩ ?_
  refine row_comp d2 (fun _ => True.intro) (by omega) (fun k A3 K hk d3 g3 hK => ?_) fun A3 rb gb d3 g3 => ?_
  · simp only [wp, wpEs]
    refine opt_get (a := D.ref i) rfl ?_
    refine opt_get (a := D.int n) rfl ?_
    exact take_k d3 (by omega) (by omega) fun v A4 v0 v1 d4 g4 => hK v A4 v0 v1 d4 (g3.trans g4)
  have hB : (A3 ++ [Cell.lst (rb.map .int)])[A3.length]? = some (.lst (rb.map .int)) := last_app
  have d4 := d3.app [Cell.lst (rb.map .int)]
  have g4 := ((g1.trans g2).trans g3).apps [Cell.lst (rb.map .int)]
  have l4 : A.length ≤ A3.length := ((g1.trans g2).trans g3).1
  have dl := h.lt
  have lB : A3.length < (A3 ++ [Cell.lst (rb.map .int)]).length := by simp
  have nB : A3.length ≠ i ∧ A3.length ≠ L := by omega
  generalize A3.length = B at *
  generalize A3 ++ [Cell.lst (rb.map .int)] = A4 at *
  refine wpB_c ?_
  simp only [wpS, wp, wpEs]
  refine ⟨by simp [LIM], ?_⟩
  have hF : (A4 ++ [Cell.lst []])[A4.length]? = some (.lst (([] : List (List Int)).map tD)) := last_app
  refine wpB_c ?_
  simp only [wpS, wp, wpEs, wpI]
  refine opt_get (a := D.ref i) rfl ?_
  refine opt_get (a := D.int 6) rfl ?_
  have d5 := d4.app [Cell.lst []]
  refine take_k d5 (by decide) (by decide) fun m2 A6 m20 m21 d6 g6 => ?_
  rw [bin_add]
  refine ⟨⟨by omega, by omega⟩, ?_⟩
  have lF : A.length ≤ A4.length := g4.1
  have t6 : Tb A A6 i L C A4.length B n [] := ⟨d6, (g4.apps [Cell.lst []]).trans g6, g6.at hF (by omega), rb, g6.at (at_app hB) nB, gb⟩
  have lx : (rngD 0 (1 + m2).toNat).length = (1 + m2).toNat := by unfold rngD; rw [List.length_map, List.length_range]
  refine tab_loop (fun _ _ _ z => z) (by omega) (by omega) lF (by omega) nB (by omega) _ A6 [] _ _ _ t6 (by rw [lx]; simp; omega) (fun r hr => by cases hr) fun A7 tb y6 y8 y9 t7 l7 g7 => ?_
  refine wpB_c ?_
  simp only [wpS, wp]
  refine opt_get (a := D.ref A4.length) rfl ?_
  rw [lx, List.length_nil] at l7
  exact q A7 A4.length n tb t7.dr t7.gro t7.fnd (by omega) ⟨by omega, by omega, by omega, by omega, fun r hr => ⟨(g7 r hr).len, (g7 r hr).rng⟩⟩
/-- the nine kinds of changes -/
def nine (m k : Int) (c : Ch) : List Ch := [⟨some m, some (0, some m, some m)⟩, ⟨none, none⟩, ⟨none, some (0, some m, none)⟩, ⟨none, some (0, none, some m)⟩, ⟨some m, some (0, none, none)⟩, ⟨none, some (0, none, none)⟩, ⟨some k, some (1, none, some (k + 2))⟩, ⟨none, some (0 - 1, some k, none)⟩, c]
theorem nine_good {m k : Int} {c : Ch} (g : Good c) : ∀ d ∈ nine m k c, Good d := by
  intro d hd
  simp only [nine, List.mem_cons, List.not_mem_nil, or_false] at hd
  rcases hd with e | e | e | e | e | e | e | e | e <;> subst e <;> first | exact g | exact good_p (.inl rfl) | exact good_p (.inr (by simp [tripB, pD, vD, isValD, isIntD, isNon]))
theorem chs_loop {b : WS} {e : DE} {F : Nat} {k : Int} (hb : ∀ e δ A, wpB F__law_some_changes S t__law_some_changes_1 e δ A → b e δ A) (hF : A0.length ≤ F) (nF : F ≠ i ∧ F ≠ L ∧ F ≠ C) :
    ∀ (xs : List D) (A : AH) (cs : List Ch) (y3 y4 : Option D), Dr A i L C → Gro A0 A i L → A[F]? = some (.lst (cs.map cD)) → cs.length + xs.length ≤ 6 → (∀ c ∈ cs, Good c) →
      (∀ (A' : AH) (cs' : List Ch) (y3 y4 : Option D), Dr A' i L C → Gro A0 A' i L → A'[F]? = some (.lst (cs'.map cD)) → cs'.length = cs.length + xs.length → (∀ c ∈ cs', Good c) → e.nx [some (.ref i), some (.ref F), some (.int k), y3, y4] A') →
      frP (fun _ => True) (.nm 3) b e xs [some (.ref i), some (.ref F), some (.int k), y3, y4] A
  | [], A, cs, y3, y4, h, gr, hf, hl, g, hd => ⟨True.intro, hd A cs _ _ h gr hf (by simp) g⟩
  | x :: xs, A, cs, y3, y4, h, gr, hf, hl, g, hd => by
    refine ⟨True.intro, hb _ _ _ ?_⟩
    rw [List.length_cons] at hl
    unfold t__law_some_changes_1
    refine wpB_c ?_
    simp only [wpS, wp, wpEs]
    refine opt_get (a := D.int k) rfl ?_
    refine opt_get (a := D.ref i) rfl ?_
    refine take_k h (by decide) (by decide) fun m A1 m0 m1 d1 g1 => ?_
    rw [bin_add]
    have nF' : F ≠ i ∧ F ≠ L := ⟨nF.1, nF.2.1⟩
    have hf1 := g1.at hf nF'
    refine wpB_c ?_
    simp only [wpS, wp, wpEs]
    refine opt_get (a := D.ref F) rfl ⟨recv_lst hf1, ?_⟩
    refine opt_get (a := D.ref i) rfl ?_
    refine opt_get (a := D.int (k + m)) rfl ?_
    refine opt_get (a := D.int (k + m)) rfl ?_
    refine opt_get (a := D.int (k + m)) rfl ?_
    refine ⟨by simp [LIM], by simp [LIM], by simp [LIM], ?_⟩
    refine opt_get (a := D.int (k + m)) rfl ?_
    refine ⟨by simp [LIM], by simp [LIM], ?_⟩
    refine opt_get (a := D.int (k + m)) rfl ?_
    refine ⟨by simp [LIM], by simp [LIM], ?_⟩
    refine opt_get (a := D.int (k + m)) rfl ?_
    refine ⟨by simp [LIM], by simp [LIM], by simp [LIM], by simp [LIM], ?_⟩
    refine opt_get (a := D.int k) rfl ?_
    refine opt_get (a := D.int k) rfl ?_
    rw [bin_add]
    refine ⟨by simp [LIM], by simp [LIM], ?_⟩
    rw [bin_sub]
    refine opt_get (a := D.int k) rfl ?_
    refine ⟨by simp [LIM], by simp [LIM], ?_⟩
    refine opt_get (a := D.ref i) rfl ?_
    refine a_change_ok d1 fun c A2 gc d2 g2 => ?_
    refine ⟨by simp [LIM], ?_⟩
    refine pick_new (A0 := A2) d2 (by simp) (by simp) fun y A3 hy d3 _ g3 => ?_
    obtain ⟨c2, hc2, ec2⟩ : ∃ c2, c2 ∈ nine (k + m) k c ∧ y = cD c2 := by
      have e : y ∈ (nine (k + m) k c).map cD := hy
      obtain ⟨c2, h1, h2⟩ := List.mem_map.mp e
      exact ⟨c2, h1, h2.symm⟩
    subst ec2
    have gc2 := nine_good gc c2 hc2
    have hf3 := g3.at (g2.at hf1 nF') nF'
    refine app_lst hf3 (by rw [List.length_map]; unfold LIM; omega) ?_
    refine wpB_n ?_
    have hf4 : (A3.set F (.lst (cs.map cD ++ [cD c2])))[F]? = some (.lst ((cs ++ [c2]).map cD)) := by rw [set_at hf3, List.map_append]; rfl
    refine chs_loop hb hF nF xs _ (cs ++ [c2]) _ _ (d3.setN nF) (((gr.trans g1).trans (g2.trans g3)).setN hF) hf4 (by rw [List.length_append, List.length_singleton]; omega) (fun c hc => ?_) fun A5 cs5 y3 y4 d5 g5 h5 l5 gg5 => ?_
    · rcases List.mem_append.mp hc with hc | hc
      · exact g c hc
      · rw [List.mem_singleton.mp hc]; exact gc2
    · refine hd A5 cs5 _ _ d5 g5 h5 ?_ gg5
      rw [l5, List.length_append, List.length_singleton, List.length_cons]; omega
theorem some_changes_ok (h : Dr A i L C) (q : ∀ (A' : AH) (p : Nat) (cs : List Ch) (s : Option Int), Dr A' i L C → Gro A A' i L → A'[p]? = some (.lst (cs.map cD)) → (p ≠ i ∧ p ≠ L) → (∀ c ∈ cs, Good c) → 1 ≤ cs.length → cs.length ≤ 6 → Q (.tup [.ref p, vD s]) A') : sp__law_some_changes [.ref i] A Q E := by
  unfold sp__law_some_changes defSp t__law_some_changes
  refine ⟨rfl, ?_⟩
  simp only [startD_c, startD_e, List.replicate]
  have dl := h.lt
  refine wpB_c ?_
  simp only [wpS, wp, wpEs]
  refine ⟨by simp [LIM], ?_⟩
  refine opt_get (a := D.ref i) rfl ?_
  refine take_k (h.app [Cell.lst []]) (by decide) (by decide) fun m A1 m0 m1 d1 g1 => ?_
  rw [bin_sub]
  refine ⟨rfl, ?_⟩
  simp only [setAll, List.set]
  have hf : A1[A.length]? = some (.lst (([] : List Ch).map cD)) := g1.at last_app (by omega)
  refine wpB_c ?_
  simp only [wpS, wp, wpEs, wpI]
  refine opt_get (a := D.ref i) rfl ?_
  refine take_k d1 (by decide) (by decide) fun m2 A2 m20 m21 d2 g2 => ?_
  rw [bin_add]
  refine ⟨⟨by omega, by omega⟩, ?_⟩
  have lx : (rngD 0 (1 + m2).toNat).length = (1 + m2).toNat := by unfold rngD; rw [List.length_map, List.length_range]
  refine chs_loop (A0 := A) (fun _ _ _ z => z) (Nat.le_refl _) (by omega) _ A2 [] _ _ d2 (((Gro.app _).trans g1).trans g2) (g2.at hf (by omega)) (by rw [lx]; simp; omega) (fun c hc => by cases hc) fun A3 cs y3 y4 d3 g3 h3 l3 gg3 => ?_
  rw [lx, List.length_nil] at l3
  refine wpB_c ?_
  simp only [wpS, wp, wpEs]
  refine opt_get (a := D.ref A.length) rfl ?_
  refine opt_get (a := D.ref i) rfl ?_
  refine opt_get (a := D.int (m - 2)) rfl ?_
  refine opt_get (a := D.int (m - 2)) rfl ?_
  rw [bin_add]
  refine ⟨by simp [LIM], ?_⟩
  refine pick_new (A0 := A3) d3 (by simp) (by simp) fun y A4 hy d4 _ g4 => ?_
  obtain ⟨s, es⟩ : ∃ s, y = vD s := by
    simp only [List.mem_cons, List.not_mem_nil, or_false] at hy
    rcases hy with e | e | e | e | e <;> subst e
    · exact ⟨none, rfl⟩
    · exact ⟨none, rfl⟩
    · exact ⟨some _, rfl⟩
    · exact ⟨some _, rfl⟩
    · exact ⟨some _, rfl⟩
  subst es
  refine ⟨by simp [LIM], ?_⟩
  exact q A4 A.length cs s d4 (g3.trans g4) (g4.at h3 (by omega)) (by omega) gg3 (by omega) (by omega)
end
end Z64
set_option Elab.async false
set_option linter.all false
set_option maxRecDepth 100000
set_option maxHeartbeats 4000000
/-! k64: the law's own values of changes. -/
namespace Z64
open PySem Zw
section
variable {A A0 Ab : AH} {i L C : Nat} {Q : DK} {E : DX}
def fC (cs : List Ch) : List (Option Int → Option Int) := cs.map actV
theorem app_v {F : Nat} {l : List (Option Int)} {v : Option Int} (h : A[F]? = some (.lst (l.map vD))) (hl : l.length < LIM) (q : Q .non (A.set F (.lst ((l ++ [v]).map vD)))) : methP .append (.ref F) [vD v] A Q := by
  refine app_lst h (by rw [List.length_map]; exact hl) ?_
  rw [List.map_append] at q
  exact q
theorem ad_len {α : Type} [DecidableEq α] {v : α} {l : List α} {f : α → α} : (ad1 v l f).length ≤ l.length + 1 := by
  unfold ad1; split
  · omega
  · rw [List.length_append, List.length_singleton]; omega
theorem add_len {α : Type} [DecidableEq α] (v : α) : ∀ (gs : List (α → α)) (l : List α), (gs.foldl (ad1 v) l).length ≤ l.length + gs.length
  | [], l => by simp
  | g :: gs, l => by
    have h1 := add_len v gs (ad1 v l g)
    have h2 := ad_len (v := v) (l := l) (f := g)
    rw [List.foldl_cons, List.length_cons]; omega
theorem crow_loop {b : WS} {e : DE} {F : Nat} {x0 x1 x3 : Option D} {v : Option Int} {gd : AH → Prop} (hb : ∀ e δ A, wpB F__law_values S t__law_values_1 e δ A → b e δ A) (hgd : ∀ A', But F Ab A' → gd A') :
    ∀ (cs : List Ch) (A : AH) (l : List (Option Int)) (y5 : Option D), (∀ c ∈ cs, Good c) → But F Ab A → A[F]? = some (.lst (l.map vD)) → l.length + cs.length ≤ 1000 →
      (∀ (A' : AH) (y5 : Option D), But F Ab A' → A'[F]? = some (.lst (((fC cs).foldl (ad1 v) l).map vD)) → e.nx [x0, x1, some (.ref F), x3, some (vD v), y5] A') →
      frP gd (.nm 5) b e (cs.map cD) [x0, x1, some (.ref F), x3, some (vD v), y5] A
  | [], A, l, y5, g, bt, hF, hl, hd => ⟨hgd A bt, hd A y5 bt hF⟩
  | c :: cs, A, l, y5, g, bt, hF, hl, hd => by
    rw [List.map_cons]
    refine ⟨hgd A bt, hb _ _ _ ?_⟩
    rw [List.length_cons] at hl
    unfold t__law_values_1
    have gc := g c List.mem_cons_self
    refine wpB_c ?_
    simp only [wpS, wp, wpEs, asT]
    refine opt_get (a := cD c) rfl ?_
    refine opt_get (a := vD v) rfl ?_
    refine acted_ok gc ?_
    refine opt_get (a := D.ref F) rfl ?_
    rw [notin_v hF]
    have ll := ad_len (v := v) (l := l) (f := actV c)
    by_cases hin : actV c v ∈ l
    · refine ite_f (b := !decide (actV c v ∈ l)) (by simp [hin]) ?_
      refine wpB_n (wpB_n ?_)
      have e1 : ad1 v l (actV c) = l := by unfold ad1; rw [if_pos hin]
      exact crow_loop hb hgd cs A l _ (fun d hd => g d (List.mem_cons_of_mem _ hd)) bt hF (by omega) fun A' y5 b' h' => hd A' y5 b' (by
        show A'[F]? = some (.lst (((fC cs).foldl (ad1 v) (ad1 v l (actV c))).map vD))
        rw [e1]; exact h')
    · refine ite_t (b := !decide (actV c v ∈ l)) (by simp [hin]) ?_
      have e1 : ad1 v l (actV c) = l ++ [actV c v] := by unfold ad1; rw [if_neg hin]
      refine wpB_c ?_
      simp only [wpS, wp, wpEs]
      refine opt_get (a := D.ref F) rfl ⟨recv_lst hF, ?_⟩
      refine opt_get (a := cD c) rfl ?_
      refine opt_get (a := vD v) rfl ?_
      refine acted_ok gc ?_
      refine app_v hF (by unfold LIM; omega) ?_
      refine wpB_n (wpB_n ?_)
      exact crow_loop hb hgd cs _ _ _ (fun d hd => g d (List.mem_cons_of_mem _ hd)) bt.put (set_at hF) (by rw [List.length_append, List.length_singleton]; omega) fun A' y5 b' h' => hd A' y5 b' (by
        show A'[F]? = some (.lst (((fC cs).foldl (ad1 v) (ad1 v l (actV c))).map vD))
        rw [e1]; exact h')
theorem cval_loop {b : WS} {e : DE} {F P : Nat} {cs : List Ch} {x1 x3 : Option D} {gd : AH → Prop} (hb : ∀ e δ A, wpB F__law_values S t__law_values_2 e δ A → b e δ A) (g : ∀ c ∈ cs, Good c) (lc : cs.length ≤ 6) (hgd : ∀ A', But F Ab A' → gd A') (hP : Ab[P]? = some (.lst (cs.map cD))) (hPF : P ≠ F) :
    ∀ (vs : List (Option Int)) (A : AH) (l : List (Option Int)) (y4 y5 : Option D), But F Ab A → A[F]? = some (.lst (l.map vD)) → l.length + 6 * vs.length ≤ 900 →
      (∀ (A' : AH) (y4 y5 : Option D), But F Ab A' → A'[F]? = some (.lst ((vs.foldl (addL (fC cs)) l).map vD)) → e.nx [some (.ref P), x1, some (.ref F), x3, y4, y5] A') →
      frP gd (.nm 4) b e (vs.map vD) [some (.ref P), x1, some (.ref F), x3, y4, y5] A
  | [], A, l, y4, y5, bt, hF, hl, hd => ⟨hgd A bt, hd A y4 y5 bt hF⟩
  | v :: vs, A, l, y4, y5, bt, hF, hl, hd => by
    rw [List.map_cons]
    refine ⟨hgd A bt, hb _ _ _ ?_⟩
    rw [List.length_cons] at hl
    unfold t__law_values_2
    refine wpB_c ?_
    simp only [wpS, wp, wpEs, wpI]
    refine opt_get (a := D.ref P) rfl ?_
    have hP' : A[P]? = some (.lst (cs.map cD)) := by rw [bt.2 P hPF]; exact hP
    rw [itP_lst hP']
    refine crow_loop (fun _ _ _ z => z) (fun A' b' => cellL_of (by rw [b'.2 P hPF]; exact hP)) cs A l y5 g bt hF (by omega) fun A' y5' b' h' => ?_
    have ll := add_len v (fC cs) l
    have lf : (fC cs).length = cs.length := List.length_map _
    refine cval_loop hb g lc hgd hP hPF vs A' (addL (fC cs) l v) _ _ b' h' ?_ hd
    unfold addL
    omega
theorem clap_loop {b : WS} {e : DE} {F P : Nat} {cs : List Ch} {s : Option Int} {x1 : Option D} (hb : ∀ e δ A, wpB F__law_values S t__law_values_3 e δ A → b e δ A) (g : ∀ c ∈ cs, Good c) (lc : cs.length ≤ 6) (hP : A0[P]? = some (.lst (cs.map cD))) (hPF : A0.length ≤ F)
    (hr : ∀ (A' : AH) (l : List (Option Int)), A0 <+: A' → Ok (fC cs) s l → 6 < l.length → e.rt .non A')
    (hd : ∀ (A' : AH) (y3 y4 y5 : Option D), A0 <+: A' → A'[F]? = some (.lst ((lapsL (fC cs) s 8).map vD)) → (lapsL (fC cs) s 8).length ≤ 6 → e.nx [some (.ref P), x1, some (.ref F), y3, y4, y5] A') :
    ∀ (k m : Nat) (A : AH) (y3 y4 y5 : Option D), m + k = 8 → A0 <+: A → A[F]? = some (.lst ((lapsL (fC cs) s m).map vD)) → (lapsL (fC cs) s m).length ≤ 6 →
      frP (fun _ => True) (.nm 3) b e ((List.range' m k).map fun (i : Nat) => D.int (0 + (i : Int))) [some (.ref P), x1, some (.ref F), y3, y4, y5] A
  | 0, m, A, y3, y4, y5, hm, hp, hF, hl => by
    have e0 : m = 8 := by omega
    subst e0
    exact ⟨True.intro, hd A _ _ _ hp hF hl⟩
  | k + 1, m, A, y3, y4, y5, hm, hp, hF, hl => by
    rw [List.range'_succ, List.map_cons]
    refine ⟨True.intro, hb _ _ _ ?_⟩
    unfold t__law_values_3
    have hlt := lt_of_at hP
    refine wpB_c ?_
    simp only [wpS, wp, wpEs, wpI]
    refine opt_get (a := D.ref F) rfl ?_
    rw [bi_list hF, itP_lst last_app]
    have nF : A.length ≠ F := by have := lt_of_at hF; omega
    refine cval_loop (Ab := A ++ [Cell.lst ((lapsL (fC cs) s m).map vD)]) (fun _ _ _ z => z) g lc (fun A' b' => cellL_of (by rw [b'.2 _ nF]; exact last_app)) (at_app (pre_at hp hP)) (by omega) _ _ (lapsL (fC cs) s m) _ _ But.rfl' (at_app hF) (by omega) fun A' y4 y5 b' h' => ?_
    have h' : A'[F]? = some (.lst ((lapsL (fC cs) s (m + 1)).map vD)) := h'
    have hp' := but_pre (hp.trans (List.prefix_append _ _)) hPF b'
    refine wpB_c ?_
    simp only [wpS, wp, wpEs, asT]
    refine opt_get (a := D.ref F) rfl ?_
    rw [bi_lenL h', cmp_gt, List.length_map]
    by_cases h6 : (lapsL (fC cs) s (m + 1)).length ≤ 6
    · refine ite_f (b := decide ((6 : Int) < ((lapsL (fC cs) s (m + 1)).length : Int))) (decide_eq_false (by omega)) ?_
      exact clap_loop hb g lc hP hPF hr hd k (m + 1) A' _ _ _ (by omega) hp' h' h6
    · refine ite_t (b := decide ((6 : Int) < ((lapsL (fC cs) s (m + 1)).length : Int))) (decide_eq_true (by omega)) ?_
      exact hr A' _ hp' (laps_ok (m + 1)) (by omega)
theorem law_values_ok {P : Nat} {cs : List Ch} {s : Option Int} (hP : A[P]? = some (.lst (cs.map cD))) (g : ∀ c ∈ cs, Good c) (lc : cs.length ≤ 6)
    (q1 : ∀ (A' : AH) (l : List (Option Int)), A <+: A' → Ok (fC cs) s l → 6 < l.length → Q .non A')
    (q2 : ∀ (A' : AH) (f : Nat) (l : List (Option Int)), A <+: A' → A.length ≤ f → A'[f]? = some (.lst (l.map vD)) → Ok (fC cs) s l → Clo (fC cs) l → l.length ≤ 6 → Q (.ref f) A') : sp__law_values [.ref P, vD s] A Q E := by
  unfold sp__law_values defSp t__law_values
  refine ⟨rfl, ?_⟩
  simp only [startD_c, startD_e, List.replicate]
  refine wpB_c ?_
  simp only [wpS, wp, wpEs]
  refine opt_get (a := vD s) rfl ?_
  refine ⟨by simp [LIM], ?_⟩
  refine wpB_c ?_
  simp only [wpS, wp, wpEs, wpI]
  refine ⟨⟨by decide, by decide⟩, ?_⟩
  have er : rngD 0 (8 : Int).toNat = (List.range' 0 8).map fun (i : Nat) => D.int (0 + (i : Int)) := rfl
  rw [er]
  refine clap_loop (A0 := A) (F := A.length) (fun _ _ _ z => z) g lc hP (Nat.le_refl _) (fun A' l p o h6 => q1 A' l p o h6) (fun A' y3 y4 y5 p hF h6 => ?_) 8 0 _ _ _ _ (by omega) (List.prefix_append _ _) last_app (by simp [lapsL])
  refine wpB_c ?_
  simp only [wpS, wp]
  refine opt_get (a := D.ref A.length) rfl ?_
  refine q2 A' _ _ p (Nat.le_refl _) hF (laps_ok 8) ?_ h6
  rcases laps_clo (fs := fC cs) (s := s) 8 with c | c
  · exact c
  · omega
end
end Z64
set_option Elab.async false
set_option linter.all false
set_option maxRecDepth 100000
set_option maxHeartbeats 4000000
/-! k64: table_of. -/
namespace Z64
open PySem Zw
section
variable {A A0 Ab : AH} {i L C : Nat} {Q : DK} {E : DX}
/-- the values that are told: the first one, None, then the numbers ascending -/
def VS (cs : List Ch) (s : Option Int) (vals : List (Option Int)) : Prop := ∃ (nn : List (Option Int)) (ns : List Int), vals = s :: (nn ++ ns.map some) ∧ nn.Nodup ∧ (∀ x, x ∈ nn ↔ x = none ∧ Rch (fC cs) s none ∧ s ≠ none) ∧ ns.Pairwise (· < ·) ∧ ∀ k, k ∈ ns ↔ Rch (fC cs) s (some k) ∧ s ≠ some k
theorem nones_uniq {l m : List (Option Int)} (hl : l.Nodup) (hm : m.Nodup) (h1 : ∀ x ∈ l, x = none) (h2 : ∀ x ∈ m, x = none) (h : none ∈ l ↔ none ∈ m) : l = m := by
  have one : ∀ {l : List (Option Int)}, l.Nodup → (∀ x ∈ l, x = none) → l = [] ∨ l = [none] := fun {l} nd hx => by
    cases l with
    | nil => exact .inl rfl
    | cons a l =>
      have ha := hx a List.mem_cons_self
      subst ha
      cases l with
      | nil => exact .inr rfl
      | cons b l =>
        have hb := hx b (List.mem_cons_of_mem _ List.mem_cons_self)
        subst hb
        simp at nd
  rcases one hl h1 with e | e <;> rcases one hm h2 with e2 | e2 <;> subst e e2 <;> first | rfl | (simp at h)
theorem VS.uniq {cs : List Ch} {s : Option Int} {v w : List (Option Int)} (h : VS cs s v) (k : VS cs s w) : v = w := by
  obtain ⟨nn, ns, e, h1, h2, h3, h4⟩ := h
  obtain ⟨mm, ms, e', k1, k2, k3, k4⟩ := k
  have e1 : nn = mm := nones_uniq h1 k1 (fun x hx => ((h2 x).mp hx).1) (fun x hx => ((k2 x).mp hx).1) ((h2 none).trans (k2 none).symm)
  have e2 : ns = ms := srt_uniq h3 k3 fun x => (h4 x).trans (k4 x).symm
  rw [e, e', e1, e2]
theorem VS.mem {cs : List Ch} {s : Option Int} {v : List (Option Int)} (h : VS cs s v) (x : Option Int) : x ∈ v ↔ Rch (fC cs) s x := by
  obtain ⟨nn, ns, e, h1, h2, h3, h4⟩ := h
  subst e
  rw [List.mem_cons, List.mem_append, h2]
  constructor
  · rintro (e | ⟨e, hr, _⟩ | hx)
    · subst e; exact .base
    · subst e; exact hr
    · obtain ⟨k, hk, e⟩ := List.mem_map.mp hx
      subst e
      exact ((h4 k).mp hk).1
  · intro hr
    by_cases hs : x = s
    · exact .inl hs
    · right
      cases x with
      | none => exact .inl ⟨rfl, hr, fun z => hs z.symm⟩
      | some k => exact .inr (List.mem_map.mpr ⟨k, (h4 k).mpr ⟨hr, fun z => hs z.symm⟩, rfl⟩)
/-- told from a list of what is reached -/
theorem VS.of {cs : List Ch} {s : Option Int} {r : List (Option Int)} {ns : List Int} (o : Ok (fC cs) s (s :: r)) (c : Clo (fC cs) (s :: r)) (hp : ns.Perm (r.filterMap id)) (hs : ns.Pairwise (· ≤ ·)) : VS cs s (s :: (r.filter (fun v => v.isNone) ++ ns.map some)) := by
  have nd := List.nodup_cons.mp o.nd
  have ndr : (r.filterMap id).Nodup := by
    have : ∀ r : List (Option Int), r.Nodup → (r.filterMap id).Nodup := by
      intro r
      induction r with
      | nil => intro _; exact List.nodup_nil
      | cons a r ih =>
        intro h
        rw [List.nodup_cons] at h
        cases a with
        | none => exact ih h.2
        | some k =>
          show (k :: r.filterMap id).Nodup
          rw [List.nodup_cons]
          refine ⟨fun hk => h.1 ?_, ih h.2⟩
          obtain ⟨x, hx, ex⟩ := List.mem_filterMap.mp hk
          have ex : x = some k := ex
          rw [← ex]; exact hx
    exact this r nd.2
  refine ⟨_, ns, rfl, nd.2.filter _, fun x => ?_, lt_of_le hs (hp.nodup_iff.mpr ndr), fun k => ?_⟩
  · rw [List.mem_filter]
    constructor
    · rintro ⟨h1, h2⟩
      have e : x = none := by cases x <;> first | rfl | cases h2
      subst e
      exact ⟨rfl, o.rc _ (List.mem_cons_of_mem _ h1), fun z => nd.1 (z ▸ h1)⟩
    · rintro ⟨e, h1, h2⟩
      subst e
      refine ⟨?_, rfl⟩
      rcases List.mem_cons.mp ((o.iff c none).mpr h1) with z | z
      · exact absurd z.symm h2
      · exact z
  · rw [hp.mem_iff, List.mem_filterMap]
    constructor
    · rintro ⟨x, hx, ex⟩
      have ex : x = some k := ex
      subst ex
      exact ⟨o.rc _ (List.mem_cons_of_mem _ hx), fun z => nd.1 (z ▸ hx)⟩
    · rintro ⟨h1, h2⟩
      refine ⟨some k, ?_, rfl⟩
      rcases List.mem_cons.mp ((o.iff c (some k)).mpr h1) with z | z
      · exact absurd z.symm h2
      · exact z
theorem fil_none : ∀ r : List (Option Int), ((r.map vD).filter isNon).map id = (r.filter (fun v => v.isNone)).map vD
  | [] => rfl
  | none :: r => by
    have := fil_none r
    rw [List.map_id] at this ⊢
    show (D.non :: (r.map vD).filter isNon) = (none :: r.filter (fun v => v.isNone)).map vD
    rw [this]; rfl
  | some k :: r => fil_none r
theorem fil_some : ∀ r : List (Option Int), ((r.map vD).filter fun d => !isNon d).map id = (r.filterMap id).map D.int
  | [] => rfl
  | none :: r => fil_some r
  | some k :: r => by
    have := fil_some r
    rw [List.map_id] at this ⊢
    show (D.int k :: (r.map vD).filter fun d => !isNon d) = (k :: r.filterMap id).map D.int
    rw [this]; rfl
theorem fm_len : ∀ r : List (Option Int), (r.filterMap id).length ≤ r.length := fun r => List.length_filterMap_le _ _
/-! ### what comes, found by the package -/
theorem trow_loop {b : WS} {e : DE} {F : Nat} {x0 x1 y6 y7 : Option D} {at_ : Nat} {v : Option Int} {gd : AH → Prop} (hb : ∀ e δ A, wpB F_table_of S t_table_of_1 e δ A → b e δ A) (hgd : ∀ A', But F Ab A' → gd A') :
    ∀ (cs : List Ch) (A : AH) (l : List (Option Int)) (y4 y5 : Option D), But F Ab A → A[F]? = some (.lst (l.map vD)) → l[at_]? = some v → l.length + cs.length ≤ 1000 →
      (∀ (A' : AH) (y4 y5 : Option D), But F Ab A' → A'[F]? = some (.lst (((fC cs).foldl (ad1 v) l).map vD)) → e.nx [x0, x1, some (.ref F), some (.int at_), y4, y5, y6, y7] A') →
      frP gd (.nm 4) b e (cs.map cD) [x0, x1, some (.ref F), some (.int at_), y4, y5, y6, y7] A
  | [], A, l, y4, y5, bt, hF, hv, hl, hd => ⟨hgd A bt, hd A y4 y5 bt hF⟩
  | c :: cs, A, l, y4, y5, bt, hF, hv, hl, hd => by
    rw [List.map_cons]
    refine ⟨hgd A bt, hb _ _ _ ?_⟩
    rw [List.length_cons] at hl
    unfold t_table_of_1
    refine wpB_c ?_
    simp only [wpS, wp, wpEs]
    refine opt_get (a := cD c) rfl ?_
    refine opt_get (a := D.ref F) rfl ?_
    refine opt_get (a := D.int at_) rfl ?_
    rw [idx_lst hF, atI_nat, List.getElem?_map, hv]
    refine (show sp_act_by [cD c, vD v] A _ _ from ?_)
    refine act_by_ok ?_
    have ll := ad_len (v := v) (l := l) (f := actV c)
    refine wpB_c ?_
    simp only [wpS, wp, wpEs, asT]
    refine opt_get (a := vD (actV c v)) rfl ?_
    refine opt_get (a := D.ref F) rfl ?_
    rw [notin_v hF]
    by_cases hin : actV c v ∈ l
    · refine ite_f (b := !decide (actV c v ∈ l)) (by simp [hin]) ?_
      refine wpB_n (wpB_n ?_)
      have e1 : ad1 v l (actV c) = l := by unfold ad1; rw [if_pos hin]
      exact trow_loop hb hgd cs A l _ _ bt hF hv (by omega) fun A' y4 y5 b' h' => hd A' y4 y5 b' (by
        show A'[F]? = some (.lst (((fC cs).foldl (ad1 v) (ad1 v l (actV c))).map vD))
        rw [e1]; exact h')
    · refine ite_t (b := !decide (actV c v ∈ l)) (by simp [hin]) ?_
      have e1 : ad1 v l (actV c) = l ++ [actV c v] := by unfold ad1; rw [if_neg hin]
      refine wpB_c ?_
      simp only [wpS, wp, wpEs]
      refine opt_get (a := D.ref F) rfl ⟨recv_lst hF, ?_⟩
      refine opt_get (a := vD (actV c v)) rfl ?_
      refine app_v hF (by unfold LIM; omega) ?_
      refine wpB_n (wpB_n ?_)
      exact trow_loop hb hgd cs _ _ _ _ bt.put (set_at hF) (at_app hv) (by rw [List.length_append, List.length_singleton]; omega) fun A' y4 y5 b' h' => hd A' y4 y5 b' (by
        show A'[F]? = some (.lst (((fC cs).foldl (ad1 v) (ad1 v l (actV c))).map vD))
        rw [e1]; exact h')
theorem twh_loop {b : WS} {e : DE} {F P : Nat} {cs : List Ch} {s : Option Int} {x1 y6 y7 : Option D} (hb : ∀ e δ A, wpB F_table_of S t_table_of_2 e δ A → b e δ A) (lc : cs.length ≤ 6) (hP : A0[P]? = some (.lst (cs.map cD))) (hPF : A0.length ≤ F)
    (hr : ∀ (A' : AH) (δ : DSt) (l : List (Option Int)), A0 <+: A' → Ok (fC cs) s l → 6 < l.length → e.ex x_TooMany [.int 6] δ A')
    (hd : ∀ (A' : AH) (l : List (Option Int)) (y3 y4 y5 : Option D), A0 <+: A' → A'[F]? = some (.lst (l.map vD)) → Ok (fC cs) s l → Clo (fC cs) l → l.length ≤ 6 → e.nx [some (.ref P), x1, some (.ref F), y3, y4, y5, y6, y7] A') :
    ∀ (k at_ : Nat) (A : AH) (l : List (Option Int)) (y4 y5 : Option D), at_ + k = 8 → at_ ≤ 6 → A0 <+: A → A[F]? = some (.lst (l.map vD)) → l.length ≤ 6 → Upto (fC cs) s at_ l →
      whP (wp F_table_of S (.cmp .lt (.var 3) (.bi .len (.cons (.var 2) .nil)))).2 b e k [some (.ref P), x1, some (.ref F), some (.int at_), y4, y5, y6, y7] A
  | 0, at_, A, l, y4, y5, hm, h6, hp, hF, hl, u => by omega
  | k + 1, at_, A, l, y4, y5, hm, h6, hp, hF, hl, u => by
    show (wp F_table_of S (.cmp .lt (.var 3) (.bi .len (.cons (.var 2) .nil)))).2 _ _ _ _
    simp only [wp, wpEs]
    refine opt_get (a := D.int at_) rfl ?_
    refine opt_get (a := D.ref F) rfl ?_
    rw [bi_lenL hF, cmp_lt, List.length_map]
    by_cases hlt : at_ < l.length
    · refine ite_t (b := decide ((at_ : Int) < (l.length : Int))) (decide_eq_true (by omega)) ?_
      refine hb _ _ _ ?_
      unfold t_table_of_2
      obtain ⟨v, ev⟩ : ∃ v, l[at_]? = some v := ⟨l[at_], List.getElem?_eq_getElem hlt⟩
      have hltP := lt_of_at hP
      refine wpB_c ?_
      simp only [wpS, wp, wpEs, wpI]
      refine opt_get (a := D.ref P) rfl ?_
      rw [itP_lst (pre_at hp hP)]
      refine trow_loop (Ab := A) (fun _ _ _ z => z) (fun A' b' => cellL_of (by rw [b'.2 P (by omega)]; exact pre_at hp hP)) cs A l _ _ But.rfl' hF ev (by omega) fun A' y4 y5 b' h' => ?_
      have h' : A'[F]? = some (.lst ((addL (fC cs) l v).map vD)) := h'
      have u' := u.addL ev
      have hp' := but_pre hp hPF b'
      refine wpB_c ?_
      simp only [wpS, wp, wpEs, asT]
      refine opt_get (a := D.ref F) rfl ?_
      rw [bi_lenL h', cmp_gt, List.length_map]
      by_cases h7 : (addL (fC cs) l v).length ≤ 6
      · refine ite_f (b := decide ((6 : Int) < ((addL (fC cs) l v).length : Int))) (decide_eq_false (by omega)) ?_
        refine wpB_n ?_
        refine wpB_c ?_
        simp only [wpS, wp]
        refine opt_get (a := D.int at_) rfl ?_
        rw [bin_add]
        have := twh_loop hb lc hP hPF hr hd k (at_ + 1) A' _ y4 y5 (by omega) (by omega) hp' h' h7 u'
        exact this
      · refine ite_t (b := decide ((6 : Int) < ((addL (fC cs) l v).length : Int))) (decide_eq_true (by omega)) ?_
        refine wpB_c ?_
        simp only [wpS, wp]
        exact hr A' _ _ hp' u'.toOk (by omega)
    · refine ite_f (b := decide ((at_ : Int) < (l.length : Int))) (decide_eq_false (by omega)) ?_
      exact hd A l _ _ _ hp hF u.toOk (u.clo (by omega)) hl
end
end Z64
set_option Elab.async false
set_option linter.all false
set_option maxRecDepth 100000
set_option maxHeartbeats 4000000
/-! k64: table_of, its end. -/
namespace Z64
open PySem Zw
section
variable {A A0 Ab : AH} {i L C : Nat} {Q : DK} {E : DX}
/-- a comprehension without a test, its items known -/
theorem comp_map {α : Type} {gd : AH → Prop} {g : Nat} {δw : DSt} {e : DSt → AH → DK → Prop} {Q : DK} (emb h : α → D) (Inv : AH → Prop) (hg : ∀ A, Inv A → gd A) : ∀ (cs : List α) (acc : List D) (A : AH),
    (∀ c ∈ cs, ∀ A k, Inv A → (∀ A', Inv A' → k (h c) A') → e (δw.set g (some (emb c))) A k) → Inv A → acc.length + cs.length ≤ LIM →
    (∀ A', Inv A' → Q (.ref A'.length) (A' ++ [.lst (acc ++ cs.map h)])) → compP gd g δw (fun δ A k => k true A) e Q (cs.map emb) acc A
  | [], acc, A, he, hi, hl, q => ⟨hg A hi, by simpa using q A hi⟩
  | c :: cs, acc, A, he, hi, hl, q => by
    have hl2 : acc.length < LIM := by rw [List.length_cons] at hl; omega
    rw [List.map_cons]
    refine ⟨hg A hi, ?_⟩
    refine (show (if true = true then _ else _) from ?_)
    rw [if_pos rfl]
    refine he c List.mem_cons_self A _ hi fun A2 hi2 => ⟨hl2, comp_map emb h Inv hg cs (acc ++ [h c]) A2 (fun z hz => he z (List.mem_cons_of_mem _ hz)) hi2 (by rw [List.length_append, List.length_singleton]; rw [List.length_cons] at hl; omega) fun A3 h3 => ?_⟩
    have := q A3 h3
    simpa using this
theorem scal_v : ∀ vs : List (Option Int), (vs.map vD).mapM scal = some vs
  | [] => rfl
  | v :: vs => by
    rw [List.map_cons, List.mapM_cons, scal_v vs]
    cases v <;> rfl
theorem ixP_v {x : D} {vals : List (Option Int)} {w : Option Int} (h : itemsD A x = some (vals.map vD)) (hm : w ∈ vals) (hl : vals.length ≤ LIM) (q : Q (.int (vals.idxOf w : Nat)) A) : ixP x (vD w) A Q := by
  unfold ixP
  rw [h, opt_s, scal_v, opt_s]
  have e : scal (vD w) = some w := by cases w <;> rfl
  rw [e, opt_s]
  exact ⟨⟨hm, hl⟩, q⟩
theorem ixR_l {V : Nat} {xs : List D} (h : A[V]? = some (.lst xs)) : ixR false (.ref V) A := by
  unfold ixR
  rw [if_neg (by decide)]
  show opt (cellW A V) _
  rw [cellW_of h]
  exact True.intro
/-- a row of the table -/
def rowD (vals : List (Option Int)) (c : Ch) : D := .tup (vals.map fun v => .int (vals.idxOf (actV c v) : Nat))
abbrev tailT : Mb := .cons (.setC 6 (.seq (.sl (.var 2) (.yes (.int 1)) (.no))) 5 [5] (.yes (.cmp .is (.var 5) (.non))) (.var 5)) (.cons (.set 6 (.bin .add (.var 6) (.bi .sorted (.cons (.comp (.seq (.sl (.var 2) (.yes (.int 1)) (.no))) 5 [5] (.yes (.cmp .isnot (.var 5) (.non))) (.var 5)) .nil)))) (.cons (.set 7 (.bin .add (.lst (.cons (.var 1) .nil)) (.var 6))) (.cons (.ret (.tup (.cons (.tpx (.var 7)) (.cons (.comp (.seq (.var 0)) 4 [4] (.no) (.bi .tuple (.cons (.comp (.seq (.var 7)) 5 [5] (.no) (.ixo false (.var 7) (.call 11 (.cons (.var 4) (.cons (.var 5) .nil))))) .nil))) .nil)))) .nil)))
theorem tailT_ok {f : DSt → AH → Prop} {b c : DSt → AH → Prop} {x : Nat → List D → DSt → AH → Prop} {F P : Nat} {cs : List Ch} {s : Option Int} {r : List (Option Int)} {y3 y4 y5 y6 y7 : Option D}
    (hP : A[P]? = some (.lst (cs.map cD))) (hF : A[F]? = some (.lst ((s :: r).map vD))) (o : Ok (fC cs) s (s :: r)) (cl : Clo (fC cs) (s :: r)) (lr : r.length ≤ 5) (lc : cs.length ≤ 6)
    (q : ∀ (A' : AH) (T : Nat) (vals : List (Option Int)), A <+: A' → A'[T]? = some (.lst (cs.map (rowD vals))) → VS cs s vals → vals.length ≤ 20 → Q (.tup [.tux (vals.map vD), .ref T]) A') :
    wpB F_table_of S tailT ⟨f, Q, b, c, x⟩ [some (.ref P), some (vD s), some (.ref F), y3, y4, y5, y6, y7] A := by
  unfold tailT
  refine wpB_c ?_
  simp only [wpS, wp, wpEs, wpI, wpO, asT]
  refine opt_get (a := D.ref F) rfl ?_
  refine (show slP (.ref F) (some 1) none A _ from ?_)
  rw [sl_lst hF, cut_drop (by decide) (by rw [List.length_map, List.length_cons]; omega)]
  rw [show ((s :: r).map vD).drop (1 : Int).toNat = r.map vD from rfl]
  refine (show itP (.ref A.length) (A ++ [Cell.lst (r.map vD)]) _ from ?_)
  have hD : (A ++ [Cell.lst (r.map vD)])[A.length]? = some (.lst (r.map vD)) := last_app
  have p1 := List.prefix_append A [Cell.lst (r.map vD)]
  generalize A.length = D1 at *
  generalize A ++ [Cell.lst (r.map vD)] = A1 at *
  rw [itP_lst hD]
  refine comp_fil isNon id (cellL_of hD) _ [] (fun y hy k hk => ?_) (fun y hy _ k hk => ?_) (by rw [List.length_map]; unfold LIM; simp; omega) ?_
  · refine opt_get (a := y) rfl ?_
    rw [cmp_isN]
    exact hk
  · exact opt_get (a := y) rfl hk
  rw [List.nil_append, fil_none]
  have l1 : (r.filter (fun v => v.isNone)).length ≤ r.length := List.length_filter_le _ _
  have hN : (A1 ++ [Cell.lst ((r.filter (fun v => v.isNone)).map vD)])[A1.length]? = some (.lst ((r.filter (fun v => v.isNone)).map vD)) := last_app
  have p2 := p1.trans (List.prefix_append A1 [Cell.lst ((r.filter (fun v => v.isNone)).map vD)])
  generalize A1.length = N at *
  generalize A1 ++ [Cell.lst ((r.filter (fun v => v.isNone)).map vD)] = A2 at *
  have hF2 := pre_at p2 hF
  refine wpB_c ?_
  simp only [wpS, wp, wpEs, wpI, wpO, asT]
  refine opt_get (a := D.ref N) rfl ?_
  refine opt_get (a := D.ref F) rfl ?_
  refine (show slP (.ref F) (some 1) none A2 _ from ?_)
  rw [sl_lst hF2, cut_drop (by decide) (by rw [List.length_map, List.length_cons]; omega)]
  rw [show ((s :: r).map vD).drop (1 : Int).toNat = r.map vD from rfl]
  refine (show itP (.ref A2.length) (A2 ++ [Cell.lst (r.map vD)]) _ from ?_)
  have hD2 : (A2 ++ [Cell.lst (r.map vD)])[A2.length]? = some (.lst (r.map vD)) := last_app
  have p3 := List.prefix_append A2 [Cell.lst (r.map vD)]
  generalize A2.length = D2 at *
  generalize A2 ++ [Cell.lst (r.map vD)] = A3 at *
  rw [itP_lst hD2]
  refine comp_fil (fun d => !isNon d) id (cellL_of hD2) _ [] (fun y hy k hk => ?_) (fun y hy _ k hk => ?_) (by rw [List.length_map]; unfold LIM; simp; omega) ?_
  · refine opt_get (a := y) rfl ?_
    rw [cmp_isntN]
    exact hk
  · exact opt_get (a := y) rfl hk
  rw [List.nil_append, fil_some]
  have l2 := fm_len r
  have hI : (A3 ++ [Cell.lst ((r.filterMap id).map D.int)])[A3.length]? = some (.lst ((r.filterMap id).map D.int)) := last_app
  refine (show biP .sorted [.ref A3.length] (A3 ++ [Cell.lst ((r.filterMap id).map D.int)]) _ from ?_)
  unfold biP
  simp only [hI]
  rw [intsD_map, opt_s]
  intro ns hp hs
  have vs := VS.of o cl hp hs
  have l3 : ns.length ≤ 5 := by have := hp.length_eq; omega
  have p4 := p3.trans ((List.prefix_append A3 [Cell.lst ((r.filterMap id).map D.int)]).trans (List.prefix_append _ [Cell.lst (ns.map D.int)]))
  have hS : (A3 ++ [Cell.lst ((r.filterMap id).map D.int)] ++ [Cell.lst (ns.map D.int)])[(A3 ++ [Cell.lst ((r.filterMap id).map D.int)]).length]? = some (.lst (ns.map D.int)) := last_app
  generalize (A3 ++ [Cell.lst ((r.filterMap id).map D.int)]).length = SS at *
  generalize A3 ++ [Cell.lst ((r.filterMap id).map D.int)] ++ [Cell.lst (ns.map D.int)] = A4 at *
  refine (show binP .add (.ref N) (.ref SS) A4 _ from ?_)
  refine bin_addL (pre_at p4 hN) hS (by rw [List.length_map, List.length_map]; unfold LIM; omega) ?_
  have e1 : (r.filter (fun v => v.isNone)).map vD ++ ns.map D.int = (r.filter (fun v => v.isNone) ++ ns.map some).map vD := by rw [List.map_append, ints_v]
  rw [e1]
  generalize hnn : r.filter (fun v => v.isNone) ++ ns.map some = os at *
  have lo : os.length ≤ 10 := by rw [← hnn, List.length_append, List.length_map]; omega
  have hO : (A4 ++ [Cell.lst (os.map vD)])[A4.length]? = some (.lst (os.map vD)) := last_app
  have p5 := (p2.trans p4).trans (List.prefix_append A4 [Cell.lst (os.map vD)])
  generalize A4.length = O at *
  generalize A4 ++ [Cell.lst (os.map vD)] = A5 at *
  refine wpB_c ?_
  simp only [wpS, wp, wpEs]
  refine opt_get (a := vD s) rfl ?_
  refine ⟨by simp [LIM], ?_⟩
  refine opt_get (a := D.ref O) rfl ?_
  refine bin_addL last_app (at_app hO) (by rw [List.length_map]; unfold LIM; simp; omega) ?_
  have e2 : [vD s] ++ os.map vD = (s :: os).map vD := rfl
  rw [e2]
  have hV : (A5 ++ [Cell.lst [vD s]] ++ [Cell.lst ((s :: os).map vD)])[(A5 ++ [Cell.lst [vD s]]).length]? = some (.lst ((s :: os).map vD)) := last_app
  have p6 := (p5.trans (List.prefix_append A5 [Cell.lst [vD s]])).trans (List.prefix_append _ [Cell.lst ((s :: os).map vD)])
  have lv : (s :: os).length ≤ 11 := by rw [List.length_cons]; omega
  generalize (A5 ++ [Cell.lst [vD s]]).length = V at *
  generalize A5 ++ [Cell.lst [vD s]] ++ [Cell.lst ((s :: os).map vD)] = A6 at *
  generalize s :: os = vals at *
  refine wpB_c ?_
  simp only [wpS, wp, wpEs, wpI, wpO]
  refine opt_get (a := D.ref V) rfl ?_
  refine (show opt (cellL A6 V) _ from ?_)
  refine opt_get (a := vals.map vD) (cellL_of hV) ?_
  refine opt_get (a := D.ref P) rfl ?_
  rw [itP_lst (pre_at p6 hP)]
  refine comp_map cD (rowD vals) (fun A' => A6 <+: A') (fun A' p => cellL_of (pre_at p (pre_at p6 hP))) cs [] A6 (fun d hd A7 k p7 hk => ?_) (List.prefix_refl _) (by unfold LIM; simp; omega) fun A7 p7 => ?_
  · refine opt_get (a := D.ref V) rfl ?_
    have hV7 := pre_at p7 hV
    rw [itP_lst hV7]
    refine comp_map vD (fun v => .int (vals.idxOf (actV d v) : Nat)) (fun A' => A7 <+: A') (fun A' p => cellL_of (pre_at p hV7)) vals [] A7 (fun v hv A8 k8 p8 hk8 => ?_) (List.prefix_refl _) (by unfold LIM; simp; omega) fun A8 p8 => ?_
    · refine opt_get (a := D.ref V) rfl ⟨ixR_l (pre_at p8 hV7), ?_⟩
      refine opt_get (a := cD d) rfl ?_
      refine opt_get (a := vD v) rfl ?_
      refine act_by_ok ?_
      refine ixP_v (cellL_of (pre_at p8 hV7)) ?_ (by unfold LIM; omega) (hk8 _ p8)
      exact (vs.mem _).mpr (((vs.mem v).mp hv).step (List.mem_map.mpr ⟨d, hd, rfl⟩))
    · rw [List.nil_append]
      refine (show biP .tuple [.ref A8.length] (A8 ++ [Cell.lst (vals.map fun v => D.int (vals.idxOf (actV d v) : Nat))]) _ from ?_)
      rw [bi_tuple last_app]
      exact hk _ ((p7.trans p8).trans (List.prefix_append _ _))
  · rw [List.nil_append]
    refine ⟨by simp [LIM], ?_⟩
    exact q _ _ vals ((p6.trans p7).trans (List.prefix_append _ _)) last_app vs (by omega)
theorem table_of_ok {P : Nat} {cs : List Ch} {s : Option Int} (hP : A[P]? = some (.lst (cs.map cD))) (g : ∀ c ∈ cs, Good c) (l1 : 1 ≤ cs.length) (lc : cs.length ≤ 6)
    (e : ∀ (A' : AH) (l : List (Option Int)), A <+: A' → Ok (fC cs) s l → 6 < l.length → E x_TooMany [.int 6] A')
    (q : ∀ (A' : AH) (T : Nat) (vals l : List (Option Int)), A <+: A' → A'[T]? = some (.lst (cs.map (rowD vals))) → VS cs s vals → vals.length ≤ 20 → Ok (fC cs) s l → Clo (fC cs) l → l.length ≤ 6 → Q (.tup [.tux (vals.map vD), .ref T]) A') : sp_table_of [.ref P, vD s] A Q E := by
  unfold sp_table_of defSp t_table_of
  refine ⟨rfl, ?_⟩
  simp only [startD_c, startD_e, List.replicate]
  refine wpB_c ?_
  simp only [wpS, wp, wpEs]
  refine opt_get (a := D.ref P) rfl ?_
  refine need_changes_ok (isSeq_ref hP).1 (fun _ => ⟨cs.map cD, cellL_of hP, by rw [List.length_map]; unfold LIM; omega, fun y hy => ?_⟩) (fun A1 xs _ _ _ p1 => ?_) (fun A1 p1 z => ?_)
  · obtain ⟨c, _, ec⟩ := List.mem_map.mp hy
    subst ec
    exact ok3_c
  · have hP1 := pre_at p1 hP
    refine wpB_c ?_
    simp only [wpS, wp, wpEs, asT]
    refine opt_get (a := D.ref P) rfl ?_
    rw [bi_lenL hP1, cmp_le, List.length_map]
    refine ite_t (b := decide ((1 : Int) ≤ (cs.length : Int))) (decide_eq_true (by omega)) ?_
    rw [cmp_le]
    refine ite_f (b := !decide ((cs.length : Int) ≤ 6)) (by rw [decide_eq_true (by omega)]; rfl) ?_
    refine wpB_n ?_
    refine wpB_c ?_
    simp only [wpS, wp, wpEs, asT]
    refine opt_get (a := vD s) rfl ?_
    refine val_ok okD_v ?_
    rw [isVal_v, tru_b]
    refine ite_f (b := !true) rfl ?_
    refine wpB_n ?_
    refine wpB_c ?_
    simp only [wpS, wp, wpEs]
    refine opt_get (a := vD s) rfl ?_
    refine ⟨by simp [LIM], ?_⟩
    refine ⟨rfl, ?_⟩
    simp only [setAll, List.set]
    refine wpB_c ?_
    simp only [wpS]
    refine ⟨8, ?_⟩
    refine twh_loop (A0 := A1) (F := A1.length) (s := s) (fun _ _ _ z => z) lc hP1 (Nat.le_refl _) (fun A2 δ l p2 o h6 => e A2 l (p1.trans p2) o h6) (fun A2 l y3 y4 y5 p2 hF o cl h6 => ?_) 8 0 _ [s] _ _ (by omega) (by omega) (List.prefix_append _ _) last_app (by simp) Upto.start
    obtain ⟨r, er⟩ := o.hd
    subst er
    exact tailT_ok (pre_at p2 hP1) hF o cl (by rw [List.length_cons] at h6; omega) lc fun A3 T vals p3 hT vs lv => q A3 T vals _ ((p1.trans p2).trans p3) hT vs lv o cl h6
  · rcases z with z | ⟨xs, h1, h2⟩
    · rw [(isSeq_ref hP).2] at z; cases z
    · rw [show itemsD A (.ref P) = some (cs.map cD) from cellL_of hP] at h1
      cases h1
      rw [all_good g] at h2; cases h2
end
end Z64
set_option Elab.async false
set_option linter.all false
set_option maxRecDepth 100000
set_option maxHeartbeats 4000000
/-! k64: the table is right. -/
namespace Z64
open PySem Zw
section
variable {A A0 Ab : AH} {i L C : Nat} {Q : DK} {E : DX}
theorem nodup_len {α : Type} [DecidableEq α] : ∀ (l m : List α), l.Nodup → (∀ x ∈ l, x ∈ m) → l.length ≤ m.length
  | [], m, _, _ => Nat.zero_le _
  | a :: l, m, nd, h => by
    rw [List.nodup_cons] at nd
    have ha := h a List.mem_cons_self
    have h1 := nodup_len l (m.erase a) nd.2 fun x hx => (List.mem_erase_of_ne (fun e => nd.1 (by rw [← e]; exact hx))).mpr (h x (List.mem_cons_of_mem _ hx))
    have h2 := List.length_erase_of_mem ha
    have h3 := List.length_pos_of_mem ha
    rw [List.length_cons]; omega
theorem Ok.le {fs : List (Option Int → Option Int)} {s : Option Int} {l m : List (Option Int)} (h : Ok fs s l) (k : Ok fs s m) (c : Clo fs m) : l.length ≤ m.length := nodup_len l m h.nd fun x hx => (k.iff c x).mpr (h.rc x hx)
theorem toP_is {n : Nat} : ∀ ks : List Int, (ks.map D.int).mapM (toP A (n + 1)) = some (ks.map PyData.int)
  | [] => rfl
  | k :: ks => by rw [List.map_cons, List.mapM_cons, toP_is ks]; rfl
theorem rowD_ints {vals : List (Option Int)} {c : Ch} : ∃ ks : List Int, rowD vals c = .tup (ks.map .int) := ⟨vals.map fun v => (vals.idxOf (actV c v) : Nat), by unfold rowD; rw [List.map_map]; rfl⟩
theorem toP_rows {vals : List (Option Int)} {n : Nat} : ∀ cs : List Ch, ∃ ps, (cs.map (rowD vals)).mapM (toP A (n + 2)) = some ps
  | [] => ⟨[], rfl⟩
  | c :: cs => by
    obtain ⟨ps, e⟩ := toP_rows (n := n) (vals := vals) cs
    obtain ⟨ks, ek⟩ := rowD_ints (vals := vals) (c := c)
    refine ⟨.tuple (ks.map PyData.int) :: ps, ?_⟩
    rw [List.map_cons, List.mapM_cons, e, ek]
    have : toP A (n + 2) (.tup (ks.map .int)) = some (.tuple (ks.map PyData.int)) := by
      show ((ks.map D.int).mapM (toP A (n + 1))).map PyData.tuple = _
      rw [toP_is]; rfl
    rw [this]; rfl
theorem eq_rows {p q : Nat} {vals : List (Option Int)} {cs : List Ch} {k : Bool → Prop} (h1 : A[p]? = some (.lst (cs.map (rowD vals)))) (h2 : A[q]? = some (.lst (cs.map (rowD vals)))) : cmpP .eq (.ref p) (.ref q) A k = k true := by
  show eqP A (.ref p) (.ref q) k = _
  obtain ⟨ps, e⟩ := toP_rows (A := A) (n := 9) (vals := vals) cs
  have a1 : ∀ {p : Nat}, A[p]? = some (.lst (cs.map (rowD vals))) → toP A 12 (.ref p) = some (.list ps) := fun {p} h => by
    show ((cellL A p).bind fun xs => (xs.mapM (toP A 11)).map PyData.list) = _
    rw [cellL_of h]
    show ((cs.map (rowD vals)).mapM (toP A 11)).map PyData.list = _
    rw [e]; rfl
  have a3 : lenNe A (.ref p) (.ref q) = false := by unfold lenNe; simp only [cellL_of h1, cellL_of h2]; simp
  rw [eqP_same (a1 h1) (a1 h2) a3]
theorem ne_tux {vals : List (Option Int)} {k : Bool → Prop} : cmpP .ne (.tux (vals.map vD)) (.tup (vals.map vD)) A k = k false := by
  show eqP A (.tux (vals.map vD)) (.tup (vals.map vD)) (fun b => k (!b)) = _
  have h1 : toP A 12 (.tux (vals.map vD)) = some (.tuple (vals.map vP)) := by
    show ((vals.map vD).mapM (toP A 11)).map PyData.tuple = _
    rw [toPs_v]; rfl
  have h2 : toP A 12 (.tup (vals.map vD)) = some (.tuple (vals.map vP)) := by
    show ((vals.map vD).mapM (toP A 11)).map PyData.tuple = _
    rw [toPs_v]; rfl
  rw [eqP_same h1 h2 rfl]; rfl
theorem itP_tux {ds : List D} {k : List D → (AH → Prop) → Prop} : itP (.tux ds) A k = k ds fun _ => True := rfl
abbrev tailR : Mb := .cons (.set 6 (.bin .add (.comp (.seq (.sl (.var 3) (.yes (.int 1)) (.no))) 7 [7] (.yes (.cmp .is (.var 7) (.non))) (.var 7)) (.bi .sorted (.cons (.comp (.seq (.sl (.var 3) (.yes (.int 1)) (.no))) 7 [7] (.yes (.cmp .isnot (.var 7) (.non))) (.var 7)) .nil)))) (.cons (.tset (.tp [.nm 8, .nm 9]) (.idx (.var 4) (.int 0))) (.cons (.ife (.or (.not (.isx (.var 8))) (.or (.cmp .ne (.var 8) (.bi .tuple (.cons (.bin .add (.lst (.cons (.var 1) .nil)) (.var 6)) .nil))) (.not (.isi [0, 1, 2, 3, 4] (.var 9) (.b "list"))))) (.cons (.ret (.bl false)) .nil) (.nil)) (.cons (.setC 10 (.seq (.var 0)) 11 [11] (.no) (.bi .tuple (.cons (.comp (.seq (.var 8)) 7 [7] (.no) (.ixo true (.var 8) (.call 23 (.cons (.var 11) (.cons (.var 7) .nil))))) .nil))) (.cons (.ret (.and (.cmp .eq (.var 9) (.var 10)) (.cmp .eq (.comp (.seq (.var 9)) 12 [12] (.yes (.not (.isi [0, 1, 2, 3, 4] (.var 12) (.b "tuple")))) (.int 1)) (.lst (.nil))))) .nil))))
theorem tailR_ok {f : DSt → AH → Prop} {b c : DSt → AH → Prop} {x : Nat → List D → DSt → AH → Prop} {F P U T : Nat} {cs : List Ch} {s : Option Int} {r vals : List (Option Int)} {x2 x5 y6 y7 y8 y9 y10 y11 y12 : Option D}
    (hP : A[P]? = some (.lst (cs.map cD))) (g : ∀ c ∈ cs, Good c) (hF : A[F]? = some (.lst ((s :: r).map vD))) (o : Ok (fC cs) s (s :: r)) (cl : Clo (fC cs) (s :: r)) (lr : r.length ≤ 5) (lc : cs.length ≤ 6)
    (hU : A[U]? = some (.lst [.tup [.tux (vals.map vD), .ref T]])) (hT : A[T]? = some (.lst (cs.map (rowD vals)))) (vs : VS cs s vals) (lv : vals.length ≤ 20)
    (q : ∀ (A' : AH), A <+: A' → Q (.bl true) A') :
    wpB F__law_table_right S tailR ⟨f, Q, b, c, x⟩ [some (.ref P), some (vD s), x2, some (.ref F), some (.ref U), x5, y6, y7, y8, y9, y10, y11, y12] A := by
  unfold tailR
  refine wpB_c ?_
  simp only [wpS, wp, wpEs, wpI, wpO, asT]
  refine opt_get (a := D.ref F) rfl ?_
  refine (show slP (.ref F) (some 1) none A _ from ?_)
  rw [sl_lst hF, cut_drop (by decide) (by rw [List.length_map, List.length_cons]; omega)]
  rw [show ((s :: r).map vD).drop (1 : Int).toNat = r.map vD from rfl]
  refine (show itP (.ref A.length) (A ++ [Cell.lst (r.map vD)]) _ from ?_)
  have hD : (A ++ [Cell.lst (r.map vD)])[A.length]? = some (.lst (r.map vD)) := last_app
  have p1 := List.prefix_append A [Cell.lst (r.map vD)]
  generalize A.length = D1 at *
  generalize A ++ [Cell.lst (r.map vD)] = A1 at *
  rw [itP_lst hD]
  refine comp_fil isNon id (cellL_of hD) _ [] (fun y hy k hk => ?_) (fun y hy _ k hk => ?_) (by rw [List.length_map]; unfold LIM; simp; omega) ?_
  · refine opt_get (a := y) rfl ?_
    rw [cmp_isN]
    exact hk
  · exact opt_get (a := y) rfl hk
  rw [List.nil_append, fil_none]
  have l1 : (r.filter (fun v => v.isNone)).length ≤ r.length := List.length_filter_le _ _
  have hN : (A1 ++ [Cell.lst ((r.filter (fun v => v.isNone)).map vD)])[A1.length]? = some (.lst ((r.filter (fun v => v.isNone)).map vD)) := last_app
  have p2 := p1.trans (List.prefix_append A1 [Cell.lst ((r.filter (fun v => v.isNone)).map vD)])
  generalize A1.length = N at *
  generalize A1 ++ [Cell.lst ((r.filter (fun v => v.isNone)).map vD)] = A2 at *
  have hF2 := pre_at p2 hF
  refine opt_get (a := D.ref F) rfl ?_
  refine (show slP (.ref F) (some 1) none A2 _ from ?_)
  rw [sl_lst hF2, cut_drop (by decide) (by rw [List.length_map, List.length_cons]; omega)]
  rw [show ((s :: r).map vD).drop (1 : Int).toNat = r.map vD from rfl]
  refine (show itP (.ref A2.length) (A2 ++ [Cell.lst (r.map vD)]) _ from ?_)
  have hD2 : (A2 ++ [Cell.lst (r.map vD)])[A2.length]? = some (.lst (r.map vD)) := last_app
  have p3 := List.prefix_append A2 [Cell.lst (r.map vD)]
  generalize A2.length = D2 at *
  generalize A2 ++ [Cell.lst (r.map vD)] = A3 at *
  rw [itP_lst hD2]
  refine comp_fil (fun d => !isNon d) id (cellL_of hD2) _ [] (fun y hy k hk => ?_) (fun y hy _ k hk => ?_) (by rw [List.length_map]; unfold LIM; simp; omega) ?_
  · refine opt_get (a := y) rfl ?_
    rw [cmp_isntN]
    exact hk
  · exact opt_get (a := y) rfl hk
  rw [List.nil_append, fil_some]
  have l2 := fm_len r
  have hI : (A3 ++ [Cell.lst ((r.filterMap id).map D.int)])[A3.length]? = some (.lst ((r.filterMap id).map D.int)) := last_app
  refine (show biP .sorted [.ref A3.length] (A3 ++ [Cell.lst ((r.filterMap id).map D.int)]) _ from ?_)
  unfold biP
  simp only [hI]
  rw [intsD_map, opt_s]
  intro ns hp hs
  have vs2 := VS.of o cl hp hs
  have l3 : ns.length ≤ 5 := by have := hp.length_eq; omega
  have p4 := p3.trans ((List.prefix_append A3 [Cell.lst ((r.filterMap id).map D.int)]).trans (List.prefix_append _ [Cell.lst (ns.map D.int)]))
  have hS : (A3 ++ [Cell.lst ((r.filterMap id).map D.int)] ++ [Cell.lst (ns.map D.int)])[(A3 ++ [Cell.lst ((r.filterMap id).map D.int)]).length]? = some (.lst (ns.map D.int)) := last_app
  generalize (A3 ++ [Cell.lst ((r.filterMap id).map D.int)]).length = SS at *
  generalize A3 ++ [Cell.lst ((r.filterMap id).map D.int)] ++ [Cell.lst (ns.map D.int)] = A4 at *
  refine (show binP .add (.ref N) (.ref SS) A4 _ from ?_)
  refine bin_addL (pre_at p4 hN) hS (by rw [List.length_map, List.length_map]; unfold LIM; omega) ?_
  have e1 : (r.filter (fun v => v.isNone)).map vD ++ ns.map D.int = (r.filter (fun v => v.isNone) ++ ns.map some).map vD := by rw [List.map_append, ints_v]
  rw [e1]
  generalize hnn : r.filter (fun v => v.isNone) ++ ns.map some = os at *
  have lo : os.length ≤ 10 := by rw [← hnn, List.length_append, List.length_map]; omega
  have hO : (A4 ++ [Cell.lst (os.map vD)])[A4.length]? = some (.lst (os.map vD)) := last_app
  have p5 := (p2.trans p4).trans (List.prefix_append A4 [Cell.lst (os.map vD)])
  generalize A4.length = O at *
  generalize A4 ++ [Cell.lst (os.map vD)] = A5 at *
  have ev : vals = s :: os := vs.uniq vs2
  refine wpB_c ?_
  simp only [wpS, wp]
  refine opt_get (a := D.ref U) rfl ?_
  rw [idx_lst (pre_at p5 hU), atI_z, opt_s]
  refine ⟨rfl, ?_⟩
  simp only [wpGs, wpG, List.set]
  refine wpB_c ?_
  simp only [wpS, wp, wpEs, asT]
  refine opt_get (a := D.tux (vals.map vD)) rfl ?_
  rw [tru_b]
  refine ite_f (b := !true) rfl ?_
  refine opt_get (a := D.tux (vals.map vD)) rfl ?_
  refine opt_get (a := vD s) rfl ?_
  refine ⟨by simp [LIM], ?_⟩
  refine opt_get (a := D.ref O) rfl ?_
  refine bin_addL last_app (at_app hO) (by rw [List.length_map]; unfold LIM; simp; omega) ?_
  have e2 : [vD s] ++ os.map vD = vals.map vD := by rw [ev]; rfl
  rw [e2, bi_tuple last_app, ne_tux]
  refine ite_f (b := false) rfl ?_
  have p6 := (p5.trans (List.prefix_append A5 [Cell.lst [vD s]])).trans (List.prefix_append _ [Cell.lst (vals.map vD)])
  generalize A5 ++ [Cell.lst [vD s]] ++ [Cell.lst (vals.map vD)] = A6 at *
  refine opt_get (a := D.ref T) rfl ?_
  refine opt_get (a := TyT.b "list") (isSeq_ref (pre_at p6 hT)).1 ⟨True.intro, ?_⟩
  rw [show subT S (.b "list") (.b "list") = true from by decide, tru_b]
  refine ite_f (b := !true) rfl ?_
  refine wpB_n ?_
  refine wpB_c ?_
  simp only [wpS, wp, wpEs, wpI, wpO]
  refine opt_get (a := D.ref P) rfl ?_
  rw [itP_lst (pre_at p6 hP)]
  refine comp_map cD (rowD vals) (fun A' => A6 <+: A') (fun A' p => cellL_of (pre_at p (pre_at p6 hP))) cs [] A6 (fun d hd A7 k p7 hk => ?_) (List.prefix_refl _) (by unfold LIM; simp; omega) fun A7 p7 => ?_
  · refine opt_get (a := D.tux (vals.map vD)) rfl ?_
    rw [itP_tux]
    refine comp_map vD (fun v => .int (vals.idxOf (actV d v) : Nat)) (fun A' => A7 <+: A') (fun _ _ => True.intro) vals [] A7 (fun v hv A8 k8 p8 hk8 => ?_) (List.prefix_refl _) (by unfold LIM; simp; omega) fun A8 p8 => ?_
    · refine opt_get (a := D.tux (vals.map vD)) rfl ⟨(show ixRt (.tux (vals.map vD)) from True.intro), ?_⟩
      refine opt_get (a := cD d) rfl ?_
      refine opt_get (a := vD v) rfl ?_
      refine acted_ok (g d hd) ?_
      refine ixP_v (x := .tux (vals.map vD)) rfl ?_ (by unfold LIM; omega) (hk8 _ p8)
      exact (vs.mem _).mpr (((vs.mem v).mp hv).step (List.mem_map.mpr ⟨d, hd, rfl⟩))
    · rw [List.nil_append]
      refine (show biP .tuple [.ref A8.length] (A8 ++ [Cell.lst (vals.map fun v => D.int (vals.idxOf (actV d v) : Nat))]) _ from ?_)
      rw [bi_tuple last_app]
      exact hk _ ((p7.trans p8).trans (List.prefix_append _ _))
  rw [List.nil_append]
  have hR : (A7 ++ [Cell.lst (cs.map (rowD vals))])[A7.length]? = some (.lst (cs.map (rowD vals))) := last_app
  have p8 := (p6.trans p7).trans (List.prefix_append A7 [Cell.lst (cs.map (rowD vals))])
  generalize A7.length = R at *
  generalize A7 ++ [Cell.lst (cs.map (rowD vals))] = A8 at *
  have hT8 := pre_at p8 hT
  refine wpB_c ?_
  simp only [wpS, wp, wpEs, wpI, wpO, asT]
  refine opt_get (a := D.ref T) rfl ?_
  refine opt_get (a := D.ref R) rfl ?_
  rw [eq_rows hT8 hR, tru_b]
  refine ite_t (b := true) rfl ?_
  refine opt_get (a := D.ref T) rfl ?_
  rw [itP_lst hT8]
  refine comp_fil (fun d => !isTupD d) (fun _ => .int 1) (cellL_of hT8) _ [] (fun y hy k hk => ?_) (fun y hy _ k hk => hk) (by rw [List.length_map]; unfold LIM; simp; omega) ?_
  · obtain ⟨d, _, ed⟩ := List.mem_map.mp hy
    subst ed
    refine opt_get (a := rowD vals d) rfl ?_
    refine opt_get (a := TyT.b "tuple") rfl ⟨True.intro, ?_⟩
    rw [show subT S (.b "tuple") (.b "tuple") = true from by decide, tru_b]
    exact hk
  have e4 : (cs.map (rowD vals)).filter (fun d => !isTupD d) = [] := List.filter_eq_nil_iff.mpr fun d hd => by
    obtain ⟨c', _, ed⟩ := List.mem_map.mp hd
    subst ed
    exact Bool.false_ne_true
  rw [e4, List.nil_append, List.map_nil]
  refine ⟨by simp [LIM], ?_⟩
  rw [eq_nil (at_app last_app) last_app]
  exact q _ ((p8.trans (List.prefix_append _ _)).trans (List.prefix_append _ _))
end
end Z64
set_option Elab.async false
set_option linter.all false
set_option maxRecDepth 100000
set_option maxHeartbeats 4000000
/-! k64: table_right. -/
namespace Z64
open PySem Zw
section
variable {A A0 Ab : AH} {i L C : Nat} {Q : DK} {E : DX}
abbrev midT : Mb := .cons (.set 5 (.caught (.meth .append (.var 4) (.cons (.callk 17 0 ["changes", "start"] [0, 1] (.nil) (.cons (.var 2) (.cons (.var 1) .nil))) .nil)))) (.cons (.ife (.cmp .is (.var 3) (.non)) (.cons (.ret (.and (.isi [0, 1, 2, 3, 4] (.var 5) (.c 4)) (.cmp .eq (.xat [4] "most" (.var 5)) (.int 6)))) .nil) (.nil)) (.cons (.ife (.or (.cmp .isnot (.var 5) (.non)) (.or (.cmp .ne (.var 2) (.var 0)) (.or (.not (.isi [0, 1, 2, 3, 4] (.idx (.var 4) (.int 0)) (.b "tuple"))) (.cmp .ne (.bi .len (.cons (.idx (.var 4) (.int 0)) .nil)) (.int 2))))) (.cons (.ret (.bl false)) .nil) (.nil)) tailR))
theorem mid_ok {f : DSt → AH → Prop} {b c : DSt → AH → Prop} {x : Nat → List D → DSt → AH → Prop} {P G U : Nat} {cs : List Ch} {s : Option Int} {d3 : D} {y5 y6 y7 y8 y9 y10 y11 y12 : Option D}
    (hP : A[P]? = some (.lst (cs.map cD))) (hG : A[G]? = some (.lst (cs.map cD))) (hU : A[U]? = some (.lst [])) (g : ∀ c ∈ cs, Good c) (l1 : 1 ≤ cs.length) (lc : cs.length ≤ 6)
    (h3 : (d3 = .non ∧ ∃ l, Ok (fC cs) s l ∧ 6 < l.length) ∨ ∃ F l, d3 = .ref F ∧ A[F]? = some (.lst (l.map vD)) ∧ Ok (fC cs) s l ∧ Clo (fC cs) l ∧ l.length ≤ 6)
    (h0 : A0 <+: A) (hU0 : A0.length ≤ U) (q : ∀ (A' : AH), A0 <+: A' → Q (.bl true) A') :
    wpB F__law_table_right S midT ⟨f, Q, b, c, x⟩ [some (.ref P), some (vD s), some (.ref G), some d3, some (.ref U), y5, y6, y7, y8, y9, y10, y11, y12] A := by
  unfold midT
  have ne : ∀ {j : Nat} {xs : List D}, A[j]? = some (.lst xs) → xs ≠ [] → j ≠ U := fun {j xs} h hx e => by
    subst e
    rw [hU] at h
    cases h; exact hx rfl
  have cne : cs.map cD ≠ [] := fun z => by
    have := congrArg List.length z
    rw [List.length_map, List.length_nil] at this
    omega
  have nP := ne hP cne
  have nG := ne hG cne
  refine wpB_c ?_
  simp only [wpS, wp, wpEs]
  refine opt_get (a := D.ref U) rfl ⟨recv_lst hU, ?_⟩
  refine opt_get (a := D.ref G) rfl ?_
  refine opt_get (a := vD s) rfl ?_
  refine ⟨rfl, rfl, opt_get (a := [D.ref G, vD s]) rfl ?_⟩
  refine table_of_ok hG g l1 lc (fun A1 l p1 o h6 => ?_) fun A1 T vals l p1 hT vs lv o cl l6 => ?_
  · -- too many
    refine ⟨rfl, ?_⟩
    rcases h3 with ⟨e3, _⟩ | ⟨F, m, _, _, om, cm, lm⟩
    · subst e3
      refine wpB_c ?_
      simp only [wpS, wp, asT]
      refine opt_get (a := D.non) rfl ?_
      rw [cmp_isN]
      refine ite_t (b := isNon .non) rfl ?_
      refine wpB_c ?_
      simp only [wpS, wp, wpEs]
      refine opt_get (a := D.exc x_TooMany [.int 6]) rfl ?_
      refine opt_get (a := TyT.c x_TooMany) rfl ⟨(by decide : x_TooMany ∈ [0, 1, 2, 3, 4]), ?_⟩
      rw [show subT S (.c x_TooMany) (.c 4) = true from by decide, tru_b]
      refine ite_t (b := true) rfl ?_
      refine opt_get (a := D.exc x_TooMany [.int 6]) rfl ?_
      refine ⟨(by decide : x_TooMany ∈ [4]), ?_⟩
      rw [cmp_eqI]
      exact q A1 (h0.trans p1)
    · have := o.le om cm
      omega
  · rcases h3 with ⟨e3, m, om, lm⟩ | ⟨F, m, e3, hF, om, cm, lm⟩
    · have := om.le o cl
      omega
    · subst e3
      have mne : m.map vD ≠ [] := fun z => by
        obtain ⟨r, er⟩ := om.hd
        subst er
        cases z
      have nF := ne hF mne
      have hU1 := pre_at p1 hU
      have nT : T ≠ U := fun e => by
        subst e
        rw [hU1] at hT
        have := congrArg (fun z : Option Cell => match z with | some (.lst xs) => xs.length | _ => 0) hT
        simp at this
        omega
      refine app_lst hU1 (by simp [LIM]) ?_
      have p0 : A0 <+: A1.set U (.lst ([] ++ [.tup [.tux (vals.map vD), .ref T]])) := pre_set (h0.trans p1) hU0
      have k1 : ∀ {j : Nat} {cc : Cell}, j ≠ U → A1[j]? = some cc → (A1.set U (.lst ([] ++ [.tup [.tux (vals.map vD), .ref T]])))[j]? = some cc := fun {j cc} n h => by
        rw [List.getElem?_set_ne (Ne.symm n)]; exact h
      have hU2 : (A1.set U (.lst ([] ++ [.tup [.tux (vals.map vD), .ref T]])))[U]? = some (.lst [.tup [.tux (vals.map vD), .ref T]]) := set_at hU1
      have hP2 := k1 nP (pre_at p1 hP)
      have hG2 := k1 nG (pre_at p1 hG)
      have hF2 := k1 nF (pre_at p1 hF)
      have hT2 := k1 nT hT
      generalize A1.set U (.lst ([] ++ [.tup [.tux (vals.map vD), .ref T]])) = A2 at *
      refine wpB_c ?_
      simp only [wpS, wp, asT]
      refine opt_get (a := D.ref F) rfl ?_
      rw [cmp_isN]
      refine ite_f (b := isNon (.ref F)) rfl ?_
      refine wpB_n ?_
      refine wpB_c ?_
      simp only [wpS, wp, wpEs, asT]
      refine opt_get (a := D.non) rfl ?_
      rw [cmp_isntN]
      refine ite_f (b := !isNon .non) rfl ?_
      refine opt_get (a := D.ref G) rfl ?_
      refine opt_get (a := D.ref P) rfl ?_
      rw [ne_cs hG2 hP2]
      refine ite_f (b := false) rfl ?_
      refine opt_get (a := D.ref U) rfl ?_
      rw [idx_lst hU2, atI_z, opt_s]
      refine opt_get (a := TyT.b "tuple") rfl ⟨True.intro, ?_⟩
      rw [show subT S (.b "tuple") (.b "tuple") = true from by decide, tru_b]
      refine ite_f (b := !true) rfl ?_
      refine opt_get (a := D.ref U) rfl ?_
      rw [idx_lst hU2, atI_z, opt_s, bi_lenT, cmp_neI]
      refine ite_f (b := !decide (((([D.tux (vals.map vD), D.ref T] : List D).length : Nat) : Int) = 2)) rfl ?_
      refine wpB_n ?_
      obtain ⟨r, er⟩ := om.hd
      subst er
      exact tailR_ok hP2 g hF2 om cm (by rw [List.length_cons] at lm; omega) lc hU2 hT2 vs lv fun A' p => q A' (p0.trans p)
theorem table_right_ok {P : Nat} {cs : List Ch} {s : Option Int} (hP : A[P]? = some (.lst (cs.map cD))) (g : ∀ c ∈ cs, Good c) (l1 : 1 ≤ cs.length) (lc : cs.length ≤ 6) (q : ∀ (A' : AH), A <+: A' → Q (.bl true) A') : sp__law_table_right [.ref P, vD s] A Q E := by
  unfold sp__law_table_right defSp t__law_table_right
  refine ⟨rfl, ?_⟩
  simp only [startD_c, startD_e, List.replicate]
  refine wpB_c ?_
  simp only [wpS, wp, wpEs]
  refine opt_get (a := D.ref P) rfl ?_
  rw [bi_list hP]
  refine opt_get (a := D.ref P) rfl ?_
  refine opt_get (a := vD s) rfl ?_
  have hG : (A ++ [Cell.lst (cs.map cD)])[A.length]? = some (.lst (cs.map cD)) := last_app
  have pG := List.prefix_append A [Cell.lst (cs.map cD)]
  refine law_values_ok (at_app hP) g lc (fun A1 l p1 o h6 => ?_) fun A1 F l p1 _ hF o cl l6 => ?_
  · refine ⟨by simp [LIM], ?_⟩
    refine ⟨by simp [LIM], rfl, ?_⟩
    simp only [wpGs, wpG, List.set]
    have p2 := (pG.trans p1).trans (List.prefix_append A1 [Cell.lst []])
    exact mid_ok (A0 := A) (U := A1.length) (at_app (pre_at (pG.trans p1) hP)) (at_app (pre_at p1 hG)) last_app g l1 lc (.inl ⟨rfl, l, o, h6⟩) p2 (pG.trans p1).length_le q
  · refine ⟨by simp [LIM], ?_⟩
    refine ⟨by simp [LIM], rfl, ?_⟩
    simp only [wpGs, wpG, List.set]
    have p2 := (pG.trans p1).trans (List.prefix_append A1 [Cell.lst []])
    exact mid_ok (A0 := A) (U := A1.length) (at_app (pre_at (pG.trans p1) hP)) (at_app (pre_at p1 hG)) last_app g l1 lc (.inr ⟨F, l, rfl, at_app hF, o, cl, l6⟩) p2 (pG.trans p1).length_le q
end
end Z64
set_option Elab.async false
set_option linter.all false
set_option maxRecDepth 100000
set_option maxHeartbeats 4000000
/-! k64: tables that are none. -/
namespace Z64
open PySem Zw
section
variable {A A0 Ab : AH} {i L C : Nat} {Q : DK} {E : DX}
theorem rowB_bad {n : Nat} {es : List D} {e : D} (he : e ∈ es) (h : idxB n e = false) : rowB n (.tup es) = false := by
  cases hb : rowB n (.tup es) with
  | false => rfl
  | true =>
    have hb : (decide (es.length = n) && es.all (idxB n)) = true := hb
    rw [Bool.and_eq_true] at hb
    have := List.all_eq_true.mp hb.2 e he
    rw [h] at this; cases this
theorem rowB_len {n : Nat} {es : List D} (h : es.length ≠ n) : rowB n (.tup es) = false := by
  show (decide (es.length = n) && es.all (idxB n)) = false
  rw [decide_eq_false h, Bool.false_and]
theorem tab_hd {h : D} {t : List D} (hf : hdB (h :: t) h = false) : tabB (h :: t) = false := by
  unfold tabB
  show (_ && hdB (h :: t) h) = false
  rw [hf, Bool.and_false]
theorem tab_len {ds : List D} (h : ds.length = 0 ∨ 6 < ds.length) : tabB ds = false := by
  unfold tabB
  rcases h with h | h
  · rw [decide_eq_false (by omega), Bool.false_and, Bool.false_and]
  · rw [decide_eq_false (show ¬ ds.length ≤ 6 by omega), Bool.and_false, Bool.false_and]
theorem hdB_bad {h : D} {ds : List D} (hh : ∀ es, h = .tup es → es.length = 0 ∨ 6 < es.length ∨ ∃ d ∈ ds, rowB es.length d = false) : hdB ds h = false := by
  cases h with
  | tup es =>
    show (decide (1 ≤ es.length) && decide (es.length ≤ 6) && ds.all (rowB es.length)) = false
    rcases hh es rfl with z | z | ⟨d, hd, z⟩
    · rw [decide_eq_false (by omega), Bool.false_and, Bool.false_and]
    · rw [decide_eq_false (show ¬ es.length ≤ 6 by omega), Bool.and_false, Bool.false_and]
    · cases hb : ds.all (rowB es.length) with
      | false => rw [Bool.and_false]
      | true =>
        have := List.all_eq_true.mp hb d hd
        rw [z] at this; cases this
  | _ => rfl
theorem tab_bad {n : Nat} {tb : List (List Int)} (g : TG n tb) {m : Nat} (hm : m < tb.length) {d : D} (hr : rowB n d = false) (hl : ∀ es, d = .tup es → es.length = n ∨ es.length = 7 ∨ (es.length = n + 1 ∧ 2 ≤ tb.length)) :
    tabB ((tb.take m).map tD ++ [d] ++ (tb.drop (m + 1)).map tD) = false := by
  cases m with
  | zero =>
    show tabB (d :: (tb.drop 1).map tD) = false
    refine tab_hd (hdB_bad fun es e => ?_)
    rcases hl es e with z | z | ⟨z, z2⟩
    · exact .inr (.inr ⟨d, List.mem_cons_self, by rw [z]; exact hr⟩)
    · exact .inr (.inl (by omega))
    · obtain ⟨r0, rs, et, _⟩ := g.hd
      subst et
      cases rs with
      | nil => simp at z2
      | cons r1 rs =>
        refine .inr (.inr ⟨tD r1, List.mem_cons_of_mem _ List.mem_cons_self, ?_⟩)
        have := (g.row r1 (List.mem_cons_of_mem _ List.mem_cons_self)).1
        exact rowB_len (by rw [List.length_map]; omega)
  | succ m =>
    obtain ⟨r0, rs, et, hl0⟩ := g.hd
    subst et
    show tabB (tD r0 :: ((rs.take m).map tD ++ [d] ++ (rs.drop (m + 1)).map tD)) = false
    refine tab_hd (hdB_bad fun es e => ?_)
    have el : es.length = n := by
      cases e
      rw [List.length_map]; exact hl0
    exact .inr (.inr ⟨d, by simp, by rw [el]; exact hr⟩)
/-- what is no table -/
def BadT (A : AH) (i L : Nat) (d : D) : Prop := ((∀ j, d = .ref j → j ≠ i ∧ j ≠ L) ∧ ∃ n, tyD A d = some (.b n) ∧ (["list", "tuple"].any fun t => subT S (.b n) (.b t)) = false) ∨
  ∃ ds, (d = .tup ds ∨ ∃ j, d = .ref j ∧ A[j]? = some (.lst ds) ∧ j ≠ i ∧ j ≠ L) ∧ (∀ x ∈ ds, OkR A x) ∧ ds.length ≤ 60 ∧ tabB ds = false
theorem OkR.gro {A' : AH} {d : D} (h : OkR A d) (g : Gro A A' i L) (h' : Dr A' i L C) : OkR A' d := ⟨g.ok h' h.1, fun es e => ⟨(h.2 es e).1, fun z hz => g.ok h' ((h.2 es e).2 z hz)⟩⟩
theorem BadT.gro {A' : AH} {d : D} (h : BadT A i L d) (g : Gro A A' i L) (h' : Dr A' i L C) : BadT A' i L d := by
  rcases h with ⟨h1, n, h2, h3⟩ | ⟨ds, h1, h2, h3, h4⟩
  · refine .inl ⟨h1, n, ?_, h3⟩
    cases d with
    | ref j =>
      have nj := h1 j rfl
      rw [tyD_ref] at h2 ⊢
      cases e : A[j]? with
      | none => rw [e] at h2; cases h2
      | some c => rw [e] at h2; rw [g.at e nj]; exact h2
    | _ => exact h2
  · refine .inr ⟨ds, ?_, fun x hx => (h2 x hx).gro g h', h3, h4⟩
    rcases h1 with e | ⟨j, e, hj, nj⟩
    · exact .inl e
    · exact .inr ⟨j, e, g.at hj nj, nj⟩
theorem bad_from {d : D} (h : BadT A i L d) (e : ∀ A', A <+: A' → E x_BadTable [] A') : sp_values_from [d] A Q E := by
  rcases h with ⟨_, n, h2, h3⟩ | ⟨ds, h1, h2, h3, h4⟩
  · exact values_from_odd h2 h3 (e A (List.prefix_refl _))
  · refine values_from_bad (ds := ds) ?_ h2 h3 h4 e
    rcases h1 with e | ⟨j, e, hj, _⟩
    · exact .inl e
    · exact .inr ⟨j, e, hj⟩
theorem add_tup {xs ys : List D} (h : xs.length + ys.length ≤ LIM) (q : Q (.tup (xs ++ ys)) A) : binP .add (.tup xs) (.tup ys) A Q := ⟨h, q⟩
theorem mul_one {v : D} {n : Nat} (h1 : 1 ≤ n) (h2 : n ≤ 1000) (q : Q (.tup (List.replicate n v)) A) : binP .mul (.tup [v]) (.int n) A Q := by
  refine ⟨⟨by simp, by omega, by omega, by simp⟩, ?_⟩
  rw [Int.toNat_natCast, rep_one]
  exact q
theorem sl_row {r : List Int} (h : 1 ≤ r.length) (q : Q (.tup ((r.drop 1).map .int)) A) : slP (tD r) (some 1) none A Q := by
  refine ⟨fun z => ?_, ?_⟩
  · have := z.1
    rw [show (1 : Int) = ((1 : Nat) : Int) from rfl, HT.sIx_nat, List.length_map] at this
    omega
  · rw [cut_drop (by decide) (by rw [List.length_map]; omega)]
    rw [List.map_drop] at q
    exact q
theorem eqP_of {x y : D} {p q : PyData} {k : Bool → Prop} (h1 : toP A 12 x = some p) (h2 : toP A 12 y = some q) (hl : lenNe A x y = false) : eqP A x y k = k (PyData.eqv p q) := by
  unfold eqP
  rw [hl, h1, h2]
  rfl
theorem okr_ints {es : List D} (hl : es.length ≤ 60) (h : ∀ e ∈ es, okD A e) : OkR A (.tup es) := ⟨⟨_, rfl⟩, fun es' e => by cases e; exact ⟨hl, h⟩⟩
theorem okr_at {d : D} (h : okD A d) (hn : isTupD d = false) : OkR A d := ⟨h, fun es e => by subst e; cases hn⟩
theorem ok_is {r : List Int} : ∀ e ∈ r.map D.int, okD A e := fun e he => by
  obtain ⟨k, _, ek⟩ := List.mem_map.mp he
  subst ek
  exact okD_i
/-- one bad row -/
def BR (A : AH) (r : List Int) (n : Nat) (x : D) : Prop := OkR A x ∧ rowB n x = false ∧ (∃ p, toP A 12 x = some p) ∧ (x = .tup (r.map .int ++ [.int 0]) ∨ ∀ es, x = .tup es → es.length = n)
theorem toP_rep {v : D} {p : PyData} {n : Nat} (h : toP A (n + 1) v = some p) : ∀ k : Nat, (List.replicate k v).mapM (toP A (n + 1)) = some (List.replicate k p)
  | 0 => rfl
  | k + 1 => by rw [List.replicate_succ, List.mapM_cons, h, toP_rep h k]; rfl
theorem toP_ii {ks : List Int} {k : Int} : toP A 12 (.tup (ks.map .int ++ [.int k])) = some (.tuple ((ks ++ [k]).map PyData.int)) := by
  have e : ks.map D.int ++ [D.int k] = (ks ++ [k]).map D.int := by rw [List.map_append]; rfl
  rw [e]
  show (((ks ++ [k]).map D.int).mapM (toP A 11)).map PyData.tuple = _
  rw [toP_is]; rfl
theorem items_br {r : List Int} {n R : Nat} (hr : r.length = n) (n1 : 1 ≤ n) (n6 : n ≤ 6) (hR : A[R]? = some (.lst (r.map .int))) :
    ∀ x ∈ [D.tup (r.map .int ++ [.int 0]), .tup ((r.drop 1).map .int ++ [.int n]), .ref R, .non, .int 5, .tup (List.replicate n (.bl true)), .tup (List.replicate n (.str (Str.ofString "0"))), .tup ((r.drop 1).map .int ++ [.int (-1)])], BR A r n x := by
  have l2 : ∀ k : Int, ((r.drop 1).map D.int ++ [D.int k]).length = n := fun k => by rw [List.length_append, List.length_map, List.length_drop, List.length_singleton]; omega
  have okl : ∀ (ks : List Int) (k : Int), ∀ e ∈ ks.map D.int ++ [D.int k], okD A e := fun ks k e he => by
    rcases List.mem_append.mp he with he | he
    · exact ok_is e he
    · rw [List.mem_singleton.mp he]; exact okD_i
  intro x hx
  simp only [List.mem_cons, List.not_mem_nil, or_false] at hx
  rcases hx with e | e | e | e | e | e | e | e <;> subst e
  · refine ⟨okr_ints (by rw [List.length_append, List.length_map, List.length_singleton]; omega) (okl _ _), rowB_len (by rw [List.length_append, List.length_map, List.length_singleton]; omega), ⟨_, toP_ii⟩, .inl rfl⟩
  · refine ⟨okr_ints (by rw [l2]; omega) (okl _ _), rowB_bad (e := .int n) (by simp) ?_, ⟨_, toP_ii⟩, .inr fun es e => by cases e; exact l2 _⟩
    show (decide ((0 : Int) ≤ n) && decide ((n : Int) < n)) = false
    rw [decide_eq_false (show ¬ (n : Int) < n by omega), Bool.and_false]
  · refine ⟨okr_at (ok_ref hR) rfl, rfl, ?_, .inr fun es e => by cases e⟩
    refine ⟨.list (r.map PyData.int), ?_⟩
    show ((cellL A R).bind fun xs => (xs.mapM (toP A 11)).map PyData.list) = _
    rw [cellL_of hR]
    show ((r.map D.int).mapM (toP A 11)).map PyData.list = _
    rw [toP_is]; rfl
  · exact ⟨okr_at okN rfl, rfl, ⟨_, rfl⟩, .inr fun es e => by cases e⟩
  · exact ⟨okr_at okD_i rfl, rfl, ⟨_, rfl⟩, .inr fun es e => by cases e⟩
  · refine ⟨okr_ints (by rw [List.length_replicate]; omega) (fun e he => by rw [List.eq_of_mem_replicate he]; exact okB), rowB_bad (e := .bl true) (List.mem_replicate.mpr ⟨by omega, rfl⟩) rfl, ⟨.tuple (List.replicate n (.bool true)), ?_⟩, .inr fun es e => by cases e; exact List.length_replicate⟩
    show ((List.replicate n (D.bl true)).mapM (toP A 11)).map PyData.tuple = _
    rw [toP_rep (p := .bool true) rfl]; rfl
  · refine ⟨okr_ints (by rw [List.length_replicate]; omega) (fun e he => by rw [List.eq_of_mem_replicate he]; exact okS), rowB_bad (e := .str (Str.ofString "0")) (List.mem_replicate.mpr ⟨by omega, rfl⟩) rfl, ⟨.tuple (List.replicate n (.str (Str.ofString "0"))), ?_⟩, .inr fun es e => by cases e; exact List.length_replicate⟩
    show ((List.replicate n (D.str (Str.ofString "0"))).mapM (toP A 11)).map PyData.tuple = _
    rw [toP_rep (p := .str (Str.ofString "0")) rfl]; rfl
  · refine ⟨okr_ints (by rw [l2]; omega) (okl _ _), rowB_bad (e := .int (-1)) (by simp) rfl, ⟨_, toP_ii⟩, .inr fun es e => by cases e; exact l2 _⟩
end
end Z64
set_option Elab.async false
set_option linter.all false
set_option maxRecDepth 100000
set_option maxHeartbeats 4000000
/-! k64: the law's tables that are none. -/
namespace Z64
open PySem Zw
section
variable {A A0 Ab : AH} {i L C : Nat} {Q : DK} {E : DX}
theorem bi_list_tD {r : List Int} : biP .list [tD r] A Q = Q (.ref A.length) (A ++ [.lst (r.map .int)]) := rfl
abbrev tailX : Mb := .cons (.set 6 (.bin .mul (.lst (.cons (.bin .add (.bin .add (.sl (.var 1) (.no) (.yes (.var 3))) (.lst (.cons (.var 5) .nil))) (.sl (.var 1) (.yes (.bin .add (.var 3) (.int 1))) (.no))) .nil)) (.int 4))) (.cons (.ret (.call 21 (.cons (.var 0) (.cons (.bin .add (.var 6) (.lst (.cons (.non) (.cons (.int 5) (.cons (.disp [] (.nil)) (.cons (.lst (.nil)) (.cons (.tup (.nil)) (.cons (.lst (.cons (.tup (.nil)) .nil)) (.cons (.lst (.cons (.int 5) .nil)) (.cons (.lst (.cons (.bin .mul (.tup (.cons (.int 0) .nil)) (.int 7)) .nil)) (.cons (.bin .mul (.lst (.cons (.var 4) .nil)) (.int 7)) (.cons (.str "00") .nil)))))))))))) .nil)))) .nil)
theorem badT_ok {f : DSt → AH → Prop} {b c : DSt → AH → Prop} {x : Nat → List D → DSt → AH → Prop} {T m n : Nat} {tb : List (List Int)} {r : List Int} {d : D} {x2 y6 : Option D}
    (h : Dr A i L C) (hT : A[T]? = some (.lst (tb.map tD))) (nT : T ≠ i ∧ T ≠ L) (g : TG n tb) (hm : m < tb.length) (hr : r.length = n)
    (ho : OkR A d) (hd1 : rowB n d = false) (hd2 : ∀ es, d = .tup es → es.length = n ∨ es.length = 7 ∨ (es.length = n + 1 ∧ 2 ≤ tb.length))
    (q : ∀ (d : D) (A' : AH), Dr A' i L C → Gro A A' i L → BadT A' i L d → Q d A') :
    wpB F__law_bad_table S tailX ⟨f, Q, b, c, x⟩ [some (.ref i), some (.ref T), x2, some (.int m), some (tD r), some d, y6] A := by
  unfold tailX
  have dl := h.lt
  have l6 := g.l6
  have n6 := g.n6
  have n1 := g.n1
  refine wpB_c ?_
  simp only [wpS, wp, wpEs, wpO]
  refine opt_get (a := D.ref T) rfl ?_
  refine opt_get (a := D.int m) rfl ?_
  refine (show slP (.ref T) none (some (m : Int)) A _ from ?_)
  rw [sl_lst hT, cut_take (by omega) (by rw [List.length_map]; omega), Int.toNat_natCast, ← List.map_take]
  refine (show (fun y A1 => _) (D.ref A.length) (A ++ [Cell.lst ((tb.take m).map tD)]) from ?_)
  refine opt_get (a := d) rfl ?_
  refine ⟨by simp [LIM], ?_⟩
  refine bin_addL (at_app last_app) last_app (by simp [LIM]; omega) ?_
  have p1 : A <+: A ++ [Cell.lst ((tb.take m).map tD)] ++ [Cell.lst [d]] ++ [Cell.lst ((tb.take m).map tD ++ [d])] := ((List.prefix_append _ _).trans (List.prefix_append _ _)).trans (List.prefix_append _ _)
  have hW1 : (A ++ [Cell.lst ((tb.take m).map tD)] ++ [Cell.lst [d]] ++ [Cell.lst ((tb.take m).map tD ++ [d])])[(A ++ [Cell.lst ((tb.take m).map tD)] ++ [Cell.lst [d]]).length]? = some (.lst ((tb.take m).map tD ++ [d])) := last_app
  generalize (A ++ [Cell.lst ((tb.take m).map tD)] ++ [Cell.lst [d]]).length = W1 at *
  generalize A ++ [Cell.lst ((tb.take m).map tD)] ++ [Cell.lst [d]] ++ [Cell.lst ((tb.take m).map tD ++ [d])] = A1 at *
  have hT1 := pre_at p1 hT
  refine opt_get (a := D.ref T) rfl ?_
  refine opt_get (a := D.int m) rfl ?_
  rw [bin_add]
  refine (show slP (.ref T) (some ((m : Int) + 1)) none A1 _ from ?_)
  rw [sl_lst hT1, cut_drop (by omega) (by rw [List.length_map]; omega), show ((m : Int) + 1).toNat = m + 1 by omega, ← List.map_drop]
  refine bin_addL (at_app hW1) last_app (by simp [LIM]; omega) ?_
  have ll : ((tb.take m).map tD ++ [d] ++ (tb.drop (m + 1)).map tD).length ≤ 60 := by simp; omega
  have bad := tab_bad g hm hd1 hd2
  have okx : ∀ x ∈ (tb.take m).map tD ++ [d] ++ (tb.drop (m + 1)).map tD, OkR A x := fun x hx => by
    rcases List.mem_append.mp hx with hx | hx
    · rcases List.mem_append.mp hx with hx | hx
      · obtain ⟨r', hr', e⟩ := List.mem_map.mp hx
        subst e
        exact okr_tD (by have := (g.row r' (List.mem_of_mem_take hr')).1; omega)
      · rw [List.mem_singleton.mp hx]; exact ho
    · obtain ⟨r', hr', e⟩ := List.mem_map.mp hx
      subst e
      exact okr_tD (by have := (g.row r' (List.mem_of_mem_drop hr')).1; omega)
  generalize (tb.take m).map tD ++ [d] ++ (tb.drop (m + 1)).map tD = ws at *
  have hW : (A1 ++ [Cell.lst ((tb.drop (m + 1)).map tD)] ++ [Cell.lst ws])[(A1 ++ [Cell.lst ((tb.drop (m + 1)).map tD)]).length]? = some (.lst ws) := last_app
  have p2 := p1.trans ((List.prefix_append A1 [Cell.lst ((tb.drop (m + 1)).map tD)]).trans (List.prefix_append _ [Cell.lst ws]))
  have lW : A1.length ≤ (A1 ++ [Cell.lst ((tb.drop (m + 1)).map tD)]).length := by simp
  have lA := p1.length_le
  have nW : (A1 ++ [Cell.lst ((tb.drop (m + 1)).map tD)]).length ≠ i ∧ (A1 ++ [Cell.lst ((tb.drop (m + 1)).map tD)]).length ≠ L := by omega
  generalize (A1 ++ [Cell.lst ((tb.drop (m + 1)).map tD)]).length = W at *
  generalize A1 ++ [Cell.lst ((tb.drop (m + 1)).map tD)] ++ [Cell.lst ws] = A2 at *
  refine ⟨by simp [LIM], ?_⟩
  refine bin_mulL last_app ⟨by decide, by decide, by simp [LIM]⟩ ?_
  have e4 : (List.replicate (4 : Int).toNat [D.ref W]).flatten = [.ref W, .ref W, .ref W, .ref W] := rfl
  rw [e4]
  have hX : (A2 ++ [Cell.lst [D.ref W]] ++ [Cell.lst [D.ref W, .ref W, .ref W, .ref W]])[(A2 ++ [Cell.lst [D.ref W]]).length]? = some (.lst [D.ref W, .ref W, .ref W, .ref W]) := last_app
  have p3 := p2.trans ((List.prefix_append A2 [Cell.lst [D.ref W]]).trans (List.prefix_append _ [Cell.lst [D.ref W, .ref W, .ref W, .ref W]]))
  have p23 := (List.prefix_append A2 [Cell.lst [D.ref W]]).trans (List.prefix_append _ [Cell.lst [D.ref W, .ref W, .ref W, .ref W]])
  generalize (A2 ++ [Cell.lst [D.ref W]]).length = X at *
  generalize A2 ++ [Cell.lst [D.ref W]] ++ [Cell.lst [D.ref W, .ref W, .ref W, .ref W]] = A3 at *
  have hW3 := pre_at p23 hW
  refine wpB_c ?_
  simp only [wpS, wp, wpEs]
  refine opt_get (a := D.ref i) rfl ?_
  refine opt_get (a := D.ref X) rfl ?_
  refine ⟨by decide, rfl, ?_⟩
  generalize hkv : ([] : List L2.Key).zip ([] : List D) = kv
  have hB1 : (A3 ++ [Cell.dct (List.foldl (fun acc kv => putD acc kv.1 kv.2) [] kv)])[A3.length]? = some (.dct (List.foldl (fun acc kv => putD acc kv.1 kv.2) [] kv)) := last_app
  have p4 := List.prefix_append A3 [Cell.dct (List.foldl (fun acc kv => putD acc kv.1 kv.2) [] kv)]
  have l3 := p3.length_le
  have nB1 : A3.length ≠ i ∧ A3.length ≠ L := by omega
  generalize List.foldl (fun acc kv => putD acc kv.1 kv.2) [] kv = kvs at *
  generalize A3.length = B1 at *
  generalize A3 ++ [Cell.dct kvs] = A4 at *
  have l4 := (p3.trans p4).length_le
  refine ⟨by simp [LIM], ?_⟩
  have hB2 : (A4 ++ [Cell.lst []])[A4.length]? = some (.lst []) := last_app
  have p5 := p4.trans (List.prefix_append A4 [Cell.lst []])
  have nB2 : A4.length ≠ i ∧ A4.length ≠ L := by omega
  have hB1 := at_app (ys := [Cell.lst []]) hB1
  generalize A4.length = B2 at *
  generalize A4 ++ [Cell.lst []] = A5 at *
  have l5 := (p3.trans p5).length_le
  refine ⟨by simp [LIM], ?_⟩
  refine ⟨by simp [LIM], ?_⟩
  refine ⟨by simp [LIM], ?_⟩
  have hB3 : (A5 ++ [Cell.lst [D.tup []]])[A5.length]? = some (.lst [D.tup []]) := last_app
  have p6 := p5.trans (List.prefix_append A5 [Cell.lst [D.tup []]])
  have nB3 : A5.length ≠ i ∧ A5.length ≠ L := by omega
  have hB1 := at_app (ys := [Cell.lst [D.tup []]]) hB1
  have hB2 := at_app (ys := [Cell.lst [D.tup []]]) hB2
  generalize A5.length = B3 at *
  generalize A5 ++ [Cell.lst [D.tup []]] = A6 at *
  have l6' := (p3.trans p6).length_le
  refine ⟨by simp [LIM], ?_⟩
  have hB4 : (A6 ++ [Cell.lst [D.int 5]])[A6.length]? = some (.lst [D.int 5]) := last_app
  have p7 := p6.trans (List.prefix_append A6 [Cell.lst [D.int 5]])
  have nB4 : A6.length ≠ i ∧ A6.length ≠ L := by omega
  have hB1 := at_app (ys := [Cell.lst [D.int 5]]) hB1
  have hB2 := at_app (ys := [Cell.lst [D.int 5]]) hB2
  have hB3 := at_app (ys := [Cell.lst [D.int 5]]) hB3
  generalize A6.length = B4 at *
  generalize A6 ++ [Cell.lst [D.int 5]] = A7 at *
  have l7 := (p3.trans p7).length_le
  refine ⟨by simp [LIM], ?_⟩
  refine mul_one (n := 7) (by decide) (by decide) ?_
  refine ⟨by simp [LIM], ?_⟩
  have hB5 : (A7 ++ [Cell.lst [D.tup (List.replicate 7 (.int 0))]])[A7.length]? = some (.lst [D.tup (List.replicate 7 (.int 0))]) := last_app
  have p8 := p7.trans (List.prefix_append A7 [Cell.lst [D.tup (List.replicate 7 (.int 0))]])
  have nB5 : A7.length ≠ i ∧ A7.length ≠ L := by omega
  have hB1 := at_app (ys := [Cell.lst [D.tup (List.replicate 7 (.int 0))]]) hB1
  have hB2 := at_app (ys := [Cell.lst [D.tup (List.replicate 7 (.int 0))]]) hB2
  have hB3 := at_app (ys := [Cell.lst [D.tup (List.replicate 7 (.int 0))]]) hB3
  have hB4 := at_app (ys := [Cell.lst [D.tup (List.replicate 7 (.int 0))]]) hB4
  generalize A7.length = B5 at *
  generalize A7 ++ [Cell.lst [D.tup (List.replicate 7 (.int 0))]] = A8 at *
  have l8 := (p3.trans p8).length_le
  refine opt_get (a := tD r) rfl ?_
  refine ⟨by simp [LIM], ?_⟩
  refine bin_mulL last_app ⟨by decide, by decide, by simp [LIM]⟩ ?_
  have e7 : (List.replicate (7 : Int).toNat [tD r]).flatten = List.replicate 7 (tD r) := rfl
  rw [e7]
  have hB6 : (A8 ++ [Cell.lst [tD r]] ++ [Cell.lst (List.replicate 7 (tD r))])[(A8 ++ [Cell.lst [tD r]]).length]? = some (.lst (List.replicate 7 (tD r))) := last_app
  have p89 := (List.prefix_append A8 [Cell.lst [tD r]]).trans (List.prefix_append _ [Cell.lst (List.replicate 7 (tD r))])
  have p9 := p8.trans p89
  have l89 : A8.length ≤ (A8 ++ [Cell.lst [tD r]]).length := by simp
  have nB6 : (A8 ++ [Cell.lst [tD r]]).length ≠ i ∧ (A8 ++ [Cell.lst [tD r]]).length ≠ L := by omega
  have hB1 := pre_at p89 hB1
  have hB2 := pre_at p89 hB2
  have hB3 := pre_at p89 hB3
  have hB4 := pre_at p89 hB4
  have hB5 := pre_at p89 hB5
  generalize (A8 ++ [Cell.lst [tD r]]).length = B6 at *
  generalize A8 ++ [Cell.lst [tD r]] ++ [Cell.lst (List.replicate 7 (tD r))] = A9 at *
  refine ⟨by simp [LIM], ?_⟩
  refine bin_addL (at_app (pre_at p9 hX)) last_app (by simp [LIM]) ?_
  have pA := (p3.trans p9).trans (List.prefix_append A9 [Cell.lst [D.non, .int 5, .ref B1, .ref B2, .tup [], .ref B3, .ref B4, .ref B5, .ref B6, .str (Str.ofString "00")]])
  have k10 : ∀ {j : Nat} {cc : Cell}, A9[j]? = some cc → (A9 ++ [Cell.lst [D.non, .int 5, .ref B1, .ref B2, .tup [], .ref B3, .ref B4, .ref B5, .ref B6, .str (Str.ofString "00")]])[j]? = some cc := fun {j cc} hh => at_app hh
  have hB1 := k10 hB1
  have hB2 := k10 hB2
  have hB3 := k10 hB3
  have hB4 := k10 hB4
  have hB5 := k10 hB5
  have hB6 := k10 hB6
  have hWA := k10 (pre_at p9 hW3)
  clear k10
  generalize A9 ++ [Cell.lst [D.non, .int 5, .ref B1, .ref B2, .tup [], .ref B3, .ref B4, .ref B5, .ref B6, .str (Str.ofString "00")]] = A10 at *
  have dA := pre_dr h pA
  refine pick_new (A0 := A10) dA (by simp) (by simp) fun y A11 hy d11 _ g11 => ?_
  have gA := (pre_gro (i := i) (L := L) pA).trans g11
  refine q y A11 d11 gA ?_
  have ref : ∀ {j : Nat} {ds : List D}, A10[j]? = some (.lst ds) → (j ≠ i ∧ j ≠ L) → (∀ x ∈ ds, OkR A10 x) → ds.length ≤ 60 → tabB ds = false → BadT A11 i L (.ref j) := fun {j ds} hj nj ho hl hb =>
    BadT.gro (.inr ⟨ds, .inr ⟨j, rfl, hj, nj⟩, ho, hl, hb⟩) g11 d11
  have at_ : ∀ {z : D} {nn : String}, tyD A11 z = some (.b nn) → (∀ j, z = .ref j → j ≠ i ∧ j ≠ L) → (["list", "tuple"].any fun t => subT S (.b nn) (.b t)) = false → BadT A11 i L z := fun {z nn} h1 h2 h3 => .inl ⟨h2, nn, h1, h3⟩
  simp only [List.cons_append, List.nil_append, List.mem_cons, List.not_mem_nil, or_false] at hy
  rcases hy with e | e | e | e | e | e | e | e | e | e | e | e | e | e <;> subst e
  · exact ref hWA nW (fun x hx => (okx x hx).pre pA) ll bad
  · exact ref hWA nW (fun x hx => (okx x hx).pre pA) ll bad
  · exact ref hWA nW (fun x hx => (okx x hx).pre pA) ll bad
  · exact ref hWA nW (fun x hx => (okx x hx).pre pA) ll bad
  · exact at_ (nn := "NoneType") rfl (fun j e => by cases e) (by decide)
  · exact at_ (nn := "int") rfl (fun j e => by cases e) (by decide)
  · refine BadT.gro (.inl ⟨fun j e => by cases e; exact nB1, "dict", ?_, by decide⟩) g11 d11
    rw [tyD_ref, hB1]; rfl
  · exact ref hB2 nB2 (fun x hx => by cases hx) (by simp) rfl
  · exact .inr ⟨[], .inl rfl, (fun x hx => by cases hx), by simp, rfl⟩
  · exact ref hB3 nB3 (fun x hx => by rw [List.mem_singleton.mp hx]; exact okr_ints (by simp) (fun e he => by cases he)) (by simp) rfl
  · exact ref hB4 nB4 (fun x hx => by rw [List.mem_singleton.mp hx]; exact okr_at okD_i rfl) (by simp) rfl
  · exact ref hB5 nB5 (fun x hx => by rw [List.mem_singleton.mp hx]; exact okr_ints (by simp) (fun e he => by rw [List.eq_of_mem_replicate he]; exact okD_i)) (by simp) rfl
  · exact ref hB6 nB6 (fun x hx => by rw [List.eq_of_mem_replicate hx]; exact okr_tD (by omega)) (by simp) (tab_len (.inr (by simp)))
  · exact at_ (nn := "str") rfl (fun j e => by cases e) (by decide)
theorem bad_table_ok {T n : Nat} {tb : List (List Int)} (h : Dr A i L C) (hT : A[T]? = some (.lst (tb.map tD))) (nT : T ≠ i ∧ T ≠ L) (g : TG n tb)
    (q : ∀ (d : D) (A' : AH), Dr A' i L C → Gro A A' i L → BadT A' i L d → Q d A') : sp__law_bad_table [.ref i, .ref T] A Q E := by
  unfold sp__law_bad_table defSp t__law_bad_table
  refine ⟨rfl, ?_⟩
  simp only [startD_c, startD_e, List.replicate]
  have l1 := g.l1
  have l6 := g.l6
  have n1 := g.n1
  have n6 := g.n6
  refine wpB_c ?_
  simp only [wpS, wp, wpEs]
  refine opt_get (a := D.ref T) rfl ?_
  obtain ⟨r0, rs, et, hl0⟩ := g.hd
  have ht : TabD A (.ref T) tb := .inr ⟨T, rfl, hT⟩
  rw [et] at ht
  rw [ht.zero, len_tD, hl0]
  refine opt_get (a := D.ref i) rfl ?_
  refine opt_get (a := D.ref T) rfl ?_
  rw [bi_lenL hT, List.length_map]
  refine take_k h (by omega) (by omega) fun mi A1 m0 m1 d1 g1 => ?_
  refine ⟨rfl, ?_⟩
  simp only [setAll, List.set]
  obtain ⟨m, em⟩ : ∃ m : Nat, mi = (m : Int) := ⟨mi.toNat, by omega⟩
  subst em
  have hm : m < tb.length := by omega
  have hT1 := g1.at hT nT
  obtain ⟨r, er⟩ : ∃ r, tb[m]? = some r := ⟨tb[m], List.getElem?_eq_getElem hm⟩
  have hrt := List.mem_of_getElem? er
  have hr := (g.row r hrt).1
  refine wpB_c ?_
  simp only [wpS, wp]
  refine opt_get (a := D.ref T) rfl ?_
  refine opt_get (a := D.int m) rfl ?_
  rw [idx_lst hT1, atI_nat, List.getElem?_map, er]
  refine opt_get (a := tD r) rfl ?_
  simp only [List.set]
  refine wpB_c ?_
  simp only [wpS, wp, wpEs, wpO]
  refine opt_get (a := D.ref i) rfl ?_
  refine opt_get (a := tD r) rfl ?_
  refine ⟨by simp [LIM], ?_⟩
  refine add_tup (by rw [List.length_map]; simp [LIM]; omega) ?_
  refine opt_get (a := tD r) rfl ?_
  refine (show slP (tD r) (some 1) none A1 _ from ?_)
  refine sl_row (by omega) ?_
  refine opt_get (a := D.int n) rfl ?_
  refine ⟨by simp [LIM], ?_⟩
  refine add_tup (by rw [List.length_map]; simp [LIM]; omega) ?_
  refine opt_get (a := tD r) rfl ?_
  rw [bi_list_tD]
  refine ⟨by simp [LIM], ?_⟩
  refine opt_get (a := D.int n) rfl ?_
  refine mul_one n1 (by omega) ?_
  refine ⟨by simp [LIM], ?_⟩
  refine opt_get (a := D.int n) rfl ?_
  refine mul_one n1 (by omega) ?_
  refine opt_get (a := tD r) rfl ?_
  refine (show slP (tD r) (some 1) none (A1 ++ [Cell.lst (r.map D.int)]) _ from ?_)
  refine sl_row (by omega) ?_
  refine ⟨by simp [LIM], ?_⟩
  refine add_tup (by rw [List.length_map]; simp [LIM]; omega) ?_
  refine ⟨by simp [LIM], ?_⟩
  have hR : (A1 ++ [Cell.lst (r.map D.int)])[A1.length]? = some (.lst (r.map .int)) := last_app
  have d2 := d1.app [Cell.lst (r.map D.int)]
  have g2 := g1.apps [Cell.lst (r.map D.int)]
  have dl := d1.lt
  have nR : A1.length ≠ i ∧ A1.length ≠ L := by omega
  generalize A1.length = R at *
  generalize A1 ++ [Cell.lst (r.map D.int)] = A2 at *
  refine pick_new (A0 := A2) d2 (by simp) (by simp) fun y A3 hy d3 _ g3 => ?_
  have br := items_br hr n1 n6 (g3.at hR nR) y hy
  have g03 := g2.trans g3
  have hT3 := g03.at hT nT
  obtain ⟨b1, b2, ⟨p, b3⟩, b4⟩ := br
  have fin : ∀ (d : D) (x6 : Option D), OkR A3 d → rowB n d = false → (∀ es, d = .tup es → es.length = n ∨ es.length = 7 ∨ (es.length = n + 1 ∧ 2 ≤ tb.length)) →
      wpB F__law_bad_table S tailX { nx := fun x A1 => Q D.non A1, rt := Q, bk := fun x x_1 => False, ct := fun x x_1 => False, ex := fun c p x A1 => E c p A1 } [some (.ref i), some (.ref T), some (.int n), some (.int m), some (tD r), some d, none] A3 := fun d x6 h1 h2 h3 =>
    badT_ok d3 hT3 nT g hm hr h1 h2 h3 fun d' A' d4 g4 hb => q d' A' d4 (g03.trans g4) hb
  refine wpB_c ?_
  simp only [wpS, wp, wpEs, asT]
  refine opt_get (a := y) rfl ?_
  refine opt_get (a := tD r) rfl ?_
  refine ⟨by simp [LIM], ?_⟩
  refine add_tup (by rw [List.length_map]; simp [LIM]; omega) ?_
  have key : ∀ K : Bool → Prop, (∀ b : Bool, (b = false → y ≠ .tup (r.map .int ++ [.int 0])) → K b) → cmpP .eq y (.tup (r.map D.int ++ [.int 0])) A3 K := fun K hK => by
    rw [cmp_eq]
    by_cases e : y = .tup (r.map .int ++ [.int 0])
    · subst e
      rw [eqP_same toP_ii toP_ii rfl]
      exact hK true fun z => by cases z
    · rw [eqP_of b3 toP_ii (by cases y <;> rfl)]
      exact hK _ fun _ => e
  refine key _ fun bb hbb => ?_
  have big : wpB F__law_bad_table S (.cons (.set 5 (.bin .mul (.tup (.cons (.int 0) .nil)) (.int 7))) .nil) ⟨fun δ1 A1 => wpB F__law_bad_table S tailX { nx := fun x A1 => Q D.non A1, rt := Q, bk := fun x x_1 => False, ct := fun x x_1 => False, ex := fun c p x A1 => E c p A1 } δ1 A1, Q, fun x x_1 => False, fun x x_1 => False, fun c p x A1 => E c p A1⟩ [some (.ref i), some (.ref T), some (.int n), some (.int m), some (tD r), some y, none] A3 := by
    refine wpB_c ?_
    simp only [wpS, wp, wpEs]
    refine ⟨by simp [LIM], ?_⟩
    refine mul_one (n := 7) (by decide) (by decide) ?_
    refine wpB_n ?_
    exact fin (.tup (List.replicate 7 (.int 0))) none (okr_ints (by simp) (fun e he => by rw [List.eq_of_mem_replicate he]; exact okD_i)) (rowB_len (by rw [List.length_replicate]; omega)) fun es e => by cases e; exact .inr (.inl (by simp))
  have stay : (y = .tup (r.map .int ++ [.int 0]) → 2 ≤ tb.length) → wpB F__law_bad_table S tailX { nx := fun x A1 => Q D.non A1, rt := Q, bk := fun x x_1 => False, ct := fun x x_1 => False, ex := fun c p x A1 => E c p A1 } [some (.ref i), some (.ref T), some (.int n), some (.int m), some (tD r), some y, none] A3 := fun h2 =>
    fin y none b1 b2 fun es e => by
      rcases b4 with e4 | e4
      · have := h2 e4
        rw [e4] at e
        cases e
        exact .inr (.inr ⟨by rw [List.length_append, List.length_map, List.length_singleton, hr], this⟩)
      · exact .inl (e4 es e)
  cases bb with
  | false =>
    refine ite_f (b := false) rfl ?_
    refine (if_neg (by decide)).mpr ?_
    exact stay fun z => absurd z (hbb rfl)
  | true =>
    refine ite_t (b := true) rfl ?_
    refine opt_get (a := D.ref T) rfl ?_
    rw [bi_lenL hT3, List.length_map, cmp_eqI]
    by_cases h1 : tb.length = 1
    · refine ite_t (b := decide ((tb.length : Int) = 1)) (decide_eq_true (by omega)) ?_
      exact big
    · refine ite_f (b := decide ((tb.length : Int) = 1)) (decide_eq_false (by omega)) ?_
      refine wpB_n ?_
      exact stay fun _ => by omega
end
end Z64
set_option Elab.async false
set_option linter.all false
set_option maxRecDepth 100000
set_option maxHeartbeats 4000000
/-! k64: what is refused. -/
namespace Z64
open PySem Zw
section
variable {A A0 Ab : AH} {i L C : Nat} {Q : DK} {E : DX}
/-- no list of one to six changes -/
def BadC (A : AH) (i L : Nat) (x : D) : Prop := ((∀ j, x = .ref j → j ≠ i ∧ j ≠ L) ∧ ∃ n, tyD A x = some (.b n) ∧ n ≠ "list" ∧ n ≠ "tuple") ∨
  ∃ ds, (x = .tup ds ∨ ∃ j, x = .ref j ∧ A[j]? = some (.lst ds) ∧ j ≠ i ∧ j ≠ L) ∧ ds.length ≤ 60 ∧ (∀ y ∈ ds, ok3 A y) ∧ (ds.all chgB = false ∨ ds.length = 0 ∨ 6 < ds.length)
theorem ok3_pre {A' : AH} {d : D} (p : A <+: A') (h : ok3 A d) : ok3 A' d := h.mono fun d hd => okD_pre p hd
theorem BadC.gro {A' : AH} {d : D} (h : BadC A i L d) (g : Gro A A' i L) (h' : Dr A' i L C) : BadC A' i L d := by
  rcases h with ⟨h1, n, h2, h3⟩ | ⟨ds, h1, h2, h3, h4⟩
  · refine .inl ⟨h1, n, ?_, h3⟩
    cases d with
    | ref j =>
      have nj := h1 j rfl
      rw [tyD_ref] at h2 ⊢
      cases e : A[j]? with
      | none => rw [e] at h2; cases h2
      | some c => rw [e] at h2; rw [g.at e nj]; exact h2
    | _ => exact h2
  · refine .inr ⟨ds, ?_, h2, fun x hx => (h3 x hx).mono fun d hd => g.ok h' hd, h4⟩
    rcases h1 with e | ⟨j, e, hj, nj⟩
    · exact .inl e
    · exact .inr ⟨j, e, g.at hj nj, nj⟩
theorem SeqAt.seq {x : D} {ds : List D} (h : SeqAt A x ds) : ∃ n, tyD A x = some (.b n) ∧ isSeqD A x = true := by
  rcases h with h | ⟨j, e, h⟩
  · subst h; exact ⟨_, isSeq_tup.1, isSeq_tup.2⟩
  · subst e; exact ⟨_, (isSeq_ref h).1, (isSeq_ref h).2⟩
theorem table_of_bad {x y : D} (h : BadC A i L x) (e : ∀ A', A <+: A' → E x_BadChanges [] A') : sp_table_of [x, y] A Q E := by
  unfold sp_table_of defSp t_table_of
  refine ⟨rfl, ?_⟩
  simp only [startD_c, startD_e, List.replicate]
  refine wpB_c ?_
  simp only [wpS, wp, wpEs]
  refine opt_get (a := x) rfl ?_
  rcases h with ⟨_, n, hn, n1, n2⟩ | ⟨ds, h1, hl, ho, hb⟩
  · have hs : isSeqD A x = false := by
      unfold isSeqD
      rw [hn]
      show (n == "list" || n == "tuple") = false
      rw [beq_eq_false_iff_ne.mpr n1, beq_eq_false_iff_ne.mpr n2]; rfl
    exact need_changes_ok hn (fun z => by rw [hs] at z; cases z) (fun A1 xs z => by rw [hs] at z; cases z) fun A1 p1 _ => e A1 p1
  · have sq : SeqAt A x ds := by
      rcases h1 with e1 | ⟨j, e1, hj, _⟩
      · exact .inl e1
      · exact .inr ⟨j, e1, hj⟩
    obtain ⟨n, hn, hs⟩ := sq.seq
    refine need_changes_ok hn (fun _ => ⟨ds, sq.items, by unfold LIM; omega, ho⟩) (fun A1 xs _ hi hc p1 => ?_) fun A1 p1 _ => e A1 p1
    rw [sq.items] at hi
    cases hi
    have hb : ds.length = 0 ∨ 6 < ds.length := by
      rcases hb with z | z
      · rw [hc] at z; cases z
      · exact z
    refine wpB_c ?_
    simp only [wpS, wp, wpEs, asT]
    refine opt_get (a := x) rfl ?_
    rw [(sq.pre p1).len, cmp_le]
    rcases hb with z | z
    · refine ite_f (b := decide ((1 : Int) ≤ (ds.length : Int))) (decide_eq_false (by omega)) ?_
      refine ite_t (b := !false) rfl ?_
      exact e A1 p1
    · refine ite_t (b := decide ((1 : Int) ≤ (ds.length : Int))) (decide_eq_true (by omega)) ?_
      rw [cmp_le]
      refine ite_t (b := !decide ((ds.length : Int) ≤ 6)) (by rw [decide_eq_false (by omega)]; rfl) ?_
      exact e A1 p1
theorem table_of_val {P : Nat} {cs : List Ch} {y : D} (hP : A[P]? = some (.lst (cs.map cD))) (g : ∀ c ∈ cs, Good c) (l1 : 1 ≤ cs.length) (lc : cs.length ≤ 6) (hy : okD A y) (hv : isValD y = false)
    (e : ∀ A', A <+: A' → E x_BadValue [] A') : sp_table_of [.ref P, y] A Q E := by
  unfold sp_table_of defSp t_table_of
  refine ⟨rfl, ?_⟩
  simp only [startD_c, startD_e, List.replicate]
  refine wpB_c ?_
  simp only [wpS, wp, wpEs]
  refine opt_get (a := D.ref P) rfl ?_
  refine need_changes_ok (isSeq_ref hP).1 (fun _ => ⟨cs.map cD, cellL_of hP, by rw [List.length_map]; unfold LIM; omega, fun y hy => ?_⟩) (fun A1 xs _ _ _ p1 => ?_) (fun A1 p1 z => ?_)
  · obtain ⟨c, _, ec⟩ := List.mem_map.mp hy
    subst ec
    exact ok3_c
  · have hP1 := pre_at p1 hP
    refine wpB_c ?_
    simp only [wpS, wp, wpEs, asT]
    refine opt_get (a := D.ref P) rfl ?_
    rw [bi_lenL hP1, cmp_le, List.length_map]
    refine ite_t (b := decide ((1 : Int) ≤ (cs.length : Int))) (decide_eq_true (by omega)) ?_
    rw [cmp_le]
    refine ite_f (b := !decide ((cs.length : Int) ≤ 6)) (by rw [decide_eq_true (by omega)]; rfl) ?_
    refine wpB_n ?_
    refine wpB_c ?_
    simp only [wpS, wp, wpEs, asT]
    refine opt_get (a := y) rfl ?_
    refine val_ok (okD_pre p1 hy) ?_
    rw [hv, tru_b]
    refine ite_t (b := !false) rfl ?_
    exact e A1 p1
  · rcases z with z | ⟨xs, h1, h2⟩
    · rw [(isSeq_ref hP).2] at z; cases z
    · rw [show itemsD A (.ref P) = some (cs.map cD) from cellL_of hP] at h1
      cases h1
      rw [all_good g] at h2; cases h2
/-- changes that are none, drawn -/
theorem some_bad {f : DSt → AH → Prop} {r : DK} {b c : DSt → AH → Prop} {x : Nat → List D → DSt → AH → Prop} {P : Nat} {cs : List Ch} {w : D} {x1 x3 x4 y6 : Option D}
    (h : Dr A i L C) (hP : A[P]? = some (.lst (cs.map cD))) (nP : P ≠ i ∧ P ≠ L) (l1 : 1 ≤ cs.length) (lc : cs.length ≤ 6) (hw : Bad A w)
    (q : ∀ (d : D) (A' : AH), Dr A' i L C → Gro A A' i L → BadC A' i L d → f [some (.ref i), x1, some (.ref P), x3, x4, some w, some d] A') :
    wpS F__law_refused S (.set 6 (.call 21 (.cons (.var 0) (.cons (.lst (.cons (.lst (.nil)) (.cons (.tup (.nil)) (.cons (.non) (.cons (.int 5) (.cons (.bin .add (.var 2) (.lst (.cons (.var 5) .nil))) (.cons (.lst (.cons (.var 5) .nil)) (.cons (.bin .mul (.lst (.cons (.idx (.var 2) (.int 0)) .nil)) (.int 7)) (.cons (.disp [] (.nil)) (.cons (.str "put") .nil)))))))))) .nil)))) ⟨f, r, b, c, x⟩ [some (.ref i), x1, some (.ref P), x3, x4, some w, y6] A := by
  have dl := h.lt
  simp only [wpS, wp, wpEs]
  refine opt_get (a := D.ref i) rfl ?_
  refine ⟨by simp [LIM], ?_⟩
  refine ⟨by simp [LIM], ?_⟩
  have hB1 : (A ++ [Cell.lst []])[A.length]? = some (.lst []) := last_app
  have p1 := List.prefix_append A [Cell.lst []]
  have nB1 : A.length ≠ i ∧ A.length ≠ L := by omega
  generalize hB1e : A.length = B1 at *
  generalize A ++ [Cell.lst []] = A1 at *
  have lA1 := p1.length_le
  refine opt_get (a := D.ref P) rfl ?_
  refine opt_get (a := w) rfl ?_
  refine ⟨by simp [LIM], ?_⟩
  refine bin_addL (at_app (pre_at p1 hP)) last_app (by simp [LIM]; omega) ?_
  have hB2 : (A1 ++ [Cell.lst [w]] ++ [Cell.lst (cs.map cD ++ [w])])[(A1 ++ [Cell.lst [w]]).length]? = some (.lst (cs.map cD ++ [w])) := last_app
  have p12 := (List.prefix_append A1 [Cell.lst [w]]).trans (List.prefix_append _ [Cell.lst (cs.map cD ++ [w])])
  have p2 := p1.trans p12
  have lB2 : A1.length ≤ (A1 ++ [Cell.lst [w]]).length := by simp
  have nB2 : (A1 ++ [Cell.lst [w]]).length ≠ i ∧ (A1 ++ [Cell.lst [w]]).length ≠ L := by omega
  have hB1 := pre_at p12 hB1
  generalize (A1 ++ [Cell.lst [w]]).length = B2 at *
  generalize A1 ++ [Cell.lst [w]] ++ [Cell.lst (cs.map cD ++ [w])] = A2 at *
  have lA2 := p2.length_le
  refine opt_get (a := w) rfl ?_
  refine ⟨by simp [LIM], ?_⟩
  have hB3 : (A2 ++ [Cell.lst [w]])[A2.length]? = some (.lst [w]) := last_app
  have p3 := p2.trans (List.prefix_append A2 [Cell.lst [w]])
  have nB3 : A2.length ≠ i ∧ A2.length ≠ L := by omega
  have hB1 := at_app (ys := [Cell.lst [w]]) hB1
  have hB2 := at_app (ys := [Cell.lst [w]]) hB2
  generalize A2.length = B3 at *
  generalize A2 ++ [Cell.lst [w]] = A3 at *
  have lA3 := p3.length_le
  obtain ⟨c0, cr, ec⟩ : ∃ c0 cr, cs = c0 :: cr := by
    cases cs with
    | nil => simp at l1
    | cons c0 cr => exact ⟨c0, cr, rfl⟩
  refine opt_get (a := D.ref P) rfl ?_
  have hP3 := pre_at p3 hP
  rw [ec, List.map_cons] at hP3
  rw [idx_lst hP3, atI_z, opt_s]
  refine ⟨by simp [LIM], ?_⟩
  refine bin_mulL last_app ⟨by decide, by decide, by simp [LIM]⟩ ?_
  have e7 : (List.replicate (7 : Int).toNat [cD c0]).flatten = List.replicate 7 (cD c0) := rfl
  rw [e7]
  have hB4 : (A3 ++ [Cell.lst [cD c0]] ++ [Cell.lst (List.replicate 7 (cD c0))])[(A3 ++ [Cell.lst [cD c0]]).length]? = some (.lst (List.replicate 7 (cD c0))) := last_app
  have p34 := (List.prefix_append A3 [Cell.lst [cD c0]]).trans (List.prefix_append _ [Cell.lst (List.replicate 7 (cD c0))])
  have p4 := p3.trans p34
  have lB4 : A3.length ≤ (A3 ++ [Cell.lst [cD c0]]).length := by simp
  have nB4 : (A3 ++ [Cell.lst [cD c0]]).length ≠ i ∧ (A3 ++ [Cell.lst [cD c0]]).length ≠ L := by omega
  have hB1 := pre_at p34 hB1
  have hB2 := pre_at p34 hB2
  have hB3 := pre_at p34 hB3
  generalize (A3 ++ [Cell.lst [cD c0]]).length = B4 at *
  generalize A3 ++ [Cell.lst [cD c0]] ++ [Cell.lst (List.replicate 7 (cD c0))] = A4 at *
  have lA4 := p4.length_le
  refine ⟨by decide, rfl, ?_⟩
  generalize hkv : ([] : List L2.Key).zip ([] : List D) = kv
  generalize List.foldl (fun acc kv => putD acc kv.1 kv.2) [] kv = kvs
  have hB5 : (A4 ++ [Cell.dct kvs])[A4.length]? = some (.dct kvs) := last_app
  have p5 := p4.trans (List.prefix_append A4 [Cell.dct kvs])
  have nB5 : A4.length ≠ i ∧ A4.length ≠ L := by omega
  have hB1 := at_app (ys := [Cell.dct kvs]) hB1
  have hB2 := at_app (ys := [Cell.dct kvs]) hB2
  have hB3 := at_app (ys := [Cell.dct kvs]) hB3
  have hB4 := at_app (ys := [Cell.dct kvs]) hB4
  generalize A4.length = B5 at *
  generalize A4 ++ [Cell.dct kvs] = A5 at *
  refine ⟨by simp [LIM], ?_⟩
  refine pick_new (A0 := A5) (pre_dr h p5) (by simp) (by simp) fun y A6 hy d6 _ g6 => ?_
  refine q y A6 d6 ((pre_gro p5).trans g6) ?_
  have hw5 : ok3 A5 w := ok3_pre p5 hw.1
  have okc : ∀ y ∈ cs.map cD, ok3 A5 y := fun y hy => by
    obtain ⟨c, _, e⟩ := List.mem_map.mp hy
    subst e; exact ok3_c
  have ref : ∀ {j : Nat} {ds : List D}, A5[j]? = some (.lst ds) → (j ≠ i ∧ j ≠ L) → (∀ x ∈ ds, ok3 A5 x) → ds.length ≤ 60 → (ds.all chgB = false ∨ ds.length = 0 ∨ 6 < ds.length) → BadC A6 i L (.ref j) := fun {j ds} hj nj ho hl hb =>
    BadC.gro (.inr ⟨ds, .inr ⟨j, rfl, hj, nj⟩, hl, ho, hb⟩) g6 d6
  simp only [List.mem_cons, List.not_mem_nil, or_false] at hy
  rcases hy with e | e | e | e | e | e | e | e | e <;> subst e
  · exact ref hB1 nB1 (fun x hx => by cases hx) (by simp) (.inr (.inl rfl))
  · exact .inr ⟨[], .inl rfl, by simp, (fun x hx => by cases hx), .inr (.inl rfl)⟩
  · exact .inl ⟨(fun j e => by cases e), "NoneType", rfl, by decide, by decide⟩
  · exact .inl ⟨(fun j e => by cases e), "int", rfl, by decide, by decide⟩
  · refine ref hB2 nB2 (fun x hx => ?_) (by simp; omega) (.inl ?_)
    · rcases List.mem_append.mp hx with hx | hx
      · exact okc x hx
      · rw [List.mem_singleton.mp hx]; exact hw5
    · rw [List.all_append, show ([w] : List D).all chgB = false from by simp [hw.2], Bool.and_false]
  · exact ref hB3 nB3 (fun x hx => by rw [List.mem_singleton.mp hx]; exact hw5) (by simp) (.inl (by simp [hw.2]))
  · exact ref hB4 nB4 (fun x hx => by rw [List.eq_of_mem_replicate hx]; exact ok3_c) (by simp) (.inr (.inr (by simp)))
  · refine BadC.gro (.inl ⟨(fun j e => by cases e; exact nB5), "dict", ?_, by decide, by decide⟩) g6 d6
    rw [tyD_ref, hB5]; rfl
  · exact .inl ⟨(fun j e => by cases e), "str", rfl, by decide, by decide⟩
end
end Z64
set_option Elab.async false
set_option linter.all false
set_option maxRecDepth 100000
set_option maxHeartbeats 4000000
/-! k64: the law. -/
namespace Z64
open PySem Zw
section
variable {A A0 Ab : AH} {i L C : Nat} {Q : DK} {E : DX}
theorem isi_exc {c : Nat} {k : Bool → DK} : subT S (.c x_BadTable) (.c 2) = true ∧ subT S (.c x_BadChanges) (.c 1) = true ∧ subT S (.c x_BadValue) (.c 3) = true := ⟨by decide, by decide, by decide⟩
theorem refused_ok {T P n : Nat} {tb : List (List Int)} {cs : List Ch} (h : Dr A i L C) (hT : A[T]? = some (.lst (tb.map tD))) (nT : T ≠ i ∧ T ≠ L) (gt : TG n tb) (hP : A[P]? = some (.lst (cs.map cD))) (nP : P ≠ i ∧ P ≠ L) (g : ∀ c ∈ cs, Good c) (l1 : 1 ≤ cs.length) (lc : cs.length ≤ 6)
    (q : ∀ (A' : AH), Q (.bl true) A') : sp__law_refused [.ref i, .ref T, .ref P] A Q E := by
  unfold sp__law_refused defSp t__law_refused
  refine ⟨rfl, ?_⟩
  simp only [startD_c, startD_e, List.replicate]
  refine wpB_c ?_
  simp only [wpS, wp, wpEs]
  refine opt_get (a := D.ref i) rfl ?_
  refine opt_get (a := D.ref T) rfl ?_
  refine bad_table_ok h hT nT gt fun d A1 d1 g1 hb1 => ?_
  refine opt_get (a := D.ref i) rfl ?_
  refine ⟨by simp [LIM], ?_⟩
  refine ⟨by simp [LIM], ?_⟩
  have hB1 : (A1 ++ [Cell.lst [D.int 2]])[A1.length]? = some (.lst [D.int 2]) := last_app
  have p1 := List.prefix_append A1 [Cell.lst [D.int 2]]
  generalize A1.length = B1 at *
  generalize A1 ++ [Cell.lst [D.int 2]] = A2 at *
  refine ⟨by decide, rfl, ?_⟩
  generalize hkv : ([] : List L2.Key).zip ([] : List D) = kv
  generalize List.foldl (fun acc kv => putD acc kv.1 kv.2) [] kv = kvs
  have hB2 : (A2 ++ [Cell.dct kvs])[A2.length]? = some (.dct kvs) := last_app
  have p2 := p1.trans (List.prefix_append A2 [Cell.dct kvs])
  have hB1 := at_app (ys := [Cell.dct kvs]) hB1
  generalize A2.length = B2 at *
  generalize A2 ++ [Cell.dct kvs] = A3 at *
  refine ⟨by simp [LIM], ?_⟩
  have d3 := pre_dr d1 p2
  refine pick_new (A0 := A3) d3 (by simp) (by simp) fun y A4 hy d4 _ g4 => ?_
  have odd : okD A4 y ∧ isValD y = false := by
    simp only [List.mem_cons, List.not_mem_nil, or_false] at hy
    rcases hy with e | e | e | e | e <;> subst e
    · exact ⟨okS, rfl⟩
    · exact ⟨okT, rfl⟩
    · exact ⟨okB, rfl⟩
    · exact ⟨g4.ok d4 (ok_ref hB1), rfl⟩
    · exact ⟨g4.ok d4 (ok_dct hB2), rfl⟩
  have g14 : Gro A1 A4 i L := (pre_gro p2).trans g4
  have hb4 := hb1.gro g14 d4
  have g04 := g1.trans g14
  have hP4 := g04.at hP nP
  refine ⟨by simp [LIM], rfl, ?_⟩
  simp only [wpGs, wpG, List.set]
  refine wpB_c ?_
  simp only [wpS, wp, wpEs, asT]
  refine opt_get (a := d) rfl ?_
  refine bad_from hb4 fun A5 p5 => ?_
  refine ⟨rfl, ?_⟩
  refine opt_get (a := TyT.c x_BadTable) rfl ⟨(by decide : x_BadTable ∈ [0, 1, 2, 3, 4]), ?_⟩
  rw [show subT S (.c x_BadTable) (.c 2) = true from by decide, tru_b]
  refine ite_f (b := !true) rfl ?_
  refine wpB_n ?_
  have d5 := pre_dr d4 p5
  have hP5 := pre_at p5 hP4
  have odd5 := okD_pre p5 odd.1
  refine wpB_c ?_
  simp only [wpS, wp, wpEs]
  refine opt_get (a := D.ref i) rfl ?_
  refine opt_get (a := D.ref P) rfl ?_
  obtain ⟨c0, cr, ec⟩ : ∃ c0 cr, cs = c0 :: cr := by
    cases cs with
    | nil => simp at l1
    | cons c0 cr => exact ⟨c0, cr, rfl⟩
  have hP5' := hP5
  rw [ec, List.map_cons] at hP5'
  rw [idx_lst hP5', atI_z, opt_s]
  refine bad_change_ok d5 fun w A6 hw d6 g6 => ?_
  have hP6 := g6.at hP5 nP
  refine wpB_c ?_
  refine some_bad d6 hP6 nP l1 lc hw fun x A7 d7 g7 hx => ?_
  have hP7 := g7.at hP6 nP
  have odd7 := g7.ok d7 (g6.ok d6 odd5)
  refine wpB_c ?_
  simp only [wpS, wp, wpEs, asT]
  refine opt_get (a := x) rfl ?_
  refine opt_get (a := y) rfl ?_
  refine table_of_bad hx fun A8 p8 => ?_
  refine ⟨rfl, ?_⟩
  refine opt_get (a := TyT.c x_BadChanges) rfl ⟨(by decide : x_BadChanges ∈ [0, 1, 2, 3, 4]), ?_⟩
  rw [show subT S (.c x_BadChanges) (.c 1) = true from by decide, tru_b]
  refine ite_f (b := !true) rfl ?_
  refine wpB_n ?_
  refine wpB_c ?_
  simp only [wpS, wp, wpEs]
  refine opt_get (a := D.ref P) rfl ?_
  refine opt_get (a := y) rfl ?_
  refine table_of_val (pre_at p8 hP7) g l1 lc (okD_pre p8 odd7) odd.2 fun A9 p9 => ?_
  refine ⟨rfl, ?_⟩
  refine opt_get (a := TyT.c x_BadValue) rfl ⟨(by decide : x_BadValue ∈ [0, 1, 2, 3, 4]), ?_⟩
  rw [show subT S (.c x_BadValue) (.c 3) = true from by decide]
  exact q A9
theorem ne_i {p q : Nat} {ns : List Int} {k : Bool → Prop} (h1 : A[p]? = some (.lst (ns.map .int))) (h2 : A[q]? = some (.lst (ns.map .int))) : cmpP .ne (.ref p) (.ref q) A k = k false := by
  show eqP A (.ref p) (.ref q) (fun b => k (!b)) = _
  have a1 : ∀ {p : Nat}, A[p]? = some (.lst (ns.map .int)) → toP A 12 (.ref p) = some (.list (ns.map PyData.int)) := fun {p} h => by
    show ((cellL A p).bind fun xs => (xs.mapM (toP A 11)).map PyData.list) = _
    rw [cellL_of h]
    show ((ns.map D.int).mapM (toP A 11)).map PyData.list = _
    rw [toP_is]; rfl
  have a3 : lenNe A (.ref p) (.ref q) = false := by unfold lenNe; simp only [cellL_of h1, cellL_of h2]; simp
  rw [eqP_same (a1 h1) (a1 h2) a3]; rfl
theorem toP_tb {n : Nat} : ∀ tb : List (List Int), (tb.map tD).mapM (toP A (n + 2)) = some (tb.map fun r => .tuple (r.map PyData.int))
  | [] => rfl
  | r :: tb => by
    rw [List.map_cons, List.mapM_cons, toP_tb tb]
    have : toP A (n + 2) (tD r) = some (.tuple (r.map PyData.int)) := by
      show ((r.map D.int).mapM (toP A (n + 1))).map PyData.tuple = _
      rw [toP_is]; rfl
    rw [this]; rfl
theorem ne_tb {p q : Nat} {tb : List (List Int)} {k : Bool → Prop} (h1 : A[p]? = some (.lst (tb.map tD))) (h2 : A[q]? = some (.lst (tb.map tD))) : cmpP .ne (.ref p) (.ref q) A k = k false := by
  show eqP A (.ref p) (.ref q) (fun b => k (!b)) = _
  have a1 : ∀ {p : Nat}, A[p]? = some (.lst (tb.map tD)) → toP A 12 (.ref p) = some (.list (tb.map fun r => .tuple (r.map PyData.int))) := fun {p} h => by
    show ((cellL A p).bind fun xs => (xs.mapM (toP A 11)).map PyData.list) = _
    rw [cellL_of h]
    show ((tb.map tD).mapM (toP A 11)).map PyData.list = _
    rw [toP_tb]; rfl
  have a3 : lenNe A (.ref p) (.ref q) = false := by unfold lenNe; simp only [cellL_of h1, cellL_of h2]; simp
  rw [eqP_same (a1 h1) (a1 h2) a3]; rfl
def wds : List Str := ["safe", "beneath", "turns", "behind", "stop", "own", "anew", "roots", "records"]
theorem words_ok (q : Q (.ref A.length) (A ++ [.lst (wds.map .str)])) : sp__law_words [] A Q E := by
  unfold sp__law_words defSp t__law_words
  refine ⟨rfl, ?_⟩
  simp only [startD_e, List.replicate]
  refine wpB_c ?_
  simp only [wpS, wp, wpEs]
  exact ⟨by simp [LIM], q⟩
theorem toPs_s {n : Nat} : ∀ ss : List Str, (ss.map D.str).mapM (toP A (n + 1)) = some (ss.map PyData.str)
  | [] => rfl
  | s :: ss => by rw [List.map_cons, List.mapM_cons, toPs_s ss]; rfl
theorem ne_words {k : Bool → Prop} : cmpP .ne (.tup (wds.map .str)) (.tup (wds.map .str)) A k = k false := by
  show eqP A _ _ (fun b => k (!b)) = _
  have h1 : toP A 12 (.tup (wds.map .str)) = some (.tuple (wds.map PyData.str)) := by
    show ((wds.map D.str).mapM (toP A 11)).map PyData.tuple = _
    rw [toPs_s]; rfl
  rw [eqP_same h1 h1 rfl]; rfl
theorem bi_tupleT {ds : List D} : biP .tuple [.tup ds] A Q = Q (.tup ds) A := rfl
theorem bi_listT {ds : List D} : biP .list [.tup ds] A Q = Q (.ref A.length) (A ++ [.lst ds]) := rfl
theorem law_true : ∀ (ns : List Int) (d : D) (A : AH), ns.length ≤ 63 → (∀ z ∈ ns, Builtin.Int.intBits z ≤ 1048576) → Start ns d A → sp_law [d] A (fun v _ => v = .bl true) fun _ _ _ => False := by
  intro ns d A hl _ hs
  unfold sp_law defSp t_law
  refine ⟨rfl, ?_⟩
  simp only [startD_c, startD_e, List.replicate]
  refine wpB_c ?_
  simp only [wpS, wp, wpEs]
  refine opt_get (a := d) rfl ?_
  refine begun_dr hs hl fun A1 p1 h1 => ?_
  generalize A.length + 2 = i at *
  generalize A.length + 1 = C at *
  generalize A.length = L at *
  refine wpB_c ?_
  simp only [wpS, wp, wpEs]
  refine opt_get (a := D.ref i) rfl ?_
  refine law_table_ok h1 fun A2 T n tb d2 _ hT nT g => ?_
  refine wpB_c ?_
  simp only [wpS, wp, wpEs]
  refine opt_get (a := D.ref i) rfl ?_
  refine opt_get (a := D.ref T) rfl ?_
  rw [bi_list hT]
  refine opt_get (a := D.ref T) rfl ?_
  rw [bi_tuple (at_app hT)]
  have hG : (A2 ++ [Cell.lst (tb.map tD)])[A2.length]? = some (.lst (tb.map tD)) := last_app
  have hT := at_app (ys := [Cell.lst (tb.map tD)]) hT
  have d3 := d2.app [Cell.lst (tb.map tD)]
  have dl := d2.lt
  have nG : A2.length ≠ i ∧ A2.length ≠ L := by omega
  generalize A2.length = G at *
  generalize A2 ++ [Cell.lst (tb.map tD)] = A3 at *
  refine ⟨by simp [LIM], ?_⟩
  refine pick_new (A0 := A3) d3 (by simp) (by simp) fun x A4 hx d4 _ g4 => ?_
  have hT4 := g4.at hT nT
  have hG4 := g4.at hG nG
  have hx4 : TabD A4 x tb := by
    simp only [List.mem_cons, List.not_mem_nil, or_false] at hx
    rcases hx with e | e
    · exact .inr ⟨G, e, hG4⟩
    · exact .inl e
  refine wpB_c ?_
  simp only [wpS, wp, wpEs]
  refine opt_get (a := x) rfl ?_
  refine ⟨rfl, rfl, opt_get (a := [x]) rfl ?_⟩
  refine values_from_ok hx4 g fun A5 f1 m1 p5 hf1 s1 i1 => ?_
  refine wpB_c ?_
  simp only [wpS, wp, wpEs, asT]
  refine opt_get (a := D.ref f1) rfl ?_
  refine opt_get (a := TyT.b "list") (isSeq_ref hf1).1 ⟨True.intro, ?_⟩
  rw [show subT S (.b "list") (.b "list") = true from by decide, tru_b]
  refine ite_f (b := !true) rfl ?_
  refine opt_get (a := D.ref f1) rfl ?_
  refine opt_get (a := D.ref T) rfl ?_
  refine reached_ok (pre_at p5 hT4) g fun A6 f2 m2 p6 hf2 s2 i2 => ?_
  have em : m1 = m2 := srt_uniq s1 s2 fun k => (i1 k).trans (i2 k).symm
  subst em
  rw [ne_i (pre_at p6 hf1) hf2]
  refine ite_f (b := false) rfl ?_
  refine opt_get (a := x) rfl ?_
  have hT6 := pre_at (p5.trans p6) hT4
  have hx6 := hx4.pre (p5.trans p6)
  have bl : ∀ K : DK, K (.ref A6.length) (A6 ++ [.lst (tb.map tD)]) → biP .list [x] A6 K := fun K hK => by
    rcases hx6 with e | ⟨j, e, hj⟩
    · subst e; rw [bi_listT]; exact hK
    · subst e; rw [bi_list hj]; exact hK
  refine bl _ ?_
  refine opt_get (a := D.ref T) rfl ?_
  rw [ne_tb last_app (at_app hT6)]
  refine ite_f (b := false) rfl ?_
  refine wpB_n ?_
  have p67 := List.prefix_append A6 [Cell.lst (tb.map tD)]
  have d7 := pre_dr (pre_dr d4 (p5.trans p6)) p67
  have hT7 := pre_at p67 hT6
  generalize A6 ++ [Cell.lst (tb.map tD)] = A7 at *
  refine wpB_c ?_
  simp only [wpS, wp, wpEs, asT]
  refine words_ok ?_
  rw [bi_tuple last_app]
  refine (show cmpP .ne (.tup (wds.map .str)) (.tup (wds.map .str)) (A7 ++ [Cell.lst (wds.map .str)]) _ from ?_)
  rw [ne_words]
  refine ite_f (b := false) rfl ?_
  refine wpB_n ?_
  have p78 := List.prefix_append A7 [Cell.lst (wds.map .str)]
  have d8 := pre_dr d7 p78
  have hT8 := pre_at p78 hT7
  generalize A7 ++ [Cell.lst (wds.map .str)] = A8 at *
  refine wpB_c ?_
  simp only [wpS, wp, wpEs]
  refine opt_get (a := D.ref i) rfl ?_
  refine some_changes_ok d8 fun A9 P cs s d9 g9 hP nP gc l1 lc => ?_
  refine ⟨rfl, ?_⟩
  simp only [wpGs, wpG, List.set]
  have hT9 := g9.at hT8 nT
  refine wpB_c ?_
  simp only [wpS, wp, wpEs, asT]
  refine opt_get (a := D.ref P) rfl ?_
  refine opt_get (a := vD s) rfl ?_
  refine table_right_ok hP gc l1 lc fun A10 p10 => ?_
  rw [tru_b]
  refine ite_t (b := true) rfl ?_
  refine opt_get (a := D.ref i) rfl ?_
  refine opt_get (a := D.ref T) rfl ?_
  refine opt_get (a := D.ref P) rfl ?_
  exact refused_ok (pre_dr d9 p10) (pre_at p10 hT9) nT g (pre_at p10 hP) nP gc l1 lc fun A' => rfl
end
end Z64
set_option Elab.async false
set_option linter.all false
set_option maxRecDepth 100000
set_option maxHeartbeats 16000000

/-! the defs of tricklestore_k64_tables_of_changes keep their promises: printed by emit.py -/
namespace Z64
open PySem PySem.Spec PyProof.Rows L2 Zw
theorem defs_ok {q : Program} {w : World} {K : PySem.W.Frag} {h : Heap} {mg : Str → Option Value} {T : List Addr} {cs : List (Addr × Addr × Str)} {d18 d19 d20 d21 d28 d5 d12 d13 d14 d15 d16 d29 d27 d24 d25 d31 d23 d32 d6 d7 d8 d9 d10 d11 d17 d33 d30 d26 d34 d35 d22 p33 p34 : Addr} (X : K.In h) (Gn : h.Ns mainGlobals mg) (tk : TabsK q K h)
    {oc18 kV18 dc18 pm18 ct18 : Value} {od18 an18 : Option Addr} {sl18 : Array (Option Value)} {oc19 kV19 dc19 pm19 ct19 : Value} {od19 an19 : Option Addr} {sl19 : Array (Option Value)} {oc20 kV20 dc20 pm20 ct20 : Value} {od20 an20 : Option Addr} {sl20 : Array (Option Value)} {oc21 kV21 dc21 pm21 ct21 : Value} {od21 an21 : Option Addr} {sl21 : Array (Option Value)} {oc28 kV28 dc28 pm28 ct28 : Value} {od28 an28 : Option Addr} {sl28 : Array (Option Value)} {oc5 kV5 dc5 pm5 ct5 : Value} {od5 an5 : Option Addr} {sl5 : Array (Option Value)} {oc12 kV12 dc12 pm12 ct12 : Value} {od12 an12 : Option Addr} {sl12 : Array (Option Value)} {oc13 kV13 dc13 pm13 ct13 : Value} {od13 an13 : Option Addr} {sl13 : Array (Option Value)} {oc14 kV14 dc14 pm14 ct14 : Value} {od14 an14 : Option Addr} {sl14 : Array (Option Value)} {oc15 kV15 dc15 pm15 ct15 : Value} {od15 an15 : Option Addr} {sl15 : Array (Option Value)} {oc16 kV16 dc16 pm16 ct16 : Value} {od16 an16 : Option Addr} {sl16 : Array (Option Value)} {oc29 kV29 dc29 pm29 ct29 : Value} {od29 an29 : Option Addr} {sl29 : Array (Option Value)} {oc27 kV27 dc27 pm27 ct27 : Value} {od27 an27 : Option Addr} {sl27 : Array (Option Value)} {oc24 kV24 dc24 pm24 ct24 : Value} {od24 an24 : Option Addr} {sl24 : Array (Option Value)} {oc25 kV25 dc25 pm25 ct25 : Value} {od25 an25 : Option Addr} {sl25 : Array (Option Value)} {oc31 kV31 dc31 pm31 ct31 : Value} {od31 an31 : Option Addr} {sl31 : Array (Option Value)} {oc23 kV23 dc23 pm23 ct23 : Value} {od23 an23 : Option Addr} {sl23 : Array (Option Value)} {oc32 kV32 dc32 pm32 ct32 : Value} {od32 an32 : Option Addr} {sl32 : Array (Option Value)} {oc6 kV6 dc6 pm6 ct6 : Value} {od6 an6 : Option Addr} {sl6 : Array (Option Value)} {oc7 kV7 dc7 pm7 ct7 : Value} {od7 an7 : Option Addr} {sl7 : Array (Option Value)} {oc8 kV8 dc8 pm8 ct8 : Value} {od8 an8 : Option Addr} {sl8 : Array (Option Value)} {oc9 kV9 dc9 pm9 ct9 : Value} {od9 an9 : Option Addr} {sl9 : Array (Option Value)} {oc10 kV10 dc10 pm10 ct10 : Value} {od10 an10 : Option Addr} {sl10 : Array (Option Value)} {oc11 kV11 dc11 pm11 ct11 : Value} {od11 an11 : Option Addr} {sl11 : Array (Option Value)} {oc17 kV17 dc17 pm17 ct17 : Value} {od17 an17 : Option Addr} {sl17 : Array (Option Value)} {oc33 kV33 dc33 pm33 ct33 : Value} {od33 an33 : Option Addr} {sl33 : Array (Option Value)} {oc30 kV30 dc30 pm30 ct30 : Value} {od30 an30 : Option Addr} {sl30 : Array (Option Value)} {oc26 kV26 dc26 pm26 ct26 : Value} {od26 an26 : Option Addr} {sl26 : Array (Option Value)} {oc34 kV34 dc34 pm34 ct34 : Value} {od34 an34 : Option Addr} {sl34 : Array (Option Value)} {oc35 kV35 dc35 pm35 ct35 : Value} {od35 an35 : Option Addr} {sl35 : Array (Option Value)} {oc22 kV22 dc22 pm22 ct22 : Value} {od22 an22 : Option Addr} {sl22 : Array (Option Value)}
    (l18 : K.lookup (T.getD 18 0) = some ⟨oc18, od18, .func (PySem.W.fnOf "_law_begun" "_law_begun" (defArgs (st 23)) (defBody (st 23)) (defScope (st 23)) .none kV18 dc18 pm18 an18 (.ref d18) ct18), sl18⟩)
    (l19 : K.lookup (T.getD 19 0) = some ⟨oc19, od19, .func (PySem.W.fnOf "_law_blend" "_law_blend" (defArgs (st 24)) (defBody (st 24)) (defScope (st 24)) .none kV19 dc19 pm19 an19 (.ref d19) ct19), sl19⟩)
    (l20 : K.lookup (T.getD 20 0) = some ⟨oc20, od20, .func (PySem.W.fnOf "_law_take" "_law_take" (defArgs (st 25)) (defBody (st 25)) (defScope (st 25)) .none kV20 dc20 pm20 an20 (.ref d20) ct20), sl20⟩)
    (l21 : K.lookup (T.getD 21 0) = some ⟨oc21, od21, .func (PySem.W.fnOf "_law_pick" "_law_pick" (defArgs (st 26)) (defBody (st 26)) (defScope (st 26)) .none kV21 dc21 pm21 an21 (.ref d21) ct21), sl21⟩)
    (l28 : K.lookup (T.getD 28 0) = some ⟨oc28, od28, .func (PySem.W.fnOf "_law_table" "_law_table" (defArgs (st 33)) (defBody (st 33)) (defScope (st 33)) .none kV28 dc28 pm28 an28 (.ref d28) ct28), sl28⟩)
    (l5 : K.lookup (T.getD 5 0) = some ⟨oc5, od5, .func (PySem.W.fnOf "is_number" "is_number" (defArgs (st 7)) (defBody (st 7)) (defScope (st 7)) .none kV5 dc5 pm5 an5 (.ref d5) ct5), sl5⟩)
    (l12 : K.lookup (T.getD 12 0) = some ⟨oc12, od12, .func (PySem.W.fnOf "is_index" "is_index" (defArgs (st 16)) (defBody (st 16)) (defScope (st 16)) .none kV12 dc12 pm12 an12 (.ref d12) ct12), sl12⟩)
    (l13 : K.lookup (T.getD 13 0) = some ⟨oc13, od13, .func (PySem.W.fnOf "is_table_row" "is_table_row" (defArgs (st 17)) (defBody (st 17)) (defScope (st 17)) .none kV13 dc13 pm13 an13 (.ref d13) ct13), sl13⟩)
    (l14 : K.lookup (T.getD 14 0) = some ⟨oc14, od14, .func (PySem.W.fnOf "need_table" "need_table" (defArgs (st 18)) (defBody (st 18)) (defScope (st 18)) .none kV14 dc14 pm14 an14 (.ref d14) ct14), sl14⟩)
    (l15 : K.lookup (T.getD 15 0) = some ⟨oc15, od15, .func (PySem.W.fnOf "values_by" "values_by" (defArgs (st 19)) (defBody (st 19)) (defScope (st 19)) .none kV15 dc15 pm15 an15 (.ref d15) ct15), sl15⟩)
    (l16 : K.lookup (T.getD 16 0) = some ⟨oc16, od16, .func (PySem.W.fnOf "values_from" "values_from" (defArgs (st 20)) (defBody (st 20)) (defScope (st 20)) .none kV16 dc16 pm16 an16 (.ref d16) ct16), sl16⟩)
    (l29 : K.lookup (T.getD 29 0) = some ⟨oc29, od29, .func (PySem.W.fnOf "_law_reached" "_law_reached" (defArgs (st 34)) (defBody (st 34)) (defScope (st 34)) .none kV29 dc29 pm29 an29 (.ref d29) ct29), sl29⟩)
    (l27 : K.lookup (T.getD 27 0) = some ⟨oc27, od27, .func (PySem.W.fnOf "_law_words" "_law_words" (defArgs (st 32)) (defBody (st 32)) (defScope (st 32)) .none kV27 dc27 pm27 an27 (.ref d27) ct27), sl27⟩)
    (l24 : K.lookup (T.getD 24 0) = some ⟨oc24, od24, .func (PySem.W.fnOf "_law_number" "_law_number" (defArgs (st 29)) (defBody (st 29)) (defScope (st 29)) .none kV24 dc24 pm24 an24 (.ref d24) ct24), sl24⟩)
    (l25 : K.lookup (T.getD 25 0) = some ⟨oc25, od25, .func (PySem.W.fnOf "_law_a_change" "_law_a_change" (defArgs (st 30)) (defBody (st 30)) (defScope (st 30)) .none kV25 dc25 pm25 an25 (.ref d25) ct25), sl25⟩)
    (l31 : K.lookup (T.getD 31 0) = some ⟨oc31, od31, .func (PySem.W.fnOf "_law_some_changes" "_law_some_changes" (defArgs (st 36)) (defBody (st 36)) (defScope (st 36)) .none kV31 dc31 pm31 an31 (.ref d31) ct31), sl31⟩)
    (l23 : K.lookup (T.getD 23 0) = some ⟨oc23, od23, .func (PySem.W.fnOf "_law_acted" "_law_acted" (defArgs (st 28)) (defBody (st 28)) (defScope (st 28)) .none kV23 dc23 pm23 an23 (.ref d23) ct23), sl23⟩)
    (l32 : K.lookup (T.getD 32 0) = some ⟨oc32, od32, .func (PySem.W.fnOf "_law_values" "_law_values" (defArgs (st 37)) (defBody (st 37)) (defScope (st 37)) .none kV32 dc32 pm32 an32 (.ref d32) ct32), sl32⟩)
    (l6 : K.lookup (T.getD 6 0) = some ⟨oc6, od6, .func (PySem.W.fnOf "is_value" "is_value" (defArgs (st 8)) (defBody (st 8)) (defScope (st 8)) .none kV6 dc6 pm6 an6 (.ref d6) ct6), sl6⟩)
    (l7 : K.lookup (T.getD 7 0) = some ⟨oc7, od7, .func (PySem.W.fnOf "is_triple" "is_triple" (defArgs (st 9)) (defBody (st 9)) (defScope (st 9)) .none kV7 dc7 pm7 an7 (.ref d7) ct7), sl7⟩)
    (l8 : K.lookup (T.getD 8 0) = some ⟨oc8, od8, .func (PySem.W.fnOf "is_change" "is_change" (defArgs (st 10)) (defBody (st 10)) (defScope (st 10)) .none kV8 dc8 pm8 an8 (.ref d8) ct8), sl8⟩)
    (l9 : K.lookup (T.getD 9 0) = some ⟨oc9, od9, .func (PySem.W.fnOf "need_changes" "need_changes" (defArgs (st 11)) (defBody (st 11)) (defScope (st 11)) .none kV9 dc9 pm9 an9 (.ref d9) ct9), sl9⟩)
    (l10 : K.lookup (T.getD 10 0) = some ⟨oc10, od10, .func (PySem.W.fnOf "bounded" "bounded" (defArgs (st 12)) (defBody (st 12)) (defScope (st 12)) .none kV10 dc10 pm10 an10 (.ref d10) ct10), sl10⟩)
    (l11 : K.lookup (T.getD 11 0) = some ⟨oc11, od11, .func (PySem.W.fnOf "act_by" "act_by" (defArgs (st 13)) (defBody (st 13)) (defScope (st 13)) .none kV11 dc11 pm11 an11 (.ref d11) ct11), sl11⟩)
    (l17 : K.lookup (T.getD 17 0) = some ⟨oc17, od17, .func (PySem.W.fnOf "table_of" "table_of" (defArgs (st 21)) (defBody (st 21)) (defScope (st 21)) .none kV17 dc17 pm17 an17 (.ref d17) ct17), sl17⟩)
    (l33 : K.lookup (T.getD 33 0) = some ⟨oc33, od33, .func (PySem.W.fnOf "_law_table_right" "_law_table_right" (defArgs (st 38)) (defBody (st 38)) (defScope (st 38)) .none kV33 dc33 pm33 an33 (.ref d33) ct33), sl33⟩)
    (l30 : K.lookup (T.getD 30 0) = some ⟨oc30, od30, .func (PySem.W.fnOf "_law_bad_table" "_law_bad_table" (defArgs (st 35)) (defBody (st 35)) (defScope (st 35)) .none kV30 dc30 pm30 an30 (.ref d30) ct30), sl30⟩)
    (l26 : K.lookup (T.getD 26 0) = some ⟨oc26, od26, .func (PySem.W.fnOf "_law_bad_change" "_law_bad_change" (defArgs (st 31)) (defBody (st 31)) (defScope (st 31)) .none kV26 dc26 pm26 an26 (.ref d26) ct26), sl26⟩)
    (l34 : K.lookup (T.getD 34 0) = some ⟨oc34, od34, .func (PySem.W.fnOf "_law_refused" "_law_refused" (defArgs (st 39)) (defBody (st 39)) (defScope (st 39)) .none kV34 dc34 pm34 an34 (.ref d34) ct34), sl34⟩)
    (l35 : K.lookup (T.getD 35 0) = some ⟨oc35, od35, .func (PySem.W.fnOf "law" "law" (defArgs (st 40)) (defBody (st 40)) (defScope (st 40)) .none kV35 dc35 pm35 an35 (.ref d35) ct35), sl35⟩)
    (l22 : K.lookup (T.getD 22 0) = some ⟨oc22, od22, .func (PySem.W.fnOf "_law_caught" "_law_caught" (defArgs (st 27)) (defBody (st 27)) (defScope (st 27)) .none kV22 dc22 pm22 an22 (.ref d22) ct22), sl22⟩)
    (m33 : (d33, p33, ("_law_table_right" : Str)) ∈ cs) (m34 : (d34, p34, ("_law_refused" : Str)) ∈ cs) (fK : kinB PySem.Challenge.rw_tricklestore_k64_tables_of_changes.prog K T 5 XNS = true) (fG : glbB K T GL = true) (fT : gtsB K T GTS = true) (fD : defsB K (dsOf T ([(18, d18, ("_law_begun" : Str)), (19, d19, ("_law_blend" : Str)), (20, d20, ("_law_take" : Str)), (21, d21, ("_law_pick" : Str)), (28, d28, ("_law_table" : Str)), (5, d5, ("is_number" : Str)), (12, d12, ("is_index" : Str)), (13, d13, ("is_table_row" : Str)), (14, d14, ("need_table" : Str)), (15, d15, ("values_by" : Str)), (16, d16, ("values_from" : Str)), (29, d29, ("_law_reached" : Str)), (27, d27, ("_law_words" : Str)), (24, d24, ("_law_number" : Str)), (25, d25, ("_law_a_change" : Str)), (31, d31, ("_law_some_changes" : Str)), (23, d23, ("_law_acted" : Str)), (32, d32, ("_law_values" : Str)), (6, d6, ("is_value" : Str)), (7, d7, ("is_triple" : Str)), (8, d8, ("is_change" : Str)), (9, d9, ("need_changes" : Str)), (10, d10, ("bounded" : Str)), (11, d11, ("act_by" : Str)), (17, d17, ("table_of" : Str))] ++ [(33, d33, ("_law_table_right" : Str)), (30, d30, ("_law_bad_table" : Str)), (26, d26, ("_law_bad_change" : Str)), (34, d34, ("_law_refused" : Str)), (35, d35, ("law" : Str)), (22, d22, ("_law_caught" : Str))])) = true) (fC : csB q K cs = true)
    (hS : ∀ (ns : List Int) (d : D) (A : AH), ns.length ≤ 63 → (∀ z ∈ ns, Builtin.Int.intBits z ≤ 1048576) → Start ns d A → sp_law [d] A (fun v _ => v = .bl true) fun _ _ _ => False) :
    LamX.LawAtS PySem.Challenge.rw_tricklestore_k64_tables_of_changes w K (L2.CX PySem.Challenge.rw_tricklestore_k64_tables_of_changes.prog w) 24 63 "_law_script" mg (T.getD 35 0) h := by
  refine law_at (T := T) (LT := LT) (xs := XNS) (cs := cs) (spD := sp_law) (fd := PySem.W.fnOf "law" "law" (defArgs (st 40)) (defBody (st 40)) (defScope (st 40)) .none kV35 dc35 pm35 an35 (.ref d35) ct35) tk fC (fun s v => .of_eq (b_law kV35 dc35 pm35 an35 (.ref d35) ct35 [v] rfl)) (fun base kb nb TB => ?_) hS
  have I18 : DefI (mkG PySem.Challenge.rw_tricklestore_k64_tables_of_changes.prog w K mg base T (tabsOf cs) LT XNS) 18 "_law_begun" (st 23) d18 ["_law_script"] := def_of l18 fD (.head _) (b__law_begun)
  have I19 : DefI (mkG PySem.Challenge.rw_tricklestore_k64_tables_of_changes.prog w K mg base T (tabsOf cs) LT XNS) 19 "_law_blend" (st 24) d19 ["_law_draw"] := def_of l19 fD (.tail _ (.head _)) (b__law_blend)
  have I20 : DefI (mkG PySem.Challenge.rw_tricklestore_k64_tables_of_changes.prog w K mg base T (tabsOf cs) LT XNS) 20 "_law_take" (st 25) d20 ["_law_draw", "_law_size"] := def_of l20 fD (.tail _ (.tail _ (.head _))) (b__law_take)
  have I21 : DefI (mkG PySem.Challenge.rw_tricklestore_k64_tables_of_changes.prog w K mg base T (tabsOf cs) LT XNS) 21 "_law_pick" (st 26) d21 ["_law_draw", "_law_some"] := def_of l21 fD (.tail _ (.tail _ (.tail _ (.head _)))) (b__law_pick)
  have I28 : DefI (mkG PySem.Challenge.rw_tricklestore_k64_tables_of_changes.prog w K mg base T (tabsOf cs) LT XNS) 28 "_law_table" (st 33) d28 ["_law_draw", "_law_most", "_law_many"] := def_of l28 fD (.tail _ (.tail _ (.tail _ (.tail _ (.head _))))) (b__law_table)
  have I5 : DefI (mkG PySem.Challenge.rw_tricklestore_k64_tables_of_changes.prog w K mg base T (tabsOf cs) LT XNS) 5 "is_number" (st 7) d5 ["thing"] := def_of l5 fD (.tail _ (.tail _ (.tail _ (.tail _ (.tail _ (.head _)))))) (b_is_number)
  have I12 : DefI (mkG PySem.Challenge.rw_tricklestore_k64_tables_of_changes.prog w K mg base T (tabsOf cs) LT XNS) 12 "is_index" (st 16) d12 ["thing", "many"] := def_of l12 fD (.tail _ (.tail _ (.tail _ (.tail _ (.tail _ (.tail _ (.head _))))))) (b_is_index)
  have I13 : DefI (mkG PySem.Challenge.rw_tricklestore_k64_tables_of_changes.prog w K mg base T (tabsOf cs) LT XNS) 13 "is_table_row" (st 17) d13 ["thing", "many"] := def_of l13 fD (.tail _ (.tail _ (.tail _ (.tail _ (.tail _ (.tail _ (.tail _ (.head _)))))))) (b_is_table_row)
  have I14 : DefI (mkG PySem.Challenge.rw_tricklestore_k64_tables_of_changes.prog w K mg base T (tabsOf cs) LT XNS) 14 "need_table" (st 18) d14 ["thing"] := def_of l14 fD (.tail _ (.tail _ (.tail _ (.tail _ (.tail _ (.tail _ (.tail _ (.tail _ (.head _))))))))) (b_need_table)
  have I15 : DefI (mkG PySem.Challenge.rw_tricklestore_k64_tables_of_changes.prog w K mg base T (tabsOf cs) LT XNS) 15 "values_by" (st 19) d15 ["table"] := def_of l15 fD (.tail _ (.tail _ (.tail _ (.tail _ (.tail _ (.tail _ (.tail _ (.tail _ (.tail _ (.head _)))))))))) (b_values_by)
  have I16 : DefI (mkG PySem.Challenge.rw_tricklestore_k64_tables_of_changes.prog w K mg base T (tabsOf cs) LT XNS) 16 "values_from" (st 20) d16 ["table"] := def_of l16 fD (.tail _ (.tail _ (.tail _ (.tail _ (.tail _ (.tail _ (.tail _ (.tail _ (.tail _ (.tail _ (.head _))))))))))) (b_values_from)
  have I29 : DefI (mkG PySem.Challenge.rw_tricklestore_k64_tables_of_changes.prog w K mg base T (tabsOf cs) LT XNS) 29 "_law_reached" (st 34) d29 ["_law_table_here"] := def_of l29 fD (.tail _ (.tail _ (.tail _ (.tail _ (.tail _ (.tail _ (.tail _ (.tail _ (.tail _ (.tail _ (.tail _ (.head _)))))))))))) (b__law_reached)
  have I27 : DefI (mkG PySem.Challenge.rw_tricklestore_k64_tables_of_changes.prog w K mg base T (tabsOf cs) LT XNS) 27 "_law_words" (st 32) d27 [] := def_of l27 fD (.tail _ (.tail _ (.tail _ (.tail _ (.tail _ (.tail _ (.tail _ (.tail _ (.tail _ (.tail _ (.tail _ (.tail _ (.head _))))))))))))) (b__law_words)
  have I24 : DefI (mkG PySem.Challenge.rw_tricklestore_k64_tables_of_changes.prog w K mg base T (tabsOf cs) LT XNS) 24 "_law_number" (st 29) d24 ["_law_draw", "_law_is_wide"] := def_of l24 fD (.tail _ (.tail _ (.tail _ (.tail _ (.tail _ (.tail _ (.tail _ (.tail _ (.tail _ (.tail _ (.tail _ (.tail _ (.tail _ (.head _)))))))))))))) (b__law_number)
  have I25 : DefI (mkG PySem.Challenge.rw_tricklestore_k64_tables_of_changes.prog w K mg base T (tabsOf cs) LT XNS) 25 "_law_a_change" (st 30) d25 ["_law_draw", "_law_is_wide"] := def_of l25 fD (.tail _ (.tail _ (.tail _ (.tail _ (.tail _ (.tail _ (.tail _ (.tail _ (.tail _ (.tail _ (.tail _ (.tail _ (.tail _ (.tail _ (.head _))))))))))))))) (b__law_a_change)
  have I31 : DefI (mkG PySem.Challenge.rw_tricklestore_k64_tables_of_changes.prog w K mg base T (tabsOf cs) LT XNS) 31 "_law_some_changes" (st 36) d31 ["_law_draw"] := def_of l31 fD (.tail _ (.tail _ (.tail _ (.tail _ (.tail _ (.tail _ (.tail _ (.tail _ (.tail _ (.tail _ (.tail _ (.tail _ (.tail _ (.tail _ (.tail _ (.head _)))))))))))))))) (b__law_some_changes)
  have I23 : DefI (mkG PySem.Challenge.rw_tricklestore_k64_tables_of_changes.prog w K mg base T (tabsOf cs) LT XNS) 23 "_law_acted" (st 28) d23 ["_law_change", "_law_value"] := def_of l23 fD (.tail _ (.tail _ (.tail _ (.tail _ (.tail _ (.tail _ (.tail _ (.tail _ (.tail _ (.tail _ (.tail _ (.tail _ (.tail _ (.tail _ (.tail _ (.tail _ (.head _))))))))))))))))) (b__law_acted)
  have I32 : DefI (mkG PySem.Challenge.rw_tricklestore_k64_tables_of_changes.prog w K mg base T (tabsOf cs) LT XNS) 32 "_law_values" (st 37) d32 ["_law_changes", "_law_start"] := def_of l32 fD (.tail _ (.tail _ (.tail _ (.tail _ (.tail _ (.tail _ (.tail _ (.tail _ (.tail _ (.tail _ (.tail _ (.tail _ (.tail _ (.tail _ (.tail _ (.tail _ (.tail _ (.head _)))))))))))))))))) (b__law_values)
  have I6 : DefI (mkG PySem.Challenge.rw_tricklestore_k64_tables_of_changes.prog w K mg base T (tabsOf cs) LT XNS) 6 "is_value" (st 8) d6 ["thing"] := def_of l6 fD (.tail _ (.tail _ (.tail _ (.tail _ (.tail _ (.tail _ (.tail _ (.tail _ (.tail _ (.tail _ (.tail _ (.tail _ (.tail _ (.tail _ (.tail _ (.tail _ (.tail _ (.tail _ (.head _))))))))))))))))))) (b_is_value)
  have I7 : DefI (mkG PySem.Challenge.rw_tricklestore_k64_tables_of_changes.prog w K mg base T (tabsOf cs) LT XNS) 7 "is_triple" (st 9) d7 ["thing"] := def_of l7 fD (.tail _ (.tail _ (.tail _ (.tail _ (.tail _ (.tail _ (.tail _ (.tail _ (.tail _ (.tail _ (.tail _ (.tail _ (.tail _ (.tail _ (.tail _ (.tail _ (.tail _ (.tail _ (.tail _ (.head _)))))))))))))))))))) (b_is_triple)
  have I8 : DefI (mkG PySem.Challenge.rw_tricklestore_k64_tables_of_changes.prog w K mg base T (tabsOf cs) LT XNS) 8 "is_change" (st 10) d8 ["thing"] := def_of l8 fD (.tail _ (.tail _ (.tail _ (.tail _ (.tail _ (.tail _ (.tail _ (.tail _ (.tail _ (.tail _ (.tail _ (.tail _ (.tail _ (.tail _ (.tail _ (.tail _ (.tail _ (.tail _ (.tail _ (.tail _ (.head _))))))))))))))))))))) (b_is_change)
  have I9 : DefI (mkG PySem.Challenge.rw_tricklestore_k64_tables_of_changes.prog w K mg base T (tabsOf cs) LT XNS) 9 "need_changes" (st 11) d9 ["thing"] := def_of l9 fD (.tail _ (.tail _ (.tail _ (.tail _ (.tail _ (.tail _ (.tail _ (.tail _ (.tail _ (.tail _ (.tail _ (.tail _ (.tail _ (.tail _ (.tail _ (.tail _ (.tail _ (.tail _ (.tail _ (.tail _ (.tail _ (.head _)))))))))))))))))))))) (b_need_changes)
  have I10 : DefI (mkG PySem.Challenge.rw_tricklestore_k64_tables_of_changes.prog w K mg base T (tabsOf cs) LT XNS) 10 "bounded" (st 12) d10 ["number", "low", "high"] := def_of l10 fD (.tail _ (.tail _ (.tail _ (.tail _ (.tail _ (.tail _ (.tail _ (.tail _ (.tail _ (.tail _ (.tail _ (.tail _ (.tail _ (.tail _ (.tail _ (.tail _ (.tail _ (.tail _ (.tail _ (.tail _ (.tail _ (.tail _ (.head _))))))))))))))))))))))) (b_bounded)
  have I11 : DefI (mkG PySem.Challenge.rw_tricklestore_k64_tables_of_changes.prog w K mg base T (tabsOf cs) LT XNS) 11 "act_by" (st 13) d11 ["change", "value"] := def_of l11 fD (.tail _ (.tail _ (.tail _ (.tail _ (.tail _ (.tail _ (.tail _ (.tail _ (.tail _ (.tail _ (.tail _ (.tail _ (.tail _ (.tail _ (.tail _ (.tail _ (.tail _ (.tail _ (.tail _ (.tail _ (.tail _ (.tail _ (.tail _ (.head _)))))))))))))))))))))))) (b_act_by)
  have I17 : DefI (mkG PySem.Challenge.rw_tricklestore_k64_tables_of_changes.prog w K mg base T (tabsOf cs) LT XNS) 17 "table_of" (st 21) d17 ["changes", "start"] := def_of l17 fD (.tail _ (.tail _ (.tail _ (.tail _ (.tail _ (.tail _ (.tail _ (.tail _ (.tail _ (.tail _ (.tail _ (.tail _ (.tail _ (.tail _ (.tail _ (.tail _ (.tail _ (.tail _ (.tail _ (.tail _ (.tail _ (.tail _ (.tail _ (.tail _ (.head _))))))))))))))))))))))))) (b_table_of)
  have I33 : DefI (mkG PySem.Challenge.rw_tricklestore_k64_tables_of_changes.prog w K mg base T (tabsOf cs) LT XNS) 33 "_law_table_right" (st 38) d33 ["_law_changes", "_law_start"] := def_of l33 fD (.tail _ (.tail _ (.tail _ (.tail _ (.tail _ (.tail _ (.tail _ (.tail _ (.tail _ (.tail _ (.tail _ (.tail _ (.tail _ (.tail _ (.tail _ (.tail _ (.tail _ (.tail _ (.tail _ (.tail _ (.tail _ (.tail _ (.tail _ (.tail _ (.tail _ (.head _)))))))))))))))))))))))))) (b__law_table_right)
  have I30 : DefI (mkG PySem.Challenge.rw_tricklestore_k64_tables_of_changes.prog w K mg base T (tabsOf cs) LT XNS) 30 "_law_bad_table" (st 35) d30 ["_law_draw", "_law_table_here"] := def_of l30 fD (.tail _ (.tail _ (.tail _ (.tail _ (.tail _ (.tail _ (.tail _ (.tail _ (.tail _ (.tail _ (.tail _ (.tail _ (.tail _ (.tail _ (.tail _ (.tail _ (.tail _ (.tail _ (.tail _ (.tail _ (.tail _ (.tail _ (.tail _ (.tail _ (.tail _ (.tail _ (.head _))))))))))))))))))))))))))) (b__law_bad_table)
  have I26 : DefI (mkG PySem.Challenge.rw_tricklestore_k64_tables_of_changes.prog w K mg base T (tabsOf cs) LT XNS) 26 "_law_bad_change" (st 31) d26 ["_law_draw", "_law_change"] := def_of l26 fD (.tail _ (.tail _ (.tail _ (.tail _ (.tail _ (.tail _ (.tail _ (.tail _ (.tail _ (.tail _ (.tail _ (.tail _ (.tail _ (.tail _ (.tail _ (.tail _ (.tail _ (.tail _ (.tail _ (.tail _ (.tail _ (.tail _ (.tail _ (.tail _ (.tail _ (.tail _ (.tail _ (.head _)))))))))))))))))))))))))))) (b__law_bad_change)
  have I34 : DefI (mkG PySem.Challenge.rw_tricklestore_k64_tables_of_changes.prog w K mg base T (tabsOf cs) LT XNS) 34 "_law_refused" (st 39) d34 ["_law_draw", "_law_table_here", "_law_changes"] := def_of l34 fD (.tail _ (.tail _ (.tail _ (.tail _ (.tail _ (.tail _ (.tail _ (.tail _ (.tail _ (.tail _ (.tail _ (.tail _ (.tail _ (.tail _ (.tail _ (.tail _ (.tail _ (.tail _ (.tail _ (.tail _ (.tail _ (.tail _ (.tail _ (.tail _ (.tail _ (.tail _ (.tail _ (.tail _ (.head _))))))))))))))))))))))))))))) (b__law_refused)
  have I35 : DefI (mkG PySem.Challenge.rw_tricklestore_k64_tables_of_changes.prog w K mg base T (tabsOf cs) LT XNS) 35 "law" (st 40) d35 ["_law_script"] := def_of l35 fD (.tail _ (.tail _ (.tail _ (.tail _ (.tail _ (.tail _ (.tail _ (.tail _ (.tail _ (.tail _ (.tail _ (.tail _ (.tail _ (.tail _ (.tail _ (.tail _ (.tail _ (.tail _ (.tail _ (.tail _ (.tail _ (.tail _ (.tail _ (.tail _ (.tail _ (.tail _ (.tail _ (.tail _ (.tail _ (.head _)))))))))))))))))))))))))))))) (b_law)
  have I22 : DefI (mkG PySem.Challenge.rw_tricklestore_k64_tables_of_changes.prog w K mg base T (tabsOf cs) LT XNS) 22 "_law_caught" (st 27) d22 ["_law_work"] := def_of l22 fD (.tail _ (.tail _ (.tail _ (.tail _ (.tail _ (.tail _ (.tail _ (.tail _ (.tail _ (.tail _ (.tail _ (.tail _ (.tail _ (.tail _ (.tail _ (.tail _ (.tail _ (.tail _ (.tail _ (.tail _ (.tail _ (.tail _ (.tail _ (.tail _ (.tail _ (.tail _ (.tail _ (.tail _ (.tail _ (.tail _ (.head _))))))))))))))))))))))))))))))) (fun _ _ _ _ _ _ us hl => match us, hl with | [_], _ => rfl)
  have IC : CauI (mkG PySem.Challenge.rw_tricklestore_k64_tables_of_changes.prog w K mg base T (tabsOf cs) LT XNS) "_law_caught" (st 27) 22 d22 "_law_work" "_law_caught_here" "error" "StoreError" := ⟨I22, (show mg "_law_caught" = some (.ref (T.getD 22 0)) from glb_mg X Gn fG (k := 22) rfl), C8.fnScope_by (by decide +kernel), by decide +kernel, by decide +kernel, by decide +kernel, by decide +kernel, by decide +kernel, (show mg "StoreError" = some (.ref (T.getD 0 0)) from glb_mg X Gn fG (k := 0) rfl), by decide +kernel⟩
  have x18 : Fx (mkG PySem.Challenge.rw_tricklestore_k64_tables_of_changes.prog w K mg base T (tabsOf cs) LT XNS) F__law_begun S c__law_begun 0 := fx_of kb nb fK fG rfl fT (by decide +kernel) rfl (by decide +kernel) (by decide +kernel) (List.forall_mem_nil _) (List.forall_mem_nil _)
  have f18 : FnI (mkG PySem.Challenge.rw_tricklestore_k64_tables_of_changes.prog w K mg base T (tabsOf cs) LT XNS) 3 18 sp__law_begun [] := def_ok (L := 0) I18 s__law_begun k__law_begun x18 (List.forall_mem_nil _) (fun z => absurd z (by decide +kernel)) (fun z => absurd z (by decide +kernel)) (no_lams (by decide +kernel)) (List.forall_mem_nil _)
  have x19 : Fx (mkG PySem.Challenge.rw_tricklestore_k64_tables_of_changes.prog w K mg base T (tabsOf cs) LT XNS) F__law_blend S c__law_blend 0 := fx_of kb nb fK fG rfl fT (by decide +kernel) rfl (by decide +kernel) (by decide +kernel) (List.forall_mem_nil _) (List.forall_mem_nil _)
  have f19 : FnI (mkG PySem.Challenge.rw_tricklestore_k64_tables_of_changes.prog w K mg base T (tabsOf cs) LT XNS) 3 19 sp__law_blend [] := def_ok (L := 0) I19 s__law_blend k__law_blend x19 (List.forall_mem_nil _) (fun z => absurd z (by decide +kernel)) (fun z => absurd z (by decide +kernel)) (no_lams (by decide +kernel)) (List.forall_mem_nil _)
  have x20 : Fx (mkG PySem.Challenge.rw_tricklestore_k64_tables_of_changes.prog w K mg base T (tabsOf cs) LT XNS) F__law_take S c__law_take 3 := fx_of kb nb fK fG rfl fT (by decide +kernel) rfl (by decide +kernel) (by decide +kernel) (List.forall_mem_cons.mpr ⟨(f19.mono (by decide)).kw (by decide +kernel), List.forall_mem_nil _⟩) (List.forall_mem_nil _)
  have f20 : FnI (mkG PySem.Challenge.rw_tricklestore_k64_tables_of_changes.prog w K mg base T (tabsOf cs) LT XNS) 6 20 sp__law_take [] := def_ok (L := 3) I20 s__law_take k__law_take x20 (List.forall_mem_nil _) (fun z => absurd z (by decide +kernel)) (fun z => absurd z (by decide +kernel)) (no_lams (by decide +kernel)) (List.forall_mem_nil _)
  have x21 : Fx (mkG PySem.Challenge.rw_tricklestore_k64_tables_of_changes.prog w K mg base T (tabsOf cs) LT XNS) F__law_pick S c__law_pick 6 := fx_of kb nb fK fG rfl fT (by decide +kernel) rfl (by decide +kernel) (by decide +kernel) (List.forall_mem_cons.mpr ⟨(f20.mono (by decide)).kw (by decide +kernel), List.forall_mem_nil _⟩) (List.forall_mem_nil _)
  have f21 : FnI (mkG PySem.Challenge.rw_tricklestore_k64_tables_of_changes.prog w K mg base T (tabsOf cs) LT XNS) 9 21 sp__law_pick [] := def_ok (L := 6) I21 s__law_pick k__law_pick x21 (List.forall_mem_nil _) (fun z => absurd z (by decide +kernel)) (fun z => absurd z (by decide +kernel)) (no_lams (by decide +kernel)) (List.forall_mem_nil _)
  have x28 : Fx (mkG PySem.Challenge.rw_tricklestore_k64_tables_of_changes.prog w K mg base T (tabsOf cs) LT XNS) F__law_table S c__law_table 9 := fx_of kb nb fK fG rfl fT (by decide +kernel) rfl (by decide +kernel) (by decide +kernel) (List.forall_mem_cons.mpr ⟨(f20.mono (by decide)).kw (by decide +kernel), List.forall_mem_cons.mpr ⟨(f21.mono (by decide)).kw (by decide +kernel), List.forall_mem_nil _⟩⟩) (List.forall_mem_nil _)
  have f28 : FnI (mkG PySem.Challenge.rw_tricklestore_k64_tables_of_changes.prog w K mg base T (tabsOf cs) LT XNS) 12 28 sp__law_table [] := def_ok (L := 9) I28 s__law_table k__law_table x28 (List.forall_mem_nil _) (fun z => absurd z (by decide +kernel)) (fun z => absurd z (by decide +kernel)) (no_lams (by decide +kernel)) (List.forall_mem_nil _)
  have x5 : Fx (mkG PySem.Challenge.rw_tricklestore_k64_tables_of_changes.prog w K mg base T (tabsOf cs) LT XNS) F_is_number S c_is_number 0 := fx_of kb nb fK fG rfl fT (by decide +kernel) rfl (by decide +kernel) (by decide +kernel) (List.forall_mem_nil _) (List.forall_mem_nil _)
  have f5 : FnI (mkG PySem.Challenge.rw_tricklestore_k64_tables_of_changes.prog w K mg base T (tabsOf cs) LT XNS) 3 5 sp_is_number [] := def_ok (L := 0) I5 s_is_number k_is_number x5 (List.forall_mem_nil _) (fun z => absurd z (by decide +kernel)) (fun z => absurd z (by decide +kernel)) (no_lams (by decide +kernel)) (List.forall_mem_nil _)
  have x12 : Fx (mkG PySem.Challenge.rw_tricklestore_k64_tables_of_changes.prog w K mg base T (tabsOf cs) LT XNS) F_is_index S c_is_index 3 := fx_of kb nb fK fG rfl fT (by decide +kernel) rfl (by decide +kernel) (by decide +kernel) (List.forall_mem_cons.mpr ⟨(f5.mono (by decide)).kw (by decide +kernel), List.forall_mem_nil _⟩) (List.forall_mem_nil _)
  have f12 : FnI (mkG PySem.Challenge.rw_tricklestore_k64_tables_of_changes.prog w K mg base T (tabsOf cs) LT XNS) 6 12 sp_is_index [] := def_ok (L := 3) I12 s_is_index k_is_index x12 (List.forall_mem_nil _) (fun z => absurd z (by decide +kernel)) (fun z => absurd z (by decide +kernel)) (no_lams (by decide +kernel)) (List.forall_mem_nil _)
  have x13 : Fx (mkG PySem.Challenge.rw_tricklestore_k64_tables_of_changes.prog w K mg base T (tabsOf cs) LT XNS) F_is_table_row S c_is_table_row 6 := fx_of kb nb fK fG rfl fT (by decide +kernel) rfl (by decide +kernel) (by decide +kernel) (List.forall_mem_cons.mpr ⟨(f12.mono (by decide)).kw (by decide +kernel), List.forall_mem_nil _⟩) (List.forall_mem_nil _)
  have f13 : FnI (mkG PySem.Challenge.rw_tricklestore_k64_tables_of_changes.prog w K mg base T (tabsOf cs) LT XNS) 9 13 sp_is_table_row [] := def_ok (L := 6) I13 s_is_table_row k_is_table_row x13 (List.forall_mem_nil _) (fun z => absurd z (by decide +kernel)) (fun z => absurd z (by decide +kernel)) (no_lams (by decide +kernel)) (List.forall_mem_nil _)
  have x14 : Fx (mkG PySem.Challenge.rw_tricklestore_k64_tables_of_changes.prog w K mg base T (tabsOf cs) LT XNS) F_need_table S c_need_table 9 := fx_of kb nb fK fG rfl fT (by decide +kernel) rfl (by decide +kernel) (by decide +kernel) (List.forall_mem_cons.mpr ⟨(f13.mono (by decide)).kw (by decide +kernel), List.forall_mem_nil _⟩) (List.forall_mem_nil _)
  have f14 : FnI (mkG PySem.Challenge.rw_tricklestore_k64_tables_of_changes.prog w K mg base T (tabsOf cs) LT XNS) 12 14 sp_need_table [] := def_ok (L := 9) I14 s_need_table k_need_table x14 (List.forall_mem_cons.mpr ⟨rsi_of fK (by decide) (by decide) (by decide +kernel), List.forall_mem_nil _⟩) (fun z => absurd z (by decide +kernel)) (fun z => absurd z (by decide +kernel)) (no_lams (by decide +kernel)) (List.forall_mem_nil _)
  have x15 : Fx (mkG PySem.Challenge.rw_tricklestore_k64_tables_of_changes.prog w K mg base T (tabsOf cs) LT XNS) F_values_by S c_values_by 0 := fx_of kb nb fK fG rfl fT (by decide +kernel) rfl (by decide +kernel) (by decide +kernel) (List.forall_mem_nil _) (List.forall_mem_nil _)
  have f15 : FnI (mkG PySem.Challenge.rw_tricklestore_k64_tables_of_changes.prog w K mg base T (tabsOf cs) LT XNS) 3 15 sp_values_by [] := def_ok (L := 0) I15 s_values_by k_values_by x15 (List.forall_mem_nil _) (fun z => absurd z (by decide +kernel)) (fun z => absurd z (by decide +kernel)) (no_lams (by decide +kernel)) (List.forall_mem_nil _)
  have x16 : Fx (mkG PySem.Challenge.rw_tricklestore_k64_tables_of_changes.prog w K mg base T (tabsOf cs) LT XNS) F_values_from S c_values_from 12 := fx_of kb nb fK fG rfl fT (by decide +kernel) rfl (by decide +kernel) (by decide +kernel) (List.forall_mem_cons.mpr ⟨(f14.mono (by decide)).kw (by decide +kernel), List.forall_mem_cons.mpr ⟨(f15.mono (by decide)).kw (by decide +kernel), List.forall_mem_nil _⟩⟩) (List.forall_mem_nil _)
  have f16 : FnI (mkG PySem.Challenge.rw_tricklestore_k64_tables_of_changes.prog w K mg base T (tabsOf cs) LT XNS) 15 16 sp_values_from [(0, ["table"], [0])] := def_ok (L := 12) I16 s_values_from k_values_from x16 (List.forall_mem_nil _) (fun z => absurd z (by decide +kernel)) (fun z => absurd z (by decide +kernel)) (no_lams (by decide +kernel)) (List.forall_mem_cons.mpr ⟨w_values_from_0, List.forall_mem_nil _⟩)
  have x29 : Fx (mkG PySem.Challenge.rw_tricklestore_k64_tables_of_changes.prog w K mg base T (tabsOf cs) LT XNS) F__law_reached S c__law_reached 0 := fx_of kb nb fK fG rfl fT (by decide +kernel) rfl (by decide +kernel) (by decide +kernel) (List.forall_mem_nil _) (List.forall_mem_nil _)
  have f29 : FnI (mkG PySem.Challenge.rw_tricklestore_k64_tables_of_changes.prog w K mg base T (tabsOf cs) LT XNS) 3 29 sp__law_reached [] := def_ok (L := 0) I29 s__law_reached k__law_reached x29 (List.forall_mem_nil _) (fun z => absurd z (by decide +kernel)) (fun z => absurd z (by decide +kernel)) (no_lams (by decide +kernel)) (List.forall_mem_nil _)
  have x27 : Fx (mkG PySem.Challenge.rw_tricklestore_k64_tables_of_changes.prog w K mg base T (tabsOf cs) LT XNS) F__law_words S c__law_words 0 := fx_of kb nb fK fG rfl fT (by decide +kernel) rfl (by decide +kernel) (by decide +kernel) (List.forall_mem_nil _) (List.forall_mem_nil _)
  have f27 : FnI (mkG PySem.Challenge.rw_tricklestore_k64_tables_of_changes.prog w K mg base T (tabsOf cs) LT XNS) 3 27 sp__law_words [] := def_ok (L := 0) I27 s__law_words k__law_words x27 (List.forall_mem_nil _) (fun z => absurd z (by decide +kernel)) (fun z => absurd z (by decide +kernel)) (no_lams (by decide +kernel)) (List.forall_mem_nil _)
  have x24 : Fx (mkG PySem.Challenge.rw_tricklestore_k64_tables_of_changes.prog w K mg base T (tabsOf cs) LT XNS) F__law_number S c__law_number 6 := fx_of kb nb fK fG rfl fT (by decide +kernel) rfl (by decide +kernel) (by decide +kernel) (List.forall_mem_cons.mpr ⟨(f20.mono (by decide)).kw (by decide +kernel), List.forall_mem_nil _⟩) (List.forall_mem_nil _)
  have f24 : FnI (mkG PySem.Challenge.rw_tricklestore_k64_tables_of_changes.prog w K mg base T (tabsOf cs) LT XNS) 9 24 sp__law_number [] := def_ok (L := 6) I24 s__law_number k__law_number x24 (List.forall_mem_nil _) (fun z => absurd z (by decide +kernel)) (fun z => absurd z (by decide +kernel)) (no_lams (by decide +kernel)) (List.forall_mem_nil _)
  have x25 : Fx (mkG PySem.Challenge.rw_tricklestore_k64_tables_of_changes.prog w K mg base T (tabsOf cs) LT XNS) F__law_a_change S c__law_a_change 9 := fx_of kb nb fK fG rfl fT (by decide +kernel) rfl (by decide +kernel) (by decide +kernel) (List.forall_mem_cons.mpr ⟨(f20.mono (by decide)).kw (by decide +kernel), List.forall_mem_cons.mpr ⟨(f24.mono (by decide)).kw (by decide +kernel), List.forall_mem_cons.mpr ⟨(f21.mono (by decide)).kw (by decide +kernel), List.forall_mem_nil _⟩⟩⟩) (List.forall_mem_nil _)
  have f25 : FnI (mkG PySem.Challenge.rw_tricklestore_k64_tables_of_changes.prog w K mg base T (tabsOf cs) LT XNS) 12 25 sp__law_a_change [] := def_ok (L := 9) I25 s__law_a_change k__law_a_change x25 (List.forall_mem_nil _) (fun z => absurd z (by decide +kernel)) (fun z => absurd z (by decide +kernel)) (no_lams (by decide +kernel)) (List.forall_mem_nil _)
  have x31 : Fx (mkG PySem.Challenge.rw_tricklestore_k64_tables_of_changes.prog w K mg base T (tabsOf cs) LT XNS) F__law_some_changes S c__law_some_changes 12 := fx_of kb nb fK fG rfl fT (by decide +kernel) rfl (by decide +kernel) (by decide +kernel) (List.forall_mem_cons.mpr ⟨(f20.mono (by decide)).kw (by decide +kernel), List.forall_mem_cons.mpr ⟨(f21.mono (by decide)).kw (by decide +kernel), List.forall_mem_cons.mpr ⟨(f25.mono (by decide)).kw (by decide +kernel), List.forall_mem_nil _⟩⟩⟩) (List.forall_mem_nil _)
  have f31 : FnI (mkG PySem.Challenge.rw_tricklestore_k64_tables_of_changes.prog w K mg base T (tabsOf cs) LT XNS) 15 31 sp__law_some_changes [] := def_ok (L := 12) I31 s__law_some_changes k__law_some_changes x31 (List.forall_mem_nil _) (fun z => absurd z (by decide +kernel)) (fun z => absurd z (by decide +kernel)) (no_lams (by decide +kernel)) (List.forall_mem_nil _)
  have x23 : Fx (mkG PySem.Challenge.rw_tricklestore_k64_tables_of_changes.prog w K mg base T (tabsOf cs) LT XNS) F__law_acted S c__law_acted 0 := fx_of kb nb fK fG rfl fT (by decide +kernel) rfl (by decide +kernel) (by decide +kernel) (List.forall_mem_nil _) (List.forall_mem_nil _)
  have f23 : FnI (mkG PySem.Challenge.rw_tricklestore_k64_tables_of_changes.prog w K mg base T (tabsOf cs) LT XNS) 3 23 sp__law_acted [] := def_ok (L := 0) I23 s__law_acted k__law_acted x23 (List.forall_mem_nil _) (fun z => absurd z (by decide +kernel)) (fun z => absurd z (by decide +kernel)) (no_lams (by decide +kernel)) (List.forall_mem_nil _)
  have x32 : Fx (mkG PySem.Challenge.rw_tricklestore_k64_tables_of_changes.prog w K mg base T (tabsOf cs) LT XNS) F__law_values S c__law_values 3 := fx_of kb nb fK fG rfl fT (by decide +kernel) rfl (by decide +kernel) (by decide +kernel) (List.forall_mem_cons.mpr ⟨(f23.mono (by decide)).kw (by decide +kernel), List.forall_mem_nil _⟩) (List.forall_mem_nil _)
  have f32 : FnI (mkG PySem.Challenge.rw_tricklestore_k64_tables_of_changes.prog w K mg base T (tabsOf cs) LT XNS) 6 32 sp__law_values [] := def_ok (L := 3) I32 s__law_values k__law_values x32 (List.forall_mem_nil _) (fun z => absurd z (by decide +kernel)) (fun z => absurd z (by decide +kernel)) (no_lams (by decide +kernel)) (List.forall_mem_nil _)
  have x6 : Fx (mkG PySem.Challenge.rw_tricklestore_k64_tables_of_changes.prog w K mg base T (tabsOf cs) LT XNS) F_is_value S c_is_value 3 := fx_of kb nb fK fG rfl fT (by decide +kernel) rfl (by decide +kernel) (by decide +kernel) (List.forall_mem_cons.mpr ⟨(f5.mono (by decide)).kw (by decide +kernel), List.forall_mem_nil _⟩) (List.forall_mem_nil _)
  have f6 : FnI (mkG PySem.Challenge.rw_tricklestore_k64_tables_of_changes.prog w K mg base T (tabsOf cs) LT XNS) 6 6 sp_is_value [] := def_ok (L := 3) I6 s_is_value k_is_value x6 (List.forall_mem_nil _) (fun z => absurd z (by decide +kernel)) (fun z => absurd z (by decide +kernel)) (no_lams (by decide +kernel)) (List.forall_mem_nil _)
  have x7 : Fx (mkG PySem.Challenge.rw_tricklestore_k64_tables_of_changes.prog w K mg base T (tabsOf cs) LT XNS) F_is_triple S c_is_triple 6 := fx_of kb nb fK fG rfl fT (by decide +kernel) rfl (by decide +kernel) (by decide +kernel) (List.forall_mem_cons.mpr ⟨(f5.mono (by decide)).kw (by decide +kernel), List.forall_mem_cons.mpr ⟨(f6.mono (by decide)).kw (by decide +kernel), List.forall_mem_nil _⟩⟩) (List.forall_mem_nil _)
  have f7 : FnI (mkG PySem.Challenge.rw_tricklestore_k64_tables_of_changes.prog w K mg base T (tabsOf cs) LT XNS) 9 7 sp_is_triple [] := def_ok (L := 6) I7 s_is_triple k_is_triple x7 (List.forall_mem_nil _) (fun z => absurd z (by decide +kernel)) (fun z => absurd z (by decide +kernel)) (no_lams (by decide +kernel)) (List.forall_mem_nil _)
  have x8 : Fx (mkG PySem.Challenge.rw_tricklestore_k64_tables_of_changes.prog w K mg base T (tabsOf cs) LT XNS) F_is_change S c_is_change 9 := fx_of kb nb fK fG rfl fT (by decide +kernel) rfl (by decide +kernel) (by decide +kernel) (List.forall_mem_cons.mpr ⟨(f6.mono (by decide)).kw (by decide +kernel), List.forall_mem_cons.mpr ⟨(f7.mono (by decide)).kw (by decide +kernel), List.forall_mem_nil _⟩⟩) (List.forall_mem_nil _)
  have f8 : FnI (mkG PySem.Challenge.rw_tricklestore_k64_tables_of_changes.prog w K mg base T (tabsOf cs) LT XNS) 12 8 sp_is_change [] := def_ok (L := 9) I8 s_is_change k_is_change x8 (List.forall_mem_nil _) (fun z => absurd z (by decide +kernel)) (fun z => absurd z (by decide +kernel)) (no_lams (by decide +kernel)) (List.forall_mem_nil _)
  have x9 : Fx (mkG PySem.Challenge.rw_tricklestore_k64_tables_of_changes.prog w K mg base T (tabsOf cs) LT XNS) F_need_changes S c_need_changes 12 := fx_of kb nb fK fG rfl fT (by decide +kernel) rfl (by decide +kernel) (by decide +kernel) (List.forall_mem_cons.mpr ⟨(f8.mono (by decide)).kw (by decide +kernel), List.forall_mem_nil _⟩) (List.forall_mem_nil _)
  have f9 : FnI (mkG PySem.Challenge.rw_tricklestore_k64_tables_of_changes.prog w K mg base T (tabsOf cs) LT XNS) 15 9 sp_need_changes [] := def_ok (L := 12) I9 s_need_changes k_need_changes x9 (List.forall_mem_cons.mpr ⟨rsi_of fK (by decide) (by decide) (by decide +kernel), List.forall_mem_nil _⟩) (fun z => absurd z (by decide +kernel)) (fun z => absurd z (by decide +kernel)) (no_lams (by decide +kernel)) (List.forall_mem_nil _)
  have x10 : Fx (mkG PySem.Challenge.rw_tricklestore_k64_tables_of_changes.prog w K mg base T (tabsOf cs) LT XNS) F_bounded S c_bounded 0 := fx_of kb nb fK fG rfl fT (by decide +kernel) rfl (by decide +kernel) (by decide +kernel) (List.forall_mem_nil _) (List.forall_mem_nil _)
  have f10 : FnI (mkG PySem.Challenge.rw_tricklestore_k64_tables_of_changes.prog w K mg base T (tabsOf cs) LT XNS) 3 10 sp_bounded [] := def_ok (L := 0) I10 s_bounded k_bounded x10 (List.forall_mem_nil _) (fun z => absurd z (by decide +kernel)) (fun z => absurd z (by decide +kernel)) (no_lams (by decide +kernel)) (List.forall_mem_nil _)
  have x11 : Fx (mkG PySem.Challenge.rw_tricklestore_k64_tables_of_changes.prog w K mg base T (tabsOf cs) LT XNS) F_act_by S c_act_by 3 := fx_of kb nb fK fG rfl fT (by decide +kernel) rfl (by decide +kernel) (by decide +kernel) (List.forall_mem_cons.mpr ⟨(f10.mono (by decide)).kw (by decide +kernel), List.forall_mem_nil _⟩) (List.forall_mem_nil _)
  have f11 : FnI (mkG PySem.Challenge.rw_tricklestore_k64_tables_of_changes.prog w K mg base T (tabsOf cs) LT XNS) 6 11 sp_act_by [] := def_ok (L := 3) I11 s_act_by k_act_by x11 (List.forall_mem_nil _) (fun z => absurd z (by decide +kernel)) (fun z => absurd z (by decide +kernel)) (no_lams (by decide +kernel)) (List.forall_mem_nil _)
  have x17 : Fx (mkG PySem.Challenge.rw_tricklestore_k64_tables_of_changes.prog w K mg base T (tabsOf cs) LT XNS) F_table_of S c_table_of 15 := fx_of kb nb fK fG rfl fT (by decide +kernel) rfl (by decide +kernel) (by decide +kernel) (List.forall_mem_cons.mpr ⟨(f9.mono (by decide)).kw (by decide +kernel), List.forall_mem_cons.mpr ⟨(f6.mono (by decide)).kw (by decide +kernel), List.forall_mem_cons.mpr ⟨(f11.mono (by decide)).kw (by decide +kernel), List.forall_mem_nil _⟩⟩⟩) (List.forall_mem_nil _)
  have f17 : FnI (mkG PySem.Challenge.rw_tricklestore_k64_tables_of_changes.prog w K mg base T (tabsOf cs) LT XNS) 18 17 sp_table_of [(0, ["changes", "start"], [0, 1])] := def_ok (L := 15) I17 s_table_of k_table_of x17 (List.forall_mem_cons.mpr ⟨rsi_of fK (by decide) (by decide) (by decide +kernel), List.forall_mem_cons.mpr ⟨rsi_of fK (by decide) (by decide) (by decide +kernel), List.forall_mem_cons.mpr ⟨rsa_of fK (p := (4, ("most" : Str))) (by decide +kernel), List.forall_mem_nil _⟩⟩⟩) (fun z => absurd z (by decide +kernel)) (fun z => absurd z (by decide +kernel)) (no_lams (by decide +kernel)) (List.forall_mem_cons.mpr ⟨w_table_of_0, List.forall_mem_nil _⟩)
  have x33 : Fx (mkG PySem.Challenge.rw_tricklestore_k64_tables_of_changes.prog w K mg base T (tabsOf cs) LT XNS) F__law_table_right S c__law_table_right 18 := fx_of kb nb fK fG rfl fT (by decide +kernel) rfl (by decide +kernel) (by decide +kernel) (List.forall_mem_cons.mpr ⟨(f32.mono (by decide)).kw (by decide +kernel), List.forall_mem_cons.mpr ⟨(f17.mono (by decide)).kw (by decide +kernel), List.forall_mem_cons.mpr ⟨(f23.mono (by decide)).kw (by decide +kernel), List.forall_mem_nil _⟩⟩⟩) (List.forall_mem_nil _)
  have f33 : FnI (mkG PySem.Challenge.rw_tricklestore_k64_tables_of_changes.prog w K mg base T (tabsOf cs) LT XNS) 21 33 sp__law_table_right [] := def_ok (L := 18) I33 s__law_table_right k__law_table_right x33 (List.forall_mem_nil _) (fun _ => ⟨_, _, _, _, _, _, _, IC⟩) (fun _ => ⟨_, TB _ m33⟩) (no_lams (by decide +kernel)) (List.forall_mem_nil _)
  have x30 : Fx (mkG PySem.Challenge.rw_tricklestore_k64_tables_of_changes.prog w K mg base T (tabsOf cs) LT XNS) F__law_bad_table S c__law_bad_table 9 := fx_of kb nb fK fG rfl fT (by decide +kernel) rfl (by decide +kernel) (by decide +kernel) (List.forall_mem_cons.mpr ⟨(f20.mono (by decide)).kw (by decide +kernel), List.forall_mem_cons.mpr ⟨(f21.mono (by decide)).kw (by decide +kernel), List.forall_mem_nil _⟩⟩) (List.forall_mem_nil _)
  have f30 : FnI (mkG PySem.Challenge.rw_tricklestore_k64_tables_of_changes.prog w K mg base T (tabsOf cs) LT XNS) 12 30 sp__law_bad_table [] := def_ok (L := 9) I30 s__law_bad_table k__law_bad_table x30 (List.forall_mem_nil _) (fun z => absurd z (by decide +kernel)) (fun z => absurd z (by decide +kernel)) (no_lams (by decide +kernel)) (List.forall_mem_nil _)
  have x26 : Fx (mkG PySem.Challenge.rw_tricklestore_k64_tables_of_changes.prog w K mg base T (tabsOf cs) LT XNS) F__law_bad_change S c__law_bad_change 9 := fx_of kb nb fK fG rfl fT (by decide +kernel) rfl (by decide +kernel) (by decide +kernel) (List.forall_mem_cons.mpr ⟨(f21.mono (by decide)).kw (by decide +kernel), List.forall_mem_nil _⟩) (List.forall_mem_nil _)
  have f26 : FnI (mkG PySem.Challenge.rw_tricklestore_k64_tables_of_changes.prog w K mg base T (tabsOf cs) LT XNS) 12 26 sp__law_bad_change [] := def_ok (L := 9) I26 s__law_bad_change k__law_bad_change x26 (List.forall_mem_nil _) (fun z => absurd z (by decide +kernel)) (fun z => absurd z (by decide +kernel)) (no_lams (by decide +kernel)) (List.forall_mem_nil _)
  have x34 : Fx (mkG PySem.Challenge.rw_tricklestore_k64_tables_of_changes.prog w K mg base T (tabsOf cs) LT XNS) F__law_refused S c__law_refused 18 := fx_of kb nb fK fG rfl fT (by decide +kernel) rfl (by decide +kernel) (by decide +kernel) (List.forall_mem_cons.mpr ⟨(f30.mono (by decide)).kw (by decide +kernel), List.forall_mem_cons.mpr ⟨(f21.mono (by decide)).kw (by decide +kernel), List.forall_mem_cons.mpr ⟨(f16.mono (by decide)).kw (by decide +kernel), List.forall_mem_cons.mpr ⟨(f26.mono (by decide)).kw (by decide +kernel), List.forall_mem_cons.mpr ⟨(f17.mono (by decide)).kw (by decide +kernel), List.forall_mem_nil _⟩⟩⟩⟩⟩) (List.forall_mem_nil _)
  have f34 : FnI (mkG PySem.Challenge.rw_tricklestore_k64_tables_of_changes.prog w K mg base T (tabsOf cs) LT XNS) 21 34 sp__law_refused [] := def_ok (L := 18) I34 s__law_refused k__law_refused x34 (List.forall_mem_nil _) (fun _ => ⟨_, _, _, _, _, _, _, IC⟩) (fun _ => ⟨_, TB _ m34⟩) (no_lams (by decide +kernel)) (List.forall_mem_nil _)
  have x35 : Fx (mkG PySem.Challenge.rw_tricklestore_k64_tables_of_changes.prog w K mg base T (tabsOf cs) LT XNS) F_law S c_law 21 := fx_of kb nb fK fG rfl fT (by decide +kernel) rfl (by decide +kernel) (by decide +kernel) (List.forall_mem_cons.mpr ⟨(f18.mono (by decide)).kw (by decide +kernel), List.forall_mem_cons.mpr ⟨(f28.mono (by decide)).kw (by decide +kernel), List.forall_mem_cons.mpr ⟨(f21.mono (by decide)).kw (by decide +kernel), List.forall_mem_cons.mpr ⟨(f16.mono (by decide)).kw (by decide +kernel), List.forall_mem_cons.mpr ⟨(f29.mono (by decide)).kw (by decide +kernel), List.forall_mem_cons.mpr ⟨(f27.mono (by decide)).kw (by decide +kernel), List.forall_mem_cons.mpr ⟨(f31.mono (by decide)).kw (by decide +kernel), List.forall_mem_cons.mpr ⟨(f33.mono (by decide)).kw (by decide +kernel), List.forall_mem_cons.mpr ⟨(f34.mono (by decide)).kw (by decide +kernel), List.forall_mem_nil _⟩⟩⟩⟩⟩⟩⟩⟩⟩) (List.forall_mem_nil _)
  have z := def_fnT (L := 21) I35 s_law k_law x35 (List.forall_mem_nil _) (fun z => absurd z (by decide +kernel)) (fun z => absurd z (by decide +kernel)) (no_lams (by decide +kernel)) l35
  exact z
theorem all_ok {q : Program} {w : World} {K : PySem.W.Frag} {h : Heap} {mg : Str → Option Value} {fa a0 a1 a2 a3 a4 a18 a19 a20 a21 a28 a5 a12 a13 a14 a15 a16 a29 a27 a24 a25 a31 a23 a32 a6 a7 a8 a9 a10 a11 a17 a33 a30 a26 a34 a35 a22 a36 d18 d19 d20 d21 d28 d5 d12 d13 d14 d15 d16 d29 d27 d24 d25 d31 d23 d32 d6 d7 d8 d9 d10 d11 d17 d33 d30 d26 d34 d35 d22 p33 p34 : Addr} (X : K.In h) (Gn : h.Ns mainGlobals mg) (hfa : mg "law" = some (.ref fa)) (tk : TabsK q K h)
    {oc18 kV18 dc18 pm18 ct18 : Value} {od18 an18 : Option Addr} {sl18 : Array (Option Value)} {oc19 kV19 dc19 pm19 ct19 : Value} {od19 an19 : Option Addr} {sl19 : Array (Option Value)} {oc20 kV20 dc20 pm20 ct20 : Value} {od20 an20 : Option Addr} {sl20 : Array (Option Value)} {oc21 kV21 dc21 pm21 ct21 : Value} {od21 an21 : Option Addr} {sl21 : Array (Option Value)} {oc28 kV28 dc28 pm28 ct28 : Value} {od28 an28 : Option Addr} {sl28 : Array (Option Value)} {oc5 kV5 dc5 pm5 ct5 : Value} {od5 an5 : Option Addr} {sl5 : Array (Option Value)} {oc12 kV12 dc12 pm12 ct12 : Value} {od12 an12 : Option Addr} {sl12 : Array (Option Value)} {oc13 kV13 dc13 pm13 ct13 : Value} {od13 an13 : Option Addr} {sl13 : Array (Option Value)} {oc14 kV14 dc14 pm14 ct14 : Value} {od14 an14 : Option Addr} {sl14 : Array (Option Value)} {oc15 kV15 dc15 pm15 ct15 : Value} {od15 an15 : Option Addr} {sl15 : Array (Option Value)} {oc16 kV16 dc16 pm16 ct16 : Value} {od16 an16 : Option Addr} {sl16 : Array (Option Value)} {oc29 kV29 dc29 pm29 ct29 : Value} {od29 an29 : Option Addr} {sl29 : Array (Option Value)} {oc27 kV27 dc27 pm27 ct27 : Value} {od27 an27 : Option Addr} {sl27 : Array (Option Value)} {oc24 kV24 dc24 pm24 ct24 : Value} {od24 an24 : Option Addr} {sl24 : Array (Option Value)} {oc25 kV25 dc25 pm25 ct25 : Value} {od25 an25 : Option Addr} {sl25 : Array (Option Value)} {oc31 kV31 dc31 pm31 ct31 : Value} {od31 an31 : Option Addr} {sl31 : Array (Option Value)} {oc23 kV23 dc23 pm23 ct23 : Value} {od23 an23 : Option Addr} {sl23 : Array (Option Value)} {oc32 kV32 dc32 pm32 ct32 : Value} {od32 an32 : Option Addr} {sl32 : Array (Option Value)} {oc6 kV6 dc6 pm6 ct6 : Value} {od6 an6 : Option Addr} {sl6 : Array (Option Value)} {oc7 kV7 dc7 pm7 ct7 : Value} {od7 an7 : Option Addr} {sl7 : Array (Option Value)} {oc8 kV8 dc8 pm8 ct8 : Value} {od8 an8 : Option Addr} {sl8 : Array (Option Value)} {oc9 kV9 dc9 pm9 ct9 : Value} {od9 an9 : Option Addr} {sl9 : Array (Option Value)} {oc10 kV10 dc10 pm10 ct10 : Value} {od10 an10 : Option Addr} {sl10 : Array (Option Value)} {oc11 kV11 dc11 pm11 ct11 : Value} {od11 an11 : Option Addr} {sl11 : Array (Option Value)} {oc17 kV17 dc17 pm17 ct17 : Value} {od17 an17 : Option Addr} {sl17 : Array (Option Value)} {oc33 kV33 dc33 pm33 ct33 : Value} {od33 an33 : Option Addr} {sl33 : Array (Option Value)} {oc30 kV30 dc30 pm30 ct30 : Value} {od30 an30 : Option Addr} {sl30 : Array (Option Value)} {oc26 kV26 dc26 pm26 ct26 : Value} {od26 an26 : Option Addr} {sl26 : Array (Option Value)} {oc34 kV34 dc34 pm34 ct34 : Value} {od34 an34 : Option Addr} {sl34 : Array (Option Value)} {oc35 kV35 dc35 pm35 ct35 : Value} {od35 an35 : Option Addr} {sl35 : Array (Option Value)} {oc22 kV22 dc22 pm22 ct22 : Value} {od22 an22 : Option Addr} {sl22 : Array (Option Value)} {u33 : Value} {v33 : Option Addr} {vs33 : Array Value} {z33 : Array (Option Value)} {u34 : Value} {v34 : Option Addr} {vs34 : Array Value} {z34 : Array (Option Value)}
    (g0 : PySem.W.nsIn K mainGlobals "StoreError" = some (some (.ref a0)))
    (g1 : PySem.W.nsIn K mainGlobals "BadChanges" = some (some (.ref a1)))
    (g2 : PySem.W.nsIn K mainGlobals "BadTable" = some (some (.ref a2)))
    (g3 : PySem.W.nsIn K mainGlobals "BadValue" = some (some (.ref a3)))
    (g4 : PySem.W.nsIn K mainGlobals "TooMany" = some (some (.ref a4)))
    (g18 : PySem.W.nsIn K mainGlobals "_law_begun" = some (some (.ref a18)))
    (g19 : PySem.W.nsIn K mainGlobals "_law_blend" = some (some (.ref a19)))
    (g20 : PySem.W.nsIn K mainGlobals "_law_take" = some (some (.ref a20)))
    (g21 : PySem.W.nsIn K mainGlobals "_law_pick" = some (some (.ref a21)))
    (g28 : PySem.W.nsIn K mainGlobals "_law_table" = some (some (.ref a28)))
    (g5 : PySem.W.nsIn K mainGlobals "is_number" = some (some (.ref a5)))
    (g12 : PySem.W.nsIn K mainGlobals "is_index" = some (some (.ref a12)))
    (g13 : PySem.W.nsIn K mainGlobals "is_table_row" = some (some (.ref a13)))
    (g14 : PySem.W.nsIn K mainGlobals "need_table" = some (some (.ref a14)))
    (g15 : PySem.W.nsIn K mainGlobals "values_by" = some (some (.ref a15)))
    (g16 : PySem.W.nsIn K mainGlobals "values_from" = some (some (.ref a16)))
    (g29 : PySem.W.nsIn K mainGlobals "_law_reached" = some (some (.ref a29)))
    (g27 : PySem.W.nsIn K mainGlobals "_law_words" = some (some (.ref a27)))
    (g24 : PySem.W.nsIn K mainGlobals "_law_number" = some (some (.ref a24)))
    (g25 : PySem.W.nsIn K mainGlobals "_law_a_change" = some (some (.ref a25)))
    (g31 : PySem.W.nsIn K mainGlobals "_law_some_changes" = some (some (.ref a31)))
    (g23 : PySem.W.nsIn K mainGlobals "_law_acted" = some (some (.ref a23)))
    (g32 : PySem.W.nsIn K mainGlobals "_law_values" = some (some (.ref a32)))
    (g6 : PySem.W.nsIn K mainGlobals "is_value" = some (some (.ref a6)))
    (g7 : PySem.W.nsIn K mainGlobals "is_triple" = some (some (.ref a7)))
    (g8 : PySem.W.nsIn K mainGlobals "is_change" = some (some (.ref a8)))
    (g9 : PySem.W.nsIn K mainGlobals "need_changes" = some (some (.ref a9)))
    (g10 : PySem.W.nsIn K mainGlobals "bounded" = some (some (.ref a10)))
    (g11 : PySem.W.nsIn K mainGlobals "act_by" = some (some (.ref a11)))
    (g17 : PySem.W.nsIn K mainGlobals "table_of" = some (some (.ref a17)))
    (g33 : PySem.W.nsIn K mainGlobals "_law_table_right" = some (some (.ref a33)))
    (g30 : PySem.W.nsIn K mainGlobals "_law_bad_table" = some (some (.ref a30)))
    (g26 : PySem.W.nsIn K mainGlobals "_law_bad_change" = some (some (.ref a26)))
    (g34 : PySem.W.nsIn K mainGlobals "_law_refused" = some (some (.ref a34)))
    (g35 : PySem.W.nsIn K mainGlobals "law" = some (some (.ref a35)))
    (g22 : PySem.W.nsIn K mainGlobals "_law_caught" = some (some (.ref a22)))
    (g36 : PySem.W.nsIn K mainGlobals "CARES" = some (some (.ref a36)))
    (l18 : K.lookup a18 = some ⟨oc18, od18, .func (PySem.W.fnOf "_law_begun" "_law_begun" (defArgs (st 23)) (defBody (st 23)) (defScope (st 23)) .none kV18 dc18 pm18 an18 (.ref d18) ct18), sl18⟩)
    (l19 : K.lookup a19 = some ⟨oc19, od19, .func (PySem.W.fnOf "_law_blend" "_law_blend" (defArgs (st 24)) (defBody (st 24)) (defScope (st 24)) .none kV19 dc19 pm19 an19 (.ref d19) ct19), sl19⟩)
    (l20 : K.lookup a20 = some ⟨oc20, od20, .func (PySem.W.fnOf "_law_take" "_law_take" (defArgs (st 25)) (defBody (st 25)) (defScope (st 25)) .none kV20 dc20 pm20 an20 (.ref d20) ct20), sl20⟩)
    (l21 : K.lookup a21 = some ⟨oc21, od21, .func (PySem.W.fnOf "_law_pick" "_law_pick" (defArgs (st 26)) (defBody (st 26)) (defScope (st 26)) .none kV21 dc21 pm21 an21 (.ref d21) ct21), sl21⟩)
    (l28 : K.lookup a28 = some ⟨oc28, od28, .func (PySem.W.fnOf "_law_table" "_law_table" (defArgs (st 33)) (defBody (st 33)) (defScope (st 33)) .none kV28 dc28 pm28 an28 (.ref d28) ct28), sl28⟩)
    (l5 : K.lookup a5 = some ⟨oc5, od5, .func (PySem.W.fnOf "is_number" "is_number" (defArgs (st 7)) (defBody (st 7)) (defScope (st 7)) .none kV5 dc5 pm5 an5 (.ref d5) ct5), sl5⟩)
    (l12 : K.lookup a12 = some ⟨oc12, od12, .func (PySem.W.fnOf "is_index" "is_index" (defArgs (st 16)) (defBody (st 16)) (defScope (st 16)) .none kV12 dc12 pm12 an12 (.ref d12) ct12), sl12⟩)
    (l13 : K.lookup a13 = some ⟨oc13, od13, .func (PySem.W.fnOf "is_table_row" "is_table_row" (defArgs (st 17)) (defBody (st 17)) (defScope (st 17)) .none kV13 dc13 pm13 an13 (.ref d13) ct13), sl13⟩)
    (l14 : K.lookup a14 = some ⟨oc14, od14, .func (PySem.W.fnOf "need_table" "need_table" (defArgs (st 18)) (defBody (st 18)) (defScope (st 18)) .none kV14 dc14 pm14 an14 (.ref d14) ct14), sl14⟩)
    (l15 : K.lookup a15 = some ⟨oc15, od15, .func (PySem.W.fnOf "values_by" "values_by" (defArgs (st 19)) (defBody (st 19)) (defScope (st 19)) .none kV15 dc15 pm15 an15 (.ref d15) ct15), sl15⟩)
    (l16 : K.lookup a16 = some ⟨oc16, od16, .func (PySem.W.fnOf "values_from" "values_from" (defArgs (st 20)) (defBody (st 20)) (defScope (st 20)) .none kV16 dc16 pm16 an16 (.ref d16) ct16), sl16⟩)
    (l29 : K.lookup a29 = some ⟨oc29, od29, .func (PySem.W.fnOf "_law_reached" "_law_reached" (defArgs (st 34)) (defBody (st 34)) (defScope (st 34)) .none kV29 dc29 pm29 an29 (.ref d29) ct29), sl29⟩)
    (l27 : K.lookup a27 = some ⟨oc27, od27, .func (PySem.W.fnOf "_law_words" "_law_words" (defArgs (st 32)) (defBody (st 32)) (defScope (st 32)) .none kV27 dc27 pm27 an27 (.ref d27) ct27), sl27⟩)
    (l24 : K.lookup a24 = some ⟨oc24, od24, .func (PySem.W.fnOf "_law_number" "_law_number" (defArgs (st 29)) (defBody (st 29)) (defScope (st 29)) .none kV24 dc24 pm24 an24 (.ref d24) ct24), sl24⟩)
    (l25 : K.lookup a25 = some ⟨oc25, od25, .func (PySem.W.fnOf "_law_a_change" "_law_a_change" (defArgs (st 30)) (defBody (st 30)) (defScope (st 30)) .none kV25 dc25 pm25 an25 (.ref d25) ct25), sl25⟩)
    (l31 : K.lookup a31 = some ⟨oc31, od31, .func (PySem.W.fnOf "_law_some_changes" "_law_some_changes" (defArgs (st 36)) (defBody (st 36)) (defScope (st 36)) .none kV31 dc31 pm31 an31 (.ref d31) ct31), sl31⟩)
    (l23 : K.lookup a23 = some ⟨oc23, od23, .func (PySem.W.fnOf "_law_acted" "_law_acted" (defArgs (st 28)) (defBody (st 28)) (defScope (st 28)) .none kV23 dc23 pm23 an23 (.ref d23) ct23), sl23⟩)
    (l32 : K.lookup a32 = some ⟨oc32, od32, .func (PySem.W.fnOf "_law_values" "_law_values" (defArgs (st 37)) (defBody (st 37)) (defScope (st 37)) .none kV32 dc32 pm32 an32 (.ref d32) ct32), sl32⟩)
    (l6 : K.lookup a6 = some ⟨oc6, od6, .func (PySem.W.fnOf "is_value" "is_value" (defArgs (st 8)) (defBody (st 8)) (defScope (st 8)) .none kV6 dc6 pm6 an6 (.ref d6) ct6), sl6⟩)
    (l7 : K.lookup a7 = some ⟨oc7, od7, .func (PySem.W.fnOf "is_triple" "is_triple" (defArgs (st 9)) (defBody (st 9)) (defScope (st 9)) .none kV7 dc7 pm7 an7 (.ref d7) ct7), sl7⟩)
    (l8 : K.lookup a8 = some ⟨oc8, od8, .func (PySem.W.fnOf "is_change" "is_change" (defArgs (st 10)) (defBody (st 10)) (defScope (st 10)) .none kV8 dc8 pm8 an8 (.ref d8) ct8), sl8⟩)
    (l9 : K.lookup a9 = some ⟨oc9, od9, .func (PySem.W.fnOf "need_changes" "need_changes" (defArgs (st 11)) (defBody (st 11)) (defScope (st 11)) .none kV9 dc9 pm9 an9 (.ref d9) ct9), sl9⟩)
    (l10 : K.lookup a10 = some ⟨oc10, od10, .func (PySem.W.fnOf "bounded" "bounded" (defArgs (st 12)) (defBody (st 12)) (defScope (st 12)) .none kV10 dc10 pm10 an10 (.ref d10) ct10), sl10⟩)
    (l11 : K.lookup a11 = some ⟨oc11, od11, .func (PySem.W.fnOf "act_by" "act_by" (defArgs (st 13)) (defBody (st 13)) (defScope (st 13)) .none kV11 dc11 pm11 an11 (.ref d11) ct11), sl11⟩)
    (l17 : K.lookup a17 = some ⟨oc17, od17, .func (PySem.W.fnOf "table_of" "table_of" (defArgs (st 21)) (defBody (st 21)) (defScope (st 21)) .none kV17 dc17 pm17 an17 (.ref d17) ct17), sl17⟩)
    (l33 : K.lookup a33 = some ⟨oc33, od33, .func (PySem.W.fnOf "_law_table_right" "_law_table_right" (defArgs (st 38)) (defBody (st 38)) (defScope (st 38)) .none kV33 dc33 pm33 an33 (.ref d33) ct33), sl33⟩)
    (l30 : K.lookup a30 = some ⟨oc30, od30, .func (PySem.W.fnOf "_law_bad_table" "_law_bad_table" (defArgs (st 35)) (defBody (st 35)) (defScope (st 35)) .none kV30 dc30 pm30 an30 (.ref d30) ct30), sl30⟩)
    (l26 : K.lookup a26 = some ⟨oc26, od26, .func (PySem.W.fnOf "_law_bad_change" "_law_bad_change" (defArgs (st 31)) (defBody (st 31)) (defScope (st 31)) .none kV26 dc26 pm26 an26 (.ref d26) ct26), sl26⟩)
    (l34 : K.lookup a34 = some ⟨oc34, od34, .func (PySem.W.fnOf "_law_refused" "_law_refused" (defArgs (st 39)) (defBody (st 39)) (defScope (st 39)) .none kV34 dc34 pm34 an34 (.ref d34) ct34), sl34⟩)
    (l35 : K.lookup a35 = some ⟨oc35, od35, .func (PySem.W.fnOf "law" "law" (defArgs (st 40)) (defBody (st 40)) (defScope (st 40)) .none kV35 dc35 pm35 an35 (.ref d35) ct35), sl35⟩)
    (l22 : K.lookup a22 = some ⟨oc22, od22, .func (PySem.W.fnOf "_law_caught" "_law_caught" (defArgs (st 27)) (defBody (st 27)) (defScope (st 27)) .none kV22 dc22 pm22 an22 (.ref d22) ct22), sl22⟩)
    (q33 : K.lookup d33 = some ⟨u33, v33, .fields vs33, z33⟩)
    (r33 : vs33[11]? = some (.ref p33))
    (q34 : K.lookup d34 = some ⟨u34, v34, .fields vs34, z34⟩)
    (r34 : vs34[11]? = some (.ref p34))
    (fK : kinB PySem.Challenge.rw_tricklestore_k64_tables_of_changes.prog K ([a0, a1, a2, a3, a4, a5, a6, a7, a8, a9, a10, a11, a12, a13, a14, a15, a16, a17, a18, a19, a20, a21, a22, a23, a24] ++ [a25, a26, a27, a28, a29, a30, a31, a32, a33, a34, a35, a36]) 5 XNS = true)
    (fG : glbB K ([a0, a1, a2, a3, a4, a5, a6, a7, a8, a9, a10, a11, a12, a13, a14, a15, a16, a17, a18, a19, a20, a21, a22, a23, a24] ++ [a25, a26, a27, a28, a29, a30, a31, a32, a33, a34, a35, a36]) GL = true)
    (fT : gtsB K ([a0, a1, a2, a3, a4, a5, a6, a7, a8, a9, a10, a11, a12, a13, a14, a15, a16, a17, a18, a19, a20, a21, a22, a23, a24] ++ [a25, a26, a27, a28, a29, a30, a31, a32, a33, a34, a35, a36]) GTS = true)
    (fD : defsB K (dsOf ([a0, a1, a2, a3, a4, a5, a6, a7, a8, a9, a10, a11, a12, a13, a14, a15, a16, a17, a18, a19, a20, a21, a22, a23, a24] ++ [a25, a26, a27, a28, a29, a30, a31, a32, a33, a34, a35, a36]) ([(18, d18, ("_law_begun" : Str)), (19, d19, ("_law_blend" : Str)), (20, d20, ("_law_take" : Str)), (21, d21, ("_law_pick" : Str)), (28, d28, ("_law_table" : Str)), (5, d5, ("is_number" : Str)), (12, d12, ("is_index" : Str)), (13, d13, ("is_table_row" : Str)), (14, d14, ("need_table" : Str)), (15, d15, ("values_by" : Str)), (16, d16, ("values_from" : Str)), (29, d29, ("_law_reached" : Str)), (27, d27, ("_law_words" : Str)), (24, d24, ("_law_number" : Str)), (25, d25, ("_law_a_change" : Str)), (31, d31, ("_law_some_changes" : Str)), (23, d23, ("_law_acted" : Str)), (32, d32, ("_law_values" : Str)), (6, d6, ("is_value" : Str)), (7, d7, ("is_triple" : Str)), (8, d8, ("is_change" : Str)), (9, d9, ("need_changes" : Str)), (10, d10, ("bounded" : Str)), (11, d11, ("act_by" : Str)), (17, d17, ("table_of" : Str))] ++ [(33, d33, ("_law_table_right" : Str)), (30, d30, ("_law_bad_table" : Str)), (26, d26, ("_law_bad_change" : Str)), (34, d34, ("_law_refused" : Str)), (35, d35, ("law" : Str)), (22, d22, ("_law_caught" : Str))])) = true)
    (fC : csB q K [(d33, p33, "_law_table_right"), (d34, p34, "_law_refused")] = true)
    (hS : ∀ (ns : List Int) (d : D) (A : AH), ns.length ≤ 63 → (∀ z ∈ ns, Builtin.Int.intBits z ≤ 1048576) → Start ns d A → sp_law [d] A (fun v _ => v = .bl true) fun _ _ _ => False) :
    LamX.LawAtS PySem.Challenge.rw_tricklestore_k64_tables_of_changes w K (L2.CX PySem.Challenge.rw_tricklestore_k64_tables_of_changes.prog w) 24 63 "_law_script" mg fa h := by
  have e0 : some (Value.ref a35) = some (.ref fa) := (PySem.W.mg_of X Gn g35).symm.trans hfa
  have e : a35 = fa := by cases e0; rfl
  obtain ⟨T, hT⟩ : ∃ T : List Addr, T = ([a0, a1, a2, a3, a4, a5, a6, a7, a8, a9, a10, a11, a12, a13, a14, a15, a16, a17, a18, a19, a20, a21, a22, a23, a24] ++ [a25, a26, a27, a28, a29, a30, a31, a32, a33, a34, a35, a36]) := ⟨_, rfl⟩
  rw [← hT] at fK fG fT fD
  have t__law_begun : T.getD 18 0 = a18 := by rw [hT]; rfl
  rw [← t__law_begun] at l18
  have t__law_blend : T.getD 19 0 = a19 := by rw [hT]; rfl
  rw [← t__law_blend] at l19
  have t__law_take : T.getD 20 0 = a20 := by rw [hT]; rfl
  rw [← t__law_take] at l20
  have t__law_pick : T.getD 21 0 = a21 := by rw [hT]; rfl
  rw [← t__law_pick] at l21
  have t__law_table : T.getD 28 0 = a28 := by rw [hT]; rfl
  rw [← t__law_table] at l28
  have t_is_number : T.getD 5 0 = a5 := by rw [hT]; rfl
  rw [← t_is_number] at l5
  have t_is_index : T.getD 12 0 = a12 := by rw [hT]; rfl
  rw [← t_is_index] at l12
  have t_is_table_row : T.getD 13 0 = a13 := by rw [hT]; rfl
  rw [← t_is_table_row] at l13
  have t_need_table : T.getD 14 0 = a14 := by rw [hT]; rfl
  rw [← t_need_table] at l14
  have t_values_by : T.getD 15 0 = a15 := by rw [hT]; rfl
  rw [← t_values_by] at l15
  have t_values_from : T.getD 16 0 = a16 := by rw [hT]; rfl
  rw [← t_values_from] at l16
  have t__law_reached : T.getD 29 0 = a29 := by rw [hT]; rfl
  rw [← t__law_reached] at l29
  have t__law_words : T.getD 27 0 = a27 := by rw [hT]; rfl
  rw [← t__law_words] at l27
  have t__law_number : T.getD 24 0 = a24 := by rw [hT]; rfl
  rw [← t__law_number] at l24
  have t__law_a_change : T.getD 25 0 = a25 := by rw [hT]; rfl
  rw [← t__law_a_change] at l25
  have t__law_some_changes : T.getD 31 0 = a31 := by rw [hT]; rfl
  rw [← t__law_some_changes] at l31
  have t__law_acted : T.getD 23 0 = a23 := by rw [hT]; rfl
  rw [← t__law_acted] at l23
  have t__law_values : T.getD 32 0 = a32 := by rw [hT]; rfl
  rw [← t__law_values] at l32
  have t_is_value : T.getD 6 0 = a6 := by rw [hT]; rfl
  rw [← t_is_value] at l6
  have t_is_triple : T.getD 7 0 = a7 := by rw [hT]; rfl
  rw [← t_is_triple] at l7
  have t_is_change : T.getD 8 0 = a8 := by rw [hT]; rfl
  rw [← t_is_change] at l8
  have t_need_changes : T.getD 9 0 = a9 := by rw [hT]; rfl
  rw [← t_need_changes] at l9
  have t_bounded : T.getD 10 0 = a10 := by rw [hT]; rfl
  rw [← t_bounded] at l10
  have t_act_by : T.getD 11 0 = a11 := by rw [hT]; rfl
  rw [← t_act_by] at l11
  have t_table_of : T.getD 17 0 = a17 := by rw [hT]; rfl
  rw [← t_table_of] at l17
  have t__law_table_right : T.getD 33 0 = a33 := by rw [hT]; rfl
  rw [← t__law_table_right] at l33
  have t__law_bad_table : T.getD 30 0 = a30 := by rw [hT]; rfl
  rw [← t__law_bad_table] at l30
  have t__law_bad_change : T.getD 26 0 = a26 := by rw [hT]; rfl
  rw [← t__law_bad_change] at l26
  have t__law_refused : T.getD 34 0 = a34 := by rw [hT]; rfl
  rw [← t__law_refused] at l34
  have t_law : T.getD 35 0 = a35 := by rw [hT]; rfl
  rw [← t_law] at l35
  have t__law_caught : T.getD 22 0 = a22 := by rw [hT]; rfl
  rw [← t__law_caught] at l22
  rw [← e, ← t_law]
  exact defs_ok (T := T) (cs := [(d33, p33, "_law_table_right"), (d34, p34, "_law_refused")]) X Gn tk l18 l19 l20 l21 l28 l5 l12 l13 l14 l15 l16 l29 l27 l24 l25 l31 l23 l32 l6 l7 l8 l9 l10 l11 l17 l33 l30 l26 l34 l35 l22 (.head _) (.tail _ (.head _)) fK fG fT fD fC hS
end Z64
set_option Elab.async false
set_option linter.all false
set_option maxRecDepth 100000
set_option maxHeartbeats 16000000
open PySem PySem.W PyProof.Rows
set_option maxRecDepth 100000 in
set_option maxHeartbeats 0 in
theorem PySem.Challenge.cw_tricklestore_k64_tables_of_changes_holds : PySem.Challenge.rw_tricklestore_k64_tables_of_changes.Holds := by
  w_on; o_law; k_head; (case hw => w_witness2)
  k_fill
  refine Zw.walk_ofAll (l := PySem.Challenge.rw_tricklestore_k64_tables_of_changes) (n := 63) (k := 24) (x := "_law_script") rfl (by decide) rfl ⟨rfl, by decide, by decide⟩ (fun w h Y => by first | exact PySem.W.kIn_of Y | exact PySem.W.km_in_of Y) ?F
  case F =>
    intro w mg fa h KX G hmg tk
    refine' Z64.all_ok KX G hmg tk ?zz_g0 ?zz_g1 ?zz_g2 ?zz_g3 ?zz_g4 ?zz_g18 ?zz_g19 ?zz_g20 ?zz_g21 ?zz_g28 ?zz_g5 ?zz_g12 ?zz_g13 ?zz_g14 ?zz_g15 ?zz_g16 ?zz_g29 ?zz_g27 ?zz_g24 ?zz_g25 ?zz_g31 ?zz_g23 ?zz_g32 ?zz_g6 ?zz_g7 ?zz_g8 ?zz_g9 ?zz_g10 ?zz_g11 ?zz_g17 ?zz_g33 ?zz_g30 ?zz_g26 ?zz_g34 ?zz_g35 ?zz_g22 ?zz_g36 ?zz_l18 ?zz_l19 ?zz_l20 ?zz_l21 ?zz_l28 ?zz_l5 ?zz_l12 ?zz_l13 ?zz_l14 ?zz_l15 ?zz_l16 ?zz_l29 ?zz_l27 ?zz_l24 ?zz_l25 ?zz_l31 ?zz_l23 ?zz_l32 ?zz_l6 ?zz_l7 ?zz_l8 ?zz_l9 ?zz_l10 ?zz_l11 ?zz_l17 ?zz_l33 ?zz_l30 ?zz_l26 ?zz_l34 ?zz_l35 ?zz_l22 ?zz_q33 ?zz_r33 ?zz_q34 ?zz_r34 ?zz_fK ?zz_fG ?zz_fT ?zz_fD ?zz_fC ?zz_hS
    (case zz_g0 => k_is)
    (case zz_g1 => k_is)
    (case zz_g2 => k_is)
    (case zz_g3 => k_is)
    (case zz_g4 => k_is)
    (case zz_g18 => k_is)
    (case zz_g19 => k_is)
    (case zz_g20 => k_is)
    (case zz_g21 => k_is)
    (case zz_g28 => k_is)
    (case zz_g5 => k_is)
    (case zz_g12 => k_is)
    (case zz_g13 => k_is)
    (case zz_g14 => k_is)
    (case zz_g15 => k_is)
    (case zz_g16 => k_is)
    (case zz_g29 => k_is)
    (case zz_g27 => k_is)
    (case zz_g24 => k_is)
    (case zz_g25 => k_is)
    (case zz_g31 => k_is)
    (case zz_g23 => k_is)
    (case zz_g32 => k_is)
    (case zz_g6 => k_is)
    (case zz_g7 => k_is)
    (case zz_g8 => k_is)
    (case zz_g9 => k_is)
    (case zz_g10 => k_is)
    (case zz_g11 => k_is)
    (case zz_g17 => k_is)
    (case zz_g33 => k_is)
    (case zz_g30 => k_is)
    (case zz_g26 => k_is)
    (case zz_g34 => k_is)
    (case zz_g35 => k_is)
    (case zz_g22 => k_is)
    (case zz_g36 => k_is)
    (case zz_l18 => k_is)
    (case zz_l19 => k_is)
    (case zz_l20 => k_is)
    (case zz_l21 => k_is)
    (case zz_l28 => k_is)
    (case zz_l5 => k_is)
    (case zz_l12 => k_is)
    (case zz_l13 => k_is)
    (case zz_l14 => k_is)
    (case zz_l15 => k_is)
    (case zz_l16 => k_is)
    (case zz_l29 => k_is)
    (case zz_l27 => k_is)
    (case zz_l24 => k_is)
    (case zz_l25 => k_is)
    (case zz_l31 => k_is)
    (case zz_l23 => k_is)
    (case zz_l32 => k_is)
    (case zz_l6 => k_is)
    (case zz_l7 => k_is)
    (case zz_l8 => k_is)
    (case zz_l9 => k_is)
    (case zz_l10 => k_is)
    (case zz_l11 => k_is)
    (case zz_l17 => k_is)
    (case zz_l33 => k_is)
    (case zz_l30 => k_is)
    (case zz_l26 => k_is)
    (case zz_l34 => k_is)
    (case zz_l35 => k_is)
    (case zz_l22 => k_is)
    (case zz_q33 => k_is)
    (case zz_r33 => rfl)
    (case zz_q34 => k_is)
    (case zz_r34 => rfl)
    (case zz_fK => kernel_rfl)
    (case zz_fG => kernel_rfl)
    (case zz_fT => kernel_rfl)
    (case zz_fD => kernel_rfl)
    (case zz_fC => kernel_rfl)
    (case zz_hS => exact Z64.law_true)
